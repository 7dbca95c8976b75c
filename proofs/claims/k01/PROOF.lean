import PyProof.Rows.All
import Wide.All
import OpenK.AllK
import Wide.FinOn
import HandS.ForMost
import HandS.ForExc
import HandS.Wide
import HandS.Star
import HandS.IsInst
import HandS.Style
import HandS.Flow
import HandS.Lambda
import HandS.EndTab
import HandS.Nested
import HandS.Comp
import HandS.ExcInit
import HandS.ExcField
import HandS.ExcOwn
import HandS.ExcIs
import KE.KExcSuper
import HandS.Walk
import HandS.Zip
import HandS.Rev
import HandS.Iter
import HandS.RaiseMore
import PyProof.Rows.NestShow
import HandS.CallLocal
import PyProof.ReprLen
import PyProof.Rows.ReprItems
import PyProof.Rows.RegStrFacts
import HandS.MakeKw
import HandS.MakeKwOnly
import HandS.Property
import KE.KSuper
import PyProof.InstEq
import HandS.SortInts
import KE.GoesMore
import KE.DataMinMax
import HandS.SlotsOwn
import HandS.ClsMeth
import HandS.FStr
import HandS.SetFor
import KE.KCallOwn
import HandS.ExcValue
import PySem.Challenge.RW_wheelreach_k01_errors_keep_their_fields
set_option Elab.async false
set_option linter.all false
set_option maxRecDepth 100000
set_option maxHeartbeats 4000000
/-! A walk by weakest preconditions over a ledger: the environment by names, the heap as a list of known objects. -/
namespace G
open PySem PySem.Spec PyProof.Rows L2

/-! ### 1. Environment, ledger -/
abbrev En := List (Str × Option V)
abbrev Lg := List (Addr × HO)
def names (η : En) : List Str := η.map (·.1)
def vals (η : En) : L2.St := η.map (·.2)
/-- the mark of a code object's table in a ledger: what stands in it are code objects named q -/
def tabM (q : Str) : HO := .tbl #[.str q 0]
/-- what an entry says -/
def holds (H : Hp) (a : Addr) : HO → Prop
  | .tbl m => ∃ q, HO.tbl m = tabM q ∧ LamX.TabS H a q
  | o => H a = some o
/-- neither a table nor a thing told by a predicate -/
def plain : HO → Bool
  | .tbl _ => false
  | .ext _ => false
  | _ => true
def notab : HO → Bool
  | .tbl _ => false
  | _ => true
theorem holds_of {H : Hp} {a : Addr} {o : HO} (n : notab o = true) (h : H a = some o) : holds H a o := by
  cases o <;> first | exact h | cases n
theorem holds_get {H : Hp} {a : Addr} {o : HO} (n : notab o = true) (h : holds H a o) : H a = some o := by
  cases o <;> first | exact h | cases n
theorem holds_tab {H : Hp} {a : Addr} {q : Str} (h : holds H a (tabM q)) : LamX.TabS H a q := by
  obtain ⟨r, e, t⟩ := h
  unfold tabM at e
  have e1 := HO.tbl.inj e
  have e2 : [Value.str q 0] = [Value.str r 0] := congrArg Array.toList e1
  have e3 : q = r := by
    injection e2 with e2 _
    injection e2
  rw [e3]
  exact t
theorem holds_tab' {H : Hp} {a : Addr} {q : Str} (h : LamX.TabS H a q) : holds H a (tabM q) := ⟨q, rfl, h⟩
theorem plain_notab {o : HO} (h : plain o = true) : notab o = true := by
  cases o <;> first | rfl | cases h
theorem holds_some {H : Hp} {a : Addr} {o : HO} (h : holds H a o) : ∃ u, H a = some u := by
  cases o with
  | tbl m =>
    obtain ⟨q, _, ps, e, _⟩ := h
    exact ⟨_, e⟩
  | _ => exact ⟨_, h⟩
theorem holds_grow {H H' : Hp} {a : Addr} {o : HO} (g : ∀ b u, H b = some u → H' b = some u) (h : holds H a o) : holds H' a o := by
  cases o with
  | tbl m =>
    obtain ⟨q, e, t⟩ := h
    exact ⟨q, e, t.ext g⟩
  | _ => exact g _ _ h
theorem holds_upd {H : Hp} {a p : Addr} {o u v : HO} (e : H p = some u) (n : plain u = true) (ne : a ≠ p) (h : holds H a o) : holds (upd H p v) a o := by
  cases o with
  | tbl m =>
    obtain ⟨q, em, ps, e1, t2, t3⟩ := h
    refine ⟨q, em, ps, by rw [upd_ne ne]; exact e1, t2, fun pos cv hc => ?_⟩
    obtain ⟨c, e2, e3⟩ := t3 pos cv hc
    refine ⟨c, e2, ?_⟩
    rw [upd_ne fun z => ?_]
    · exact e3
    · rw [z, e] at e3
      rw [Option.some.inj e3] at n
      cases n
  | _ => exact (upd_ne ne).trans h
def Has (H : Hp) (L : Lg) : Prop := (L.map (·.1)).Nodup ∧ ∀ e ∈ L, holds H e.1 e.2
inductive At (x : Str) (v : V) : En → Prop
  | here {η : En} : At x v ((x, some v) :: η)
  | there {e : Str × Option V} {η : En} : At x v η → At x v (e :: η)
inductive Put (x : Str) (v : V) : En → En → Prop
  | here {o : Option V} {η : En} : Put x v ((x, o) :: η) ((x, some v) :: η)
  | there {e : Str × Option V} {η θ : En} : Put x v η θ → Put x v (e :: η) (e :: θ)
theorem At.idx {x : Str} {v : V} {η : En} (h : At x v η) : ∃ i : Nat, (names η)[i]? = some x ∧ (vals η)[i]? = some (some v) := by
  induction h with
  | here => exact ⟨0, rfl, rfl⟩
  | there _ ih =>
    obtain ⟨i, a, b⟩ := ih
    exact ⟨i + 1, a, b⟩
theorem Put.idx {x : Str} {v : V} {η θ : En} (h : Put x v η θ) : ∃ i : Nat, (names η)[i]? = some x ∧ vals θ = (vals η).set i (some v) ∧ names θ = names η := by
  induction h with
  | here => exact ⟨0, rfl, rfl, rfl⟩
  | there _ ih =>
    obtain ⟨i, a, b, c⟩ := ih
    refine ⟨i + 1, a, ?_, ?_⟩
    · show _ :: vals _ = _ :: (vals _).set i (some v)
      rw [b] <;> rfl
    · show _ :: names _ = _ :: names _
      rw [c] <;> rfl

/-- the environment with x set, as a function of what is put -/
inductive PutF (x : Str) : En → (V → En) → Prop
  | here {o : Option V} {η : En} : PutF x ((x, o) :: η) (fun v => (x, some v) :: η)
  | there {e : Str × Option V} {η : En} {f : V → En} : PutF x η f → PutF x (e :: η) (fun v => e :: f v)
theorem PutF.idx {x : Str} {η : En} {f : V → En} (h : PutF x η f) : ∃ i : Nat, (names η)[i]? = some x ∧ ∀ v, vals (f v) = (vals η).set i (some v) ∧ names (f v) = names η := by
  induction h with
  | here => exact ⟨0, rfl, fun _ => ⟨rfl, rfl⟩⟩
  | there _ ih =>
    obtain ⟨i, a, b⟩ := ih
    refine ⟨i + 1, a, fun v => ⟨?_, ?_⟩⟩
    · show _ :: vals _ = _ :: (vals _).set i (some v)
      rw [(b v).1] <;> rfl
    · show _ :: names _ = _ :: names _
      rw [(b v).2] <;> rfl
theorem Has.nil {H : Hp} : Has H [] := ⟨List.nodup_nil, fun _ h => absurd h (by simp)⟩
theorem Has.get {H : Hp} {L : Lg} {a : Addr} {o : HO} (h : Has H L) (m : (a, o) ∈ L) (n : notab o = true := by rfl) : H a = some o := holds_get n (h.2 (a, o) m)
theorem Has.grow {H H' : Hp} {L : Lg} (g : ∀ b u, H b = some u → H' b = some u) (h : Has H L) : Has H' L := ⟨h.1, fun e m => holds_grow g (h.2 e m)⟩
theorem Has.out {H : Hp} {L : Lg} {p : Addr} (h : Has H L) (n : H p = none) : p ∉ L.map (·.1) := fun m => by
  obtain ⟨e, he, rfl⟩ := List.mem_map.mp m
  obtain ⟨u, z⟩ := holds_some (h.2 e he)
  rw [z] at n
  cases n
theorem Has.newB {H H' : Hp} {L : Lg} {p : Addr} {o : HO} (h : Has H L) (n : H p = none) (g : ∀ b u, H b = some u → H' b = some u) (x : holds H' p o) : Has H' ((p, o) :: L) := by
  refine ⟨List.nodup_cons.mpr ⟨h.out n, h.1⟩, fun e m => ?_⟩
  rcases List.mem_cons.mp m with rfl | m
  · exact x
  · exact holds_grow g (h.2 e m)
theorem updGrow {H : Hp} {p : Addr} {o : HO} (n : H p = none) : ∀ b u, H b = some u → upd H p o b = some u := fun b u e => (upd_ne (ne_of_none e n)).trans e
theorem Has.new {H : Hp} {L : Lg} {p : Addr} {o : HO} (h : Has H L) (n : H p = none) (t : notab o = true := by rfl) : Has (upd H p o) ((p, o) :: L) := h.newB n (updGrow n) (holds_of t upd_same)
/-- one entry replaced by another of its address -/
inductive Swap (p : Addr) (o : HO) : Lg → Lg → Prop
  | here {u : HO} {L : Lg} (pl : plain u = true := by rfl) : Swap p o ((p, u) :: L) ((p, o) :: L)
  | there {e : Addr × HO} {L M : Lg} : Swap p o L M → Swap p o (e :: L) (e :: M)
theorem Swap.was {p : Addr} {o : HO} {L M : Lg} (s : Swap p o L M) : ∃ u, plain u = true ∧ (p, u) ∈ L := by
  induction s with
  | here pl => exact ⟨_, pl, List.mem_cons_self⟩
  | there _ ih =>
    obtain ⟨u, a, b⟩ := ih
    exact ⟨u, a, List.mem_cons_of_mem _ b⟩
theorem Swap.fst {p : Addr} {o : HO} {L M : Lg} (s : Swap p o L M) : M.map (·.1) = L.map (·.1) ∧ p ∈ L.map (·.1) := by
  induction s with
  | here => exact ⟨rfl, List.mem_cons_self⟩
  | there _ ih => exact ⟨by rw [List.map_cons, List.map_cons, ih.1], List.mem_cons_of_mem _ ih.2⟩
theorem Swap.mem {p : Addr} {o : HO} {L M : Lg} (s : Swap p o L M) (nd : (L.map (·.1)).Nodup) : ∀ e ∈ M, e = (p, o) ∨ (e ∈ L ∧ e.1 ≠ p) := by
  induction s with
  | here =>
    intro e m
    rcases List.mem_cons.mp m with rfl | m
    · exact .inl rfl
    · have n := (List.nodup_cons.mp nd).1
      exact .inr ⟨List.mem_cons_of_mem _ m, fun z => n (List.mem_map.mpr ⟨e, m, z⟩)⟩
  | there s ih =>
    intro e m
    have n := List.nodup_cons.mp nd
    rcases List.mem_cons.mp m with rfl | m
    · exact .inr ⟨List.mem_cons_self, fun z => n.1 (by have q := s.fst.2; rw [← z] at q; exact q)⟩
    · rcases ih n.2 e m with q | ⟨q, r⟩
      · exact .inl q
      · exact .inr ⟨List.mem_cons_of_mem _ q, r⟩
theorem Has.swap {H : Hp} {L M : Lg} {p : Addr} {o : HO} (h : Has H L) (s : Swap p o L M) (t : notab o = true := by rfl) : Has (upd H p o) M := by
  obtain ⟨u, pl, mu⟩ := s.was
  refine ⟨by rw [s.fst.1]; exact h.1, fun e m => ?_⟩
  rcases s.mem h.1 e m with rfl | ⟨q, r⟩
  · exact holds_of t upd_same
  · exact holds_upd (h.get mu (plain_notab pl)) pl r (h.2 e q)
/-- M is told by L -/
structure Sub (M L : Lg) : Prop where
  to : (L.map (·.1)).Nodup → (M.map (·.1)).Nodup ∧ ∀ e ∈ M, e ∈ L
theorem Sub.has {M L : Lg} (s : Sub M L) (H : Hp) (h : Has H L) : Has H M := ⟨(s.to h.1).1, fun e m => h.2 e ((s.to h.1).2 e m)⟩
instance {M L : Lg} : CoeFun (Sub M L) (fun _ => ∀ H, Has H L → Has H M) := ⟨Sub.has⟩
theorem Sub.refl {L : Lg} : Sub L L := ⟨fun h => ⟨h, fun _ h => h⟩⟩
theorem Sub.trans {L M N : Lg} (a : Sub N M) (b : Sub M L) : Sub N L := ⟨fun h => ⟨(a.to (b.to h).1).1, fun e m => (b.to h).2 e ((a.to (b.to h).1).2 e m)⟩⟩
theorem Sub.drop {L : Lg} {e : Addr × HO} : Sub L (e :: L) := ⟨fun h => ⟨(List.nodup_cons.mp h).2, fun _ m => List.mem_cons_of_mem _ m⟩⟩
theorem Sub.cons {L M : Lg} {e : Addr × HO} (s : Sub M L) : Sub (e :: M) (e :: L) := by
  refine ⟨fun h => ?_⟩
  obtain ⟨n, h⟩ := List.nodup_cons.mp h
  obtain ⟨a, b⟩ := s.to h
  refine ⟨List.nodup_cons.mpr ⟨fun m => ?_, a⟩, fun u m => ?_⟩
  · obtain ⟨u, hu, eu⟩ := List.mem_map.mp m
    exact n (List.mem_map.mpr ⟨u, b u hu, eu⟩)
  · rcases List.mem_cons.mp m with rfl | m
    · exact List.mem_cons_self
    · exact List.mem_cons_of_mem _ (b u m)
theorem Sub.append {L M : Lg} (s : Sub M L) : ∀ {E : Lg}, Sub (E ++ M) (E ++ L)
  | [] => s
  | _ :: E => Sub.cons (Sub.append s (E := E))
theorem Sub.dropE {L : Lg} : ∀ {E : Lg}, Sub L (E ++ L)
  | [] => Sub.refl
  | _ :: E => (Sub.dropE (E := E)).trans Sub.drop
theorem Sub.perm {L M : Lg} (p : M.Perm L) : Sub M L := ⟨fun h => ⟨(p.map _).nodup_iff.mpr h, fun e m => p.mem_iff.mp m⟩⟩
theorem Sub.sublist {L M : Lg} (p : M.Sublist L) : Sub M L := ⟨fun h => ⟨(p.map _).nodup h, fun e m => p.subset m⟩⟩
theorem Swap.ex {p : Addr} {o u : HO} (pl : plain u = true) : ∀ {L : Lg}, (p, u) ∈ L → ∃ M, Swap p o L M
  | e :: L, m => by
    rcases List.mem_cons.mp m with z | m
    · subst z
      exact ⟨_, .here pl⟩
    · obtain ⟨M, s⟩ := Swap.ex (o := o) pl m
      exact ⟨_, .there s⟩
theorem Swap.keep {p : Addr} {o : HO} {L M : Lg} (s : Swap p o L M) {e : Addr × HO} (h : e ∈ L) (n : e.1 ≠ p) : e ∈ M := by
  induction s with
  | here _ =>
    rcases List.mem_cons.mp h with z | h
    · subst z
      exact absurd rfl n
    · exact List.mem_cons_of_mem _ h
  | there _ ih =>
    rcases List.mem_cons.mp h with z | h
    · subst z
      exact List.mem_cons_self
    · exact List.mem_cons_of_mem _ (ih h)
theorem Swap.got {p : Addr} {o : HO} {L M : Lg} (s : Swap p o L M) : (p, o) ∈ M := by
  induction s with
  | here _ => exact List.mem_cons_self
  | there _ ih => exact List.mem_cons_of_mem _ ih
/-- one entry changed below what is known -/
theorem Sub.swap {p : Addr} {o u : HO} {L M N : Lg} (s : Sub ((p, u) :: L) M) (w : Swap p o M N) : Sub ((p, o) :: L) N := by
  refine ⟨fun h => ?_⟩
  rw [w.fst.1] at h
  obtain ⟨a, b⟩ := s.to h
  refine ⟨a, fun e m => ?_⟩
  rcases List.mem_cons.mp m with rfl | m
  · exact w.got
  · refine w.keep (b e (List.mem_cons_of_mem _ m)) fun z => (List.nodup_cons.mp a).1 ?_
    exact List.mem_map.mpr ⟨e, m, z⟩

/-! ### 2. What is wanted, over ledgers -/
abbrev QV := V → Lg → Prop
def up (Q : QV) : VK := fun v H => ∃ L, Has H L ∧ Q v L
def upB (Q : Bool → Lg → Prop) : Bool → Hp → Prop := fun b H => ∃ L, Has H L ∧ Q b L
def upA (Q : List V → Lg → Prop) : List V → Hp → Prop := fun vs H => ∃ L, Has H L ∧ Q vs L
def WE (X : Cx) (e : Expr) : TE := fun σ H Q => ∀ pins s, Inv X pins σ H s → wpAny (model X.prog X.w) X.A (eval e X.env) (EP X pins σ Q) X.xe s
def WT (X : Cx) (e : Expr) : TT := fun σ H Q => ∀ pins s, Inv X pins σ H s → wpAny (model X.prog X.w) X.A (isTrue e X.env (eval e X.env)) (TP X pins σ Q) X.xe s
def WW (X : Cx) (e : Expr) : TT := fun σ H Q => ∀ whole pins s, Inv X pins σ H s → wpAny (model X.prog X.w) X.A (isTrue e X.env whole) (TP X pins σ Q) X.xe s
def WA (X : Cx) (es : List Expr) : TA := fun σ H Q => ∀ pos pins s, Inv X pins σ H s → wpAny (model X.prog X.w) X.A (spliced (backTo pos (starEach es X.env))) (AP X pins σ Q) X.xe s
def WS (X : Cx) (st : Stmt) : TS := fun D σ H => ∀ pins s, Inv X pins σ H s → wpAny (model X.prog X.w) X.A (exec st X.env) (SP X pins D) X.xe s
def WSs (X : Cx) (st : List Stmt) : TS := fun D σ H => ∀ pins s, Inv X pins σ H s → wpAny (model X.prog X.w) X.A (execs st X.env) (SP X pins D) X.xe s
def WG (X : Cx) (tg : Expr) : TG := fun v σ H Q => ∀ pins s u, Inv X pins σ H s → RelV v u → wpAny (model X.prog X.w) X.A (assign tg X.env u) (fun _ s' => ∃ σ' H', Inv X pins σ' H' s' ∧ Q σ' H') X.xe s
def WGs (X : Cx) (ts : List Expr) : TGs := fun vs σ H Q => ∀ pins s us, Inv X pins σ H s → Vals vs us → wpAny (model X.prog X.w) X.A (assignInOrder ((assignEach ts X.env).map (·.2)) us) (fun _ s' => ∃ σ' H', Inv X pins σ' H' s' ∧ Q σ' H') X.xe s
section
variable {X : Cx} {e : Expr} {σ : L2.St} {H : Hp}
theorem pe_W : PE X e (WE X e) := ⟨fun pins s _ _ _ I h => h pins s I⟩
theorem pt_W : PT X e (WT X e) := ⟨fun pins s _ _ _ I h => h pins s I⟩
theorem pw_W : PW X e (WW X e) := ⟨fun u pins s _ _ _ I h => h u pins s I⟩
theorem pa_W {es : List Expr} : PA X es (WA X es) := ⟨fun pos pins s _ _ _ I h => h pos pins s I⟩
theorem ps_W {st : Stmt} : PS X st (WS X st) := ⟨fun pins s _ _ _ I h => h pins s I⟩
theorem pss_W {st : List Stmt} : PSs X st (WSs X st) := ⟨fun pins s _ _ _ I h => h pins s I⟩
theorem pg_W : PG X e (WG X e) := ⟨fun pins s _ _ _ u _ I r h => h pins s u I r⟩
theorem pgs_W {es : List Expr} : PGs X es (WGs X es) := ⟨fun pins s _ _ _ us _ I r h => h pins s us I r⟩
theorem WE.of {t : TE} {Q : VK} (h : PE X e t) (q : t σ H Q) : WE X e σ H Q := fun pins s I => h.run pins s σ H Q I q
theorem WT.of {t : TT} {Q : Bool → Hp → Prop} (h : PT X e t) (q : t σ H Q) : WT X e σ H Q := fun pins s I => h.run pins s σ H Q I q
theorem WW.of {t : TT} {Q : Bool → Hp → Prop} (h : PW X e t) (q : t σ H Q) : WW X e σ H Q := fun u pins s I => h.run u pins s σ H Q I q
theorem WA.of {es : List Expr} {t : TA} {Q : List V → Hp → Prop} (h : PA X es t) (q : t σ H Q) : WA X es σ H Q := fun pos pins s I => h.run pos pins s σ H Q I q
theorem WS.of {st : Stmt} {t : TS} {D : Ends} (h : PS X st t) (q : t D σ H) : WS X st D σ H := fun pins s I => h.run pins s σ H D I q
theorem WSs.of {st : List Stmt} {t : TS} {D : Ends} (h : PSs X st t) (q : t D σ H) : WSs X st D σ H := fun pins s I => h.run pins s σ H D I q
theorem WG.of {t : TG} {v : V} {Q : L2.St → Hp → Prop} (h : PG X e t) (q : t v σ H Q) : WG X e v σ H Q := fun pins s u I r => h.run pins s σ H v u Q I r q
theorem WGs.of {es : List Expr} {t : TGs} {vs : List V} {Q : L2.St → Hp → Prop} (h : PGs X es t) (q : t vs σ H Q) : WGs X es vs σ H Q := fun pins s us I r => h.run pins s σ H vs us Q I r q
theorem WE.mono {Q Q' : VK} (h : WE X e σ H Q) (m : ∀ v H', Q v H' → Q' v H') : WE X e σ H Q' := fun pins s I =>
  thn (h pins s I) fun _ _ ⟨v, H', J, r, q⟩ => ⟨v, H', J, r, m v H' q⟩
theorem WT.mono {Q Q' : Bool → Hp → Prop} (h : WT X e σ H Q) (m : ∀ v H', Q v H' → Q' v H') : WT X e σ H Q' := fun pins s I =>
  thn (h pins s I) fun _ _ ⟨H', J, q⟩ => ⟨H', J, m _ H' q⟩
theorem WW.mono {Q Q' : Bool → Hp → Prop} (h : WW X e σ H Q) (m : ∀ v H', Q v H' → Q' v H') : WW X e σ H Q' := fun u pins s I =>
  thn (h u pins s I) fun _ _ ⟨H', J, q⟩ => ⟨H', J, m _ H' q⟩
theorem WA.mono {es : List Expr} {Q Q' : List V → Hp → Prop} (h : WA X es σ H Q) (m : ∀ v H', Q v H' → Q' v H') : WA X es σ H Q' := fun pos pins s I =>
  thn (h pos pins s I) fun _ _ ⟨v, H', J, r, q⟩ => ⟨v, H', J, r, m v H' q⟩
theorem WG.mono {v : V} {Q Q' : L2.St → Hp → Prop} (h : WG X e v σ H Q) (m : ∀ v H', Q v H' → Q' v H') : WG X e v σ H Q' := fun pins s u I r =>
  thn (h pins s u I r) fun _ _ ⟨v, H', J, q⟩ => ⟨v, H', J, m v H' q⟩
theorem WGs.mono {es : List Expr} {vs : List V} {Q Q' : L2.St → Hp → Prop} (h : WGs X es vs σ H Q) (m : ∀ v H', Q v H' → Q' v H') : WGs X es vs σ H Q' := fun pins s u I r =>
  thn (h pins s u I r) fun _ _ ⟨v, H', J, q⟩ => ⟨v, H', J, m v H' q⟩
end

/-! ### 3. The judgements -/
def GE (X : Cx) (e : Expr) (η : En) (L : Lg) (Q : QV) : Prop := X.N = names η → ∀ H, Has H L → WE X e (vals η) H (up Q)
def GT (X : Cx) (e : Expr) (η : En) (L : Lg) (Q : Bool → Lg → Prop) : Prop := X.N = names η → ∀ H, Has H L → WT X e (vals η) H (upB Q)
def GW (X : Cx) (e : Expr) (η : En) (L : Lg) (Q : Bool → Lg → Prop) : Prop := X.N = names η → ∀ H, Has H L → WW X e (vals η) H (upB Q)
def GA (X : Cx) (es : List Expr) (η : En) (L : Lg) (Q : List V → Lg → Prop) : Prop := X.N = names η → ∀ H, Has H L → WA X es (vals η) H (upA Q)
/-- what is wanted behind a statement -/
structure GD where
  nx : En → Lg → Prop
  rt : QV
  bk : En → Lg → Prop
  ct : En → Lg → Prop
def upS (X : Cx) (Q : En → Lg → Prop) : L2.St → Hp → Prop := fun σ H => ∃ η L, X.N = names η ∧ σ = vals η ∧ Has H L ∧ Q η L
def GD.ends (X : Cx) (D : GD) : Ends := { nx := upS X D.nx, rt := up D.rt, bk := upS X D.bk, ct := upS X D.ct }
def GS (X : Cx) (st : Stmt) (D : GD) (η : En) (L : Lg) : Prop := X.N = names η → ∀ H, Has H L → WS X st (D.ends X) (vals η) H
def GSs (X : Cx) (st : List Stmt) (D : GD) (η : En) (L : Lg) : Prop := X.N = names η → ∀ H, Has H L → WSs X st (D.ends X) (vals η) H
def GG (X : Cx) (tg : Expr) (v : V) (η : En) (L : Lg) (Q : En → Lg → Prop) : Prop := X.N = names η → ∀ H, Has H L → WG X tg v (vals η) H (upS X Q)
def GGs (X : Cx) (ts : List Expr) (vs : List V) (η : En) (L : Lg) (Q : En → Lg → Prop) : Prop := X.N = names η → ∀ H, Has H L → WGs X ts vs (vals η) H (upS X Q)
/-- an operator, a call, a subscript by values -/
def GOp (X : Cx) (f : Value → Value → Sem Value) (x y : V) (L : Lg) (Q : QV) : Prop := ∀ pins s σ H v u, Has H L → Inv X pins σ H s → RelV x v → RelV y u → wpAny (model X.prog X.w) X.A (f v u) (EP X pins σ (up Q)) X.xe s
def GUn (X : Cx) (f : Value → Sem Value) (x : V) (L : Lg) (Q : QV) : Prop := ∀ pins s σ H v, Has H L → Inv X pins σ H s → RelV x v → wpAny (model X.prog X.w) X.A (f v) (EP X pins σ (up Q)) X.xe s
def GC (X : Cx) (f : Value) (xs : List V) (L : Lg) (Q : QV) : Prop := ∀ pins s σ H us, Has H L → Inv X pins σ H s → Vals xs us → wpAny (model X.prog X.w) X.A (call f us) (EP X pins σ (up Q)) X.xe s
section
variable {X : Cx} {L : Lg} {Q : QV} {x y : V}
theorem GOp.of {f : Value → Value → Sem Value} {r : R2} (h : OpR X f r) (q : ∀ H, Has H L → r x y H (up Q)) : GOp X f x y L Q := fun pins s σ H v u hH I rv ru => h pins s σ H x y v u _ I rv ru (q H hH)
theorem GUn.of {f : Value → Sem Value} {r : V → Hp → VK → Prop} (h : UnR X f r) (q : ∀ H, Has H L → r x H (up Q)) : GUn X f x L Q := fun pins s σ H v hH I rv => h pins s σ H x v _ I rv (q H hH)
theorem GC.of {f : Value} {xs : List V} {r : List V → Hp → VK → Prop} (h : CallR X f r) (q : ∀ H, Has H L → r xs H (up Q)) : GC X f xs L Q := fun pins s σ H us hH I rv => h pins s σ H xs us _ I rv (q H hH)
end

/-! ### 4. Expressions -/
section
variable {X : Cx} {η : En} {L : Lg} {Q : QV} {a b c e : Expr} {pos : Pos}
theorem ge_var {x : Str} {v : V} (h : At x v η) (q : Q v L) (hv : Vis X.env.scope x := by first | exact Or.inl rfl | exact Or.inr (Or.inl rfl) | exact Or.inr (Or.inr rfl))
    (hd : (x == ("__debug__" : Str)) = false := by decide) (hcd : (x == ("__classdict__" : Str)) = false := by decide) : GE X (.Name x pos) η L Q := fun hN H hH => by
  obtain ⟨i, h1, h2⟩ := h.idx
  exact WE.of (pe_var (i := i) (by rw [hN]; exact h1) hv hd hcd) ⟨v, h2, L, hH, q⟩
theorem ge_con {v : V} (p : PE X e (tC v)) (q : Q v L) : GE X e η L Q := fun _ H hH => WE.of p ⟨L, hH, q⟩
theorem ge_int {i : Int} {j} (q : Q (.int i) L) : GE X (.Constant (.int i) j pos) η L Q := ge_con pe_int q
theorem ge_bl {i : Bool} {j} (q : Q (.bl i) L) : GE X (.Constant (.bool i) j pos) η L Q := ge_con pe_bl q
theorem ge_non {j} (q : Q .non L) : GE X (.Constant .none j pos) η L Q := ge_con pe_non q
theorem ge_str {x : Str} {j} (q : Q (.str x) L) : GE X (.Constant (.str x) j pos) η L Q := ge_con pe_str q
/-- what is known may be cut -/
theorem GE.nd (h : GE X e η L fun v L1 => (L1.map (·.1)).Nodup → Q v L1) : GE X e η L Q := fun hN H hH => (h hN H hH).mono fun v _ ⟨L', h', q⟩ => ⟨L', h', q h'.1⟩
theorem GE.sub {M : Lg} (s : Sub M L) (h : GE X e η M Q) : GE X e η L Q := fun hN H hH => h hN H (s H hH)
theorem GT.sub {M : Lg} {Q : Bool → Lg → Prop} (s : Sub M L) (h : GT X e η M Q) : GT X e η L Q := fun hN H hH => h hN H (s H hH)
theorem GE.imp {Q' : QV} (h : GE X e η L Q) (m : ∀ v L', Q v L' → Q' v L') : GE X e η L Q' := fun hN H hH => (h hN H hH).mono fun v _ ⟨L', h', q⟩ => ⟨L', h', m v L' q⟩
theorem GA.imp {es : List Expr} {Q Q' : List V → Lg → Prop} (h : GA X es η L Q) (m : ∀ v L', Q v L' → Q' v L') : GA X es η L Q' := fun hN H hH => (h hN H hH).mono fun v _ ⟨L', h', q⟩ => ⟨L', h', m v L' q⟩
theorem GT.imp {Q Q' : Bool → Lg → Prop} (h : GT X e η L Q) (m : ∀ v L', Q v L' → Q' v L') : GT X e η L Q' := fun hN H hH => (h hN H hH).mono fun v _ ⟨L', h', q⟩ => ⟨L', h', m v L' q⟩
/-- then -/
theorem GE.then {Q' : VK} (h : GE X a η L Q) (hN : X.N = names η) {H : Hp} (hH : Has H L) (m : ∀ v L1 H1, Has H1 L1 → Q v L1 → Q' v H1) : WE X a (vals η) H Q' := (h hN H hH).mono fun v H1 ⟨L1, h1, q1⟩ => m v L1 H1 h1 q1
theorem GA.then {es : List Expr} {Q : List V → Lg → Prop} {Q' : List V → Hp → Prop} (h : GA X es η L Q) (hN : X.N = names η) {H : Hp} (hH : Has H L) (m : ∀ v L1 H1, Has H1 L1 → Q v L1 → Q' v H1) : WA X es (vals η) H Q' := (h hN H hH).mono fun v H1 ⟨L1, h1, q1⟩ => m v L1 H1 h1 q1
theorem GT.then {Q : Bool → Lg → Prop} {Q' : Bool → Hp → Prop} (h : GT X a η L Q) (hN : X.N = names η) {H : Hp} (hH : Has H L) (m : ∀ v L1 H1, Has H1 L1 → Q v L1 → Q' v H1) : WT X a (vals η) H Q' := (h hN H hH).mono fun v H1 ⟨L1, h1, q1⟩ => m v L1 H1 h1 q1
theorem GW.then {Q : Bool → Lg → Prop} {Q' : Bool → Hp → Prop} (h : GW X a η L Q) (hN : X.N = names η) {H : Hp} (hH : Has H L) (m : ∀ v L1 H1, Has H1 L1 → Q v L1 → Q' v H1) : WW X a (vals η) H Q' := (h hN H hH).mono fun v H1 ⟨L1, h1, q1⟩ => m v L1 H1 h1 q1

theorem ge_bin {op : Operator} (h : GE X a η L fun x L1 => GE X b η L1 fun y L2 => GOp X (binaryOp op) x y L2 Q) : GE X (.BinOp a op b pos) η L Q := fun hN H hH =>
  WE.of (pe_op (r := fun x y H' Q' => ∀ pins s σ v u, Inv X pins σ H' s → RelV x v → RelV y u → wpAny (model X.prog X.w) X.A (binaryOp op v u) (EP X pins σ Q') X.xe s)
    (fun pins s σ H' x y v u Q' I r1 r2 q => q pins s σ v u I r1 r2) pe_W pe_W)
    (h.then hN hH fun _ _ _ h1 q1 => q1.then hN h1 fun _ _ _ h2 q2 => fun pins s σ v u I r1 r2 => q2 pins s σ _ v u h2 I r1 r2)
theorem ge_un {op : UnaryOp} (h : GE X a η L fun x L1 => GUn X (unaryOp op) x L1 Q) : GE X (.UnaryOp op a pos) η L Q := fun hN H hH =>
  WE.of (pe_un (r := fun x H' Q' => ∀ pins s σ v, Inv X pins σ H' s → RelV x v → wpAny (model X.prog X.w) X.A (unaryOp op v) (EP X pins σ Q') X.xe s)
    (fun pins s σ H' x v Q' I r1 q => q pins s σ v I r1) pe_W)
    (h.then hN hH fun _ _ _ h1 q1 => fun pins s σ v I r1 => q1 pins s σ _ v h1 I r1)
theorem ge_cmp {op : CmpOp} (h : GE X a η L fun x L1 => GE X b η L1 fun y L2 => GOp X (compareOp op) x y L2 Q) (hm : behindInMarks op b = false := by rfl) : GE X (.Compare a [op] [b] pos) η L Q := fun hN H hH =>
  WE.of (pe_cmpR (r := fun x y H' Q' => ∀ pins s σ v u, Inv X pins σ H' s → RelV x v → RelV y u → wpAny (model X.prog X.w) X.A (compareOp op v u) (EP X pins σ Q') X.xe s)
    (fun pins s σ H' x y v u Q' I r1 r2 q => q pins s σ v u I r1 r2) pe_W pe_W hm)
    (h.then hN hH fun _ _ _ h1 q1 => q1.then hN h1 fun _ _ _ h2 q2 => fun pins s σ v u I r1 r2 => q2 pins s σ _ v u h2 I r1 r2)
theorem ge_one {op : BoolOp} (h : GE X a η L Q) : GE X (.BoolOp op [a] pos) η L Q := fun hN H hH => WE.of (pe_one pe_W) (h hN H hH)
theorem ge_and {rest : List Expr} (h : GE X a η L fun x L1 => ∃ k, x = .bl k ∧ if k = true then GE X (.BoolOp .And (b :: rest) pos) η L1 Q else Q (.bl false) L1) : GE X (.BoolOp .And (a :: b :: rest) pos) η L Q := fun hN H hH =>
  WE.of (pe_and pe_W pe_W) (h.then hN hH fun x L1 H1 h1 ⟨k, e1, q1⟩ => ⟨k, e1, by
    cases k with
    | true => exact q1 hN H1 h1
    | false => exact ⟨L1, h1, q1⟩⟩)
theorem ge_or {rest : List Expr} (h : GE X a η L fun x L1 => ∃ k, x = .bl k ∧ if k = true then Q (.bl true) L1 else GE X (.BoolOp .Or (b :: rest) pos) η L1 Q) : GE X (.BoolOp .Or (a :: b :: rest) pos) η L Q := fun hN H hH =>
  WE.of (pe_or pe_W pe_W) (h.then hN hH fun x L1 H1 h1 ⟨k, e1, q1⟩ => ⟨k, e1, by
    cases k with
    | true => exact ⟨L1, h1, q1⟩
    | false => exact q1 hN H1 h1⟩)
theorem ge_not (h : GE X a η L fun x L1 => ∃ k, x = .bl k ∧ Q (.bl (!k)) L1) : GE X (.UnaryOp .Not a pos) η L Q := fun hN H hH =>
  WE.of (pe_not pe_W) (h.then hN hH fun x L1 H1 h1 ⟨k, e1, q1⟩ => ⟨k, e1, L1, h1, q1⟩)
theorem ge_if (h : GT X c η L fun k L1 => if k = true then GE X a η L1 Q else GE X b η L1 Q) : GE X (.IfExp c a b pos) η L Q := fun hN H hH =>
  WE.of (pe_ifExp pt_W pe_W pe_W) (h.then hN hH fun k L1 H1 h1 q1 => by
    cases k with
    | true => exact q1 hN H1 h1
    | false => exact q1 hN H1 h1)
theorem ga_nil {Q : List V → Lg → Prop} (q : Q [] L) : GA X [] η L Q := fun _ H hH => WA.of pa_nil ⟨L, hH, q⟩
theorem ga_cons {es : List Expr} {Q : List V → Lg → Prop} (h : GE X e η L fun x L1 => GA X es η L1 fun xs L2 => Q (x :: xs) L2) (hs : starEach (e :: es) X.env = (false, eval e X.env) :: starEach es X.env := by rfl) : GA X (e :: es) η L Q := fun hN H hH =>
  WA.of (pa_cons pe_W pa_W hs) (h.then hN hH fun _ _ _ h1 q1 => q1.then hN h1 fun _ L2 _ h2 q2 => ⟨L2, h2, q2⟩)
theorem ge_tup {es : List Expr} {x1} (h : GA X es η L fun xs L1 => xs.length ≤ sizeLine ∧ ∀ p, Q (.ref p) ((p, .tup xs) :: L1)) : GE X (.Tuple es x1 pos) η L Q := fun hN H hH =>
  WE.of (pe_tup pa_W) (h.then hN hH fun xs L1 H1 h1 ⟨z, q1⟩ => ⟨z, fun p hp => ⟨_, h1.new hp, q1 p⟩⟩)
theorem ge_lst {es : List Expr} (h : GA X es η L fun xs L1 => xs.length ≤ sizeLine ∧ ∀ p, Q (.ref p) ((p, .lst xs) :: L1)) : GE X (.List es pos) η L Q := fun hN H hH =>
  WE.of (pe_lst pa_W) (h.then hN hH fun xs L1 H1 h1 ⟨z, q1⟩ => ⟨z, fun p hp => ⟨_, h1.new hp, q1 p⟩⟩)
/-- a subscript by values -/
def GIx (X : Cx) (x y : V) (L : Lg) (Q : QV) : Prop := ∀ (value slice : Expr) pins s σ H v u, Has H L → Inv X pins σ H s → RelV x v → RelV y u → subscripted slice false v u = operate [v, u] (getItem v u) → wpAny (model X.prog X.w) X.A (subscriptTail value slice v u) (EP X pins σ (up Q)) X.xe s
theorem GIx.of {x y : V} {r : R2} (h : IxR X r) (q : ∀ H, Has H L → r x y H (up Q)) : GIx X x y L Q := fun value slice pins s σ H v u hH I rv ru hs => h value slice pins s σ H x y v u _ I rv ru (q H hH) hs
theorem ge_ix (h : GE X a η L fun x L1 => GE X b η L1 fun y L2 => GIx X x y L2 Q) (hs : PlainIx b := by exact fun _ _ => rfl) : GE X (.Subscript a b pos) η L Q := fun hN H hH =>
  WE.of (pe_ix (r := fun x y H' Q' => ∀ (value slice : Expr) pins s σ v u, Inv X pins σ H' s → RelV x v → RelV y u → subscripted slice false v u = operate [v, u] (getItem v u) → wpAny (model X.prog X.w) X.A (subscriptTail value slice v u) (EP X pins σ Q') X.xe s)
    (fun value slice pins s σ H' x y v u Q' I r1 r2 q z => q value slice pins s σ v u I r1 r2 z) pe_W pe_W hs)
    (h.then hN hH fun _ _ _ h1 q1 => q1.then hN h1 fun _ _ _ h2 q2 => fun value slice pins s σ v u I r1 r2 z => q2 value slice pins s σ _ v u h2 I r1 r2 z)
end

/-! ### 5. Tests -/
section
variable {X : Cx} {η : En} {L : Lg} {Q : Bool → Lg → Prop} {a b c e : Expr} {pos : Pos}
theorem gt_cmp {op : CmpOp} (h : GE X a η L fun x L1 => GE X b η L1 fun y L2 => GOp X (compareOp op) x y L2 fun z L3 => ∃ k, z = .bl k ∧ Q k L3) (hm : behindInMarks op b = false := by rfl) : GT X (.Compare a [op] [b] pos) η L Q := fun hN H hH =>
  WT.of (pt_cmpR (r := fun x y H' Q' => ∀ pins s σ v u, Inv X pins σ H' s → RelV x v → RelV y u → wpAny (model X.prog X.w) X.A (compareOp op v u) (EP X pins σ Q') X.xe s)
    (fun pins s σ H' x y v u Q' I r1 r2 q => q pins s σ v u I r1 r2) pe_W pe_W hm)
    (h.then hN hH fun _ _ _ h1 q1 => q1.then hN h1 fun _ _ _ h2 q2 => fun pins s σ v u I r1 r2 =>
      thn (q2 pins s σ _ v u h2 I r1 r2) fun _ _ ⟨z, H3, J, r3, L3, h3, k, ek, q3⟩ => ⟨z, H3, J, r3, k, ek, L3, h3, q3⟩)
theorem gt_val (h : GE X a η L fun x L1 => ∃ k, x = .bl k ∧ Q k L1) (he : ∀ whole, isTrue a X.env whole = (do let v ← whole; standAt a.pos; holding [v] (truthy v)) := by intro _; rfl) : GT X a η L Q := fun hN H hH =>
  WT.of (pt_val pe_W he) (h.then hN hH fun _ L1 _ h1 ⟨k, e1, q1⟩ => ⟨k, e1, L1, h1, q1⟩)
theorem gt_tru (h : GE X a η L fun x L1 => ∃ k, (∀ H, Has H L1 → TruV X.K x H k) ∧ Q k L1) (he : ∀ whole, isTrue a X.env whole = (do let v ← whole; standAt a.pos; holding [v] (truthy v)) := by intro _; rfl) : GT X a η L Q := fun hN H hH =>
  WT.of (pt_truth pe_W he) (h.then hN hH fun _ L1 H1 h1 ⟨k, e1, q1⟩ => ⟨k, e1 H1 h1, L1, h1, q1⟩)
theorem gt_w {op : BoolOp} {es : List Expr} (h : GW X (.BoolOp op es pos) η L Q) : GT X (.BoolOp op es pos) η L Q := fun hN H hH => WT.of pw_W.pt (h hN H hH)
theorem gw_and1 (h : GT X a η L Q) : GW X (.BoolOp .And [a] pos) η L Q := fun hN H hH => WW.of (pw_and1 pt_W) (h hN H hH)
theorem gw_or1 (h : GT X a η L Q) : GW X (.BoolOp .Or [a] pos) η L Q := fun hN H hH => WW.of (pw_or1 pt_W) (h hN H hH)
theorem gw_and {rest : List Expr} (h : GT X a η L fun k L1 => if k = true then GW X (.BoolOp .And (b :: rest) pos) η L1 Q else Q false L1) : GW X (.BoolOp .And (a :: b :: rest) pos) η L Q := fun hN H hH =>
  WW.of (pw_and pt_W pw_W) (h.then hN hH fun k L1 H1 h1 q1 => by
    cases k with
    | true => exact q1 hN H1 h1
    | false => exact ⟨L1, h1, q1⟩)
theorem gw_or {rest : List Expr} (h : GT X a η L fun k L1 => if k = true then Q true L1 else GW X (.BoolOp .Or (b :: rest) pos) η L1 Q) : GW X (.BoolOp .Or (a :: b :: rest) pos) η L Q := fun hN H hH =>
  WW.of (pw_or pt_W pw_W) (h.then hN hH fun k L1 H1 h1 q1 => by
    cases k with
    | true => exact ⟨L1, h1, q1⟩
    | false => exact q1 hN H1 h1)
theorem gt_not (h : GT X a η L fun k L1 => Q (!k) L1) : GT X (.UnaryOp .Not a pos) η L Q := fun hN H hH =>
  WT.of (pt_not pt_W) (h.then hN hH fun k L1 H1 h1 q1 => ⟨L1, h1, q1⟩)
end

/-! ### 6. Operators and built-ins by values -/
theorem mem0 {α : Type} {a : α} {l : List α} : a ∈ a :: l := List.mem_cons_self
theorem memS {α : Type} {a b : α} {l : List α} (h : a ∈ l) : a ∈ b :: l := List.mem_cons_of_mem _ h
theorem sql {K : PySem.W.Frag} {H : Hp} {L : Lg} {p : Addr} {xs : List V} (h : Has H L) (m : (p, HO.lst xs) ∈ L) : SqL K H p xs := SqL.of (h.get m)
theorem sqt {K : PySem.W.Frag} {H : Hp} {L : Lg} {p : Addr} {xs : List V} (h : Has H L) (m : (p, HO.tup xs) ∈ L) : SqT K H p xs := SqT.of (h.get m)
section
variable {X : Cx} {L : Lg} {Q : QV} {x y : V} {i j : Int} {p q : Addr} {xs ys : List V} {v : V}
theorem go_add (h : Q (.int (i + j)) L) : GOp X (binaryOp .Add) (.int i) (.int j) L Q := GOp.of op_add fun H hH => ⟨i, j, rfl, rfl, L, hH, h⟩
theorem go_sub (h : Q (.int (i - j)) L) : GOp X (binaryOp .Sub) (.int i) (.int j) L Q := GOp.of op_sub fun H hH => ⟨i, j, rfl, rfl, L, hH, h⟩
theorem go_mul (c : CMulW i j) (h : Q (.int (i * j)) L) : GOp X (binaryOp .Mult) (.int i) (.int j) L Q := GOp.of op_mulW fun H hH => ⟨i, j, rfl, rfl, c, L, hH, h⟩
theorem go_mulS (c : (-(2 ^ 64) < i ∧ i < 2 ^ 64) ∨ (-(2 ^ 64) < j ∧ j < 2 ^ 64)) (h : Q (.int (i * j)) L) : GOp X (binaryOp .Mult) (.int i) (.int j) L Q := GOp.of op_mul fun H hH => ⟨i, j, rfl, rfl, c, L, hH, h⟩
theorem go_mod (c : 0 < j) (h : Q (.int (i % j)) L) : GOp X (binaryOp .Mod) (.int i) (.int j) L Q := GOp.of op_modN fun H hH => ⟨i, j, rfl, rfl, by omega, L, hH, by
  show Q (.int (i.fmod j)) L
  rw [Int.fmod_eq_emod_of_nonneg i (by omega)]
  exact h⟩
theorem go_div (c : 0 < j) (d : j.natAbs < 2 ^ 9000) (h : Q (.int (i / j)) L) : GOp X (binaryOp .FloorDiv) (.int i) (.int j) L Q := GOp.of op_fdivW fun H hH => ⟨i, j, rfl, rfl, wide_div c d (by decide) (by decide), L, hH, h⟩
theorem go_pow (c : CPow i j) (h : Q (.int (i ^ j.toNat)) L) : GOp X (binaryOp .Pow) (.int i) (.int j) L Q := GOp.of op_pow fun H hH => ⟨i, j, rfl, rfl, c, L, hH, h⟩
theorem go_lt (h : Q (.bl (decide (i < j))) L) : GOp X (compareOp .Lt) (.int i) (.int j) L Q := GOp.of op_lt fun H hH => ⟨i, j, rfl, rfl, L, hH, h⟩
theorem go_le (h : Q (.bl (decide (i ≤ j))) L) : GOp X (compareOp .LtE) (.int i) (.int j) L Q := GOp.of op_le fun H hH => ⟨i, j, rfl, rfl, L, hH, h⟩
theorem go_gt (h : Q (.bl (decide (j < i))) L) : GOp X (compareOp .Gt) (.int i) (.int j) L Q := GOp.of op_gt fun H hH => ⟨i, j, rfl, rfl, L, hH, h⟩
theorem go_ge (h : Q (.bl (decide (j ≤ i))) L) : GOp X (compareOp .GtE) (.int i) (.int j) L Q := GOp.of op_ge fun H hH => ⟨i, j, rfl, rfl, L, hH, h⟩
theorem dec_int : decide (V.int i = V.int j) = decide (i = j) := by
  by_cases e : i = j
  · rw [e, decide_eq_true rfl, decide_eq_true rfl]
  · rw [decide_eq_false e, decide_eq_false fun z => e (V.int.inj z)]
theorem go_eq (h : Q (.bl (decide (i = j))) L) : GOp X (compareOp .Eq) (.int i) (.int j) L Q := GOp.of op_eq fun H hH => ⟨rfl, L, hH, by rw [dec_int]; exact h⟩
theorem go_ne (h : Q (.bl (!decide (i = j))) L) : GOp X (compareOp .NotEq) (.int i) (.int j) L Q := GOp.of op_ne fun H hH => ⟨rfl, L, hH, by rw [dec_int]; exact h⟩
theorem go_eqV (s : scal x y = true) (h : Q (.bl (decide (x = y))) L) : GOp X (compareOp .Eq) x y L Q := GOp.of op_eq fun H hH => ⟨s, L, hH, h⟩
theorem go_neV (s : scal x y = true) (h : Q (.bl (!decide (x = y))) L) : GOp X (compareOp .NotEq) x y L Q := GOp.of op_ne fun H hH => ⟨s, L, hH, h⟩
theorem go_isN (h : Q (.bl (decide (x = .non))) L) : GOp X (compareOp .Is) x .non L Q := GOp.of op_isN fun H hH => ⟨rfl, L, hH, h⟩
theorem go_notN (h : Q (.bl (!decide (x = .non))) L) : GOp X (compareOp .IsNot) x .non L Q := GOp.of op_notN fun H hH => ⟨rfl, L, hH, h⟩
/-- data, told by the ledger -/
def Dl (L : Lg) (v : V) (d : PyData) : Prop := ∀ K H, Has H L → Dp K H v d
def Dls (L : Lg) (vs : List V) (ds : List PyData) : Prop := ∀ K H, Has H L → DpAll K H vs ds
theorem dl_non : Dl L .non .none := fun _ _ _ => .non
theorem dl_bl {b : Bool} : Dl L (.bl b) (.bool b) := fun _ _ _ => .bl b
theorem dl_int : Dl L (.int i) (.int i) := fun _ _ _ => .int i
theorem dl_str {z : Str} : Dl L (.str z) (.str z) := fun _ _ _ => .str z
theorem dl_lst {ds : List PyData} (m : (p, HO.lst xs) ∈ L) (h : Dls L xs ds) : Dl L (.ref p) (.list ds) := fun K H hH => .lst (sql hH m) (h K H hH)
theorem dl_tup {ds : List PyData} (m : (p, HO.tup xs) ∈ L) (h : Dls L xs ds) : Dl L (.ref p) (.tuple ds) := fun K H hH => .tup (sqt hH m) (h K H hH)
theorem dls_nil : Dls L [] [] := fun _ _ _ => .nil
theorem dls_cons {d : PyData} {ds : List PyData} (a : Dl L v d) (h : Dls L xs ds) : Dls L (v :: xs) (d :: ds) := fun K H hH => .cons (a K H hH) (h K H hH)
theorem dls_ints : ∀ {ns : List Int}, Dls L (ns.map V.int) (ns.map PyData.int)
  | [] => dls_nil
  | _ :: _ => dls_cons dl_int dls_ints
theorem go_eqD {k : Nat} {d e : PyData} (hr : Room k X.A) (a : Dl L x d) (b : Dl L y e) (s1 : SeqAt.shaped d = true) (s2 : SeqAt.shaped e = true) (h : Q (.bl (PyData.eqv d e)) L) : GOp X (compareOp .Eq) x y L Q := GOp.of (op_eqD hr.units) fun H hH => ⟨d, e, a _ H hH, b _ H hH, s1, s2, L, hH, h⟩
theorem go_neD {k : Nat} {d e : PyData} (hr : Room k X.A) (a : Dl L x d) (b : Dl L y e) (s1 : SeqAt.shaped d = true) (s2 : SeqAt.shaped e = true) (h : Q (.bl (!PyData.eqv d e)) L) : GOp X (compareOp .NotEq) x y L Q := GOp.of (op_neD hr.units) fun H hH => ⟨d, e, a _ H hH, b _ H hH, s1, s2, L, hH, h⟩
/-! subscripts -/
theorem gi_lst (m : (p, HO.lst xs) ∈ L) (e : atI xs i = some v) (h : Q v L) : GIx X (.ref p) (.int i) L Q := GIx.of ix_list fun H hH => ⟨p, xs, i, v, rfl, rfl, sql hH m, e, L, hH, h⟩
theorem gi_tup (m : (p, HO.tup xs) ∈ L) (e : atI xs i = some v) (h : Q v L) : GIx X (.ref p) (.int i) L Q := GIx.of ix_tup fun H hH => ⟨p, xs, i, v, rfl, rfl, sqt hH m, e, L, hH, h⟩
/-! built-ins -/
theorem gc_lenL (m : (p, HO.lst xs) ∈ L) (h : Q (.int (xs.length : Int)) L) : GC X (.builtin "len") [.ref p] L Q := GC.of call_len_seq fun H hH => ⟨p, xs, rfl, .inl (sql hH m), L, hH, h⟩
theorem gc_lenT (m : (p, HO.tup xs) ∈ L) (h : Q (.int (xs.length : Int)) L) : GC X (.builtin "len") [.ref p] L Q := GC.of call_len_seq fun H hH => ⟨p, xs, rfl, .inr (sqt hH m), L, hH, h⟩
theorem gc_int (h : Q (.int i) L) : GC X (.type "int") [.int i] L Q := GC.of call_int1 fun H hH => .inl ⟨i, rfl, L, hH, h⟩
theorem gc_intB {k : Bool} (h : Q (.int (if k then 1 else 0)) L) : GC X (.type "int") [.bl k] L Q := GC.of call_int1 fun H hH => .inr ⟨k, rfl, L, hH, h⟩
theorem gc_abs (h : Q (.int (i.natAbs : Int)) L) : GC X (.builtin "abs") [.int i] L Q := GC.of call_abs fun H hH => ⟨i, rfl, L, hH, by
  have e : (if i < 0 then -i else i) = (i.natAbs : Int) := by split <;> omega
  rw [e]
  exact h⟩
theorem gc_min2 (hc : X.calm = true) (h : Q (.int (if j < i then j else i)) L) : GC X (.builtin "min") [.int i, .int j] L Q := GC.of (call_min2 hc) fun H hH => ⟨i, j, rfl, L, hH, h⟩
theorem gc_list (m : (p, HO.lst xs) ∈ L) (h : ∀ q, Q (.ref q) ((q, .lst xs) :: L)) : GC X (.type "list") [.ref p] L Q := GC.of call_list_of fun H hH => ⟨p, xs, rfl, .inl (sql hH m), fun l hl => ⟨_, hH.new hl, h l⟩⟩
theorem gc_listT (m : (p, HO.tup xs) ∈ L) (h : ∀ q, Q (.ref q) ((q, .lst xs) :: L)) : GC X (.type "list") [.ref p] L Q := GC.of call_list_of fun H hH => ⟨p, xs, rfl, .inr (sqt hH m), fun l hl => ⟨_, hH.new hl, h l⟩⟩
/-- isinstance against a built-in class -/
theorem gc_isi {T c : String} {b : Bool} (ty : ∀ H, Has H L → TyX X.K H x (.type T)) (k : kitB T c = some b) (h : Q (.bl b) L) : GC X (.builtin "isinstance") [x, .ty c] L Q :=
  GC.of call_isi fun H hH => ⟨x, .ty c, .type T, .type c, b, rfl, .ty c, ty H hH, kit_ty k, L, hH, h⟩
end
/-! calls of built-ins by name -/
section
variable {X : Cx} {η : En} {L : Lg} {Q : QV} {e : Expr} {es : List Expr} {pos p : Pos} {x : Str}
theorem ge_B {id : String} (hm : X.mg x = none) (hv : bootBuiltins x = some (.builtin id)) (h : GA X (e :: es) η L fun xs L1 => GC X (.builtin id) xs L1 Q) (hg : Gl X x := by rfl) (hn : x ≠ "__name__" := by decide) (hdb : (x == ("__debug__" : Str)) = false := by decide)
    (he : starEach (e :: es) X.env = (false, eval e X.env) :: starEach es X.env := by rfl) (hpl : (backTo pos (starEach es X.env)).any (·.1) = false := by rfl) : GE X (.Call (.Name x p) (e :: es) [] pos) η L Q := fun hN H hH =>
  WE.of (pe_callB (r := fun xs H' Q' => ∀ pins s σ us, Inv X pins σ H' s → Vals xs us → wpAny (model X.prog X.w) X.A (call (.builtin id) us) (EP X pins σ Q') X.xe s)
    (fun pins s σ H' xs us Q' I r q => q pins s σ us I r) hg hm hv pa_W hn hdb he hpl)
    (h.then hN hH fun _ _ _ h1 q1 => fun pins s σ us I r => q1 pins s σ _ us h1 I r)
theorem ge_Y {T : String} (hm : X.mg x = none) (hv : bootBuiltins x = some (.type T)) (h : GA X (e :: es) η L fun xs L1 => GC X (.type T) xs L1 Q) (hg : Gl X x := by rfl) (hn : x ≠ "__name__" := by decide) (hdb : (x == ("__debug__" : Str)) = false := by decide)
    (he : starEach (e :: es) X.env = (false, eval e X.env) :: starEach es X.env := by rfl) (hpl : (backTo pos (starEach es X.env)).any (·.1) = false := by rfl) : GE X (.Call (.Name x p) (e :: es) [] pos) η L Q := fun hN H hH =>
  WE.of (pe_callTy (r := fun xs H' Q' => ∀ pins s σ us, Inv X pins σ H' s → Vals xs us → wpAny (model X.prog X.w) X.A (call (.type T) us) (EP X pins σ Q') X.xe s)
    (fun pins s σ H' xs us Q' I r q => q pins s σ us I r) hg hm hv pa_W hn hdb he hpl)
    (h.then hN hH fun _ _ _ h1 q1 => fun pins s σ us I r => q1 pins s σ _ us h1 I r)
/-- the name of a built-in class as a value -/
theorem ge_tyName {T : String} (hm : X.mg x = none) (hv : bootBuiltins x = some (.type T)) (q : Q (.ty T) L) (hg : Gl X x := by rfl) (hn : x ≠ "__name__" := by decide) (hdb : (x == ("__debug__" : Str)) = false := by decide) : GE X (.Name x pos) η L Q :=
  ge_con (pe_bltn (v := .ty T) hg hm hv rfl hn hdb) q
/-- the built-ins are no names of the module -/
structure Bi (mg : Str → Option Value) : Prop where
  len : mg "len" = none
  int : mg "int" = none
  abs : mg "abs" = none
  min : mg "min" = none
  max : mg "max" = none
  range : mg "range" = none
  isinstance : mg "isinstance" = none
  list : mg "list" = none
  tuple : mg "tuple" = none
  bool : mg "bool" = none
  str : mg "str" = none
  repr : mg "repr" = none
  sum : mg "sum" = none
  sorted : mg "sorted" = none
  any : mg "any" = none
  all : mg "all" = none
  enumerate : mg "enumerate" = none
  zip : mg "zip" = none
  ValueError : mg "ValueError" = none
  LookupError : mg "LookupError" = none
  reversed : mg "reversed" = none
  b_set : mg "set" = none
  dict : mg "dict" = none
  iter : mg "iter" = none
  next : mg "next" = none
  b_type : mg "type" = none
theorem bt_len : bootBuiltins "len" = some (.builtin "len") := by decide +kernel
theorem bt_abs : bootBuiltins "abs" = some (.builtin "abs") := by decide +kernel
theorem bt_min : bootBuiltins "min" = some (.builtin "min") := by decide +kernel
theorem bt_isinstance : bootBuiltins "isinstance" = some (.builtin "isinstance") := by decide +kernel
theorem bt_int : bootBuiltins "int" = some (.type "int") := by decide +kernel
theorem bt_bool : bootBuiltins "bool" = some (.type "bool") := by decide +kernel
theorem bt_list : bootBuiltins "list" = some (.type "list") := by decide +kernel
theorem bt_tuple : bootBuiltins "tuple" = some (.type "tuple") := by decide +kernel
theorem bt_ValueError : bootBuiltins "ValueError" = some (.type "ValueError") := by decide +kernel
theorem bt_LookupError : bootBuiltins "LookupError" = some (.type "LookupError") := by decide +kernel
theorem bt_str : bootBuiltins "str" = some (.type "str") := by decide +kernel
end

/-! ### 7. Targets, statements -/
section
variable {X : Cx} {η : En} {L : Lg} {e a b c tg : Expr} {pos : Pos} {st : Stmt} {rest body : List Stmt} {D : GD} {v : V}
theorem GG.then {Q : En → Lg → Prop} {Q' : L2.St → Hp → Prop} (h : GG X tg v η L Q) (hN : X.N = names η) {H : Hp} (hH : Has H L) (m : ∀ θ L1 H1, X.N = names θ → Has H1 L1 → Q θ L1 → Q' (vals θ) H1) : WG X tg v (vals η) H Q' := (h hN H hH).mono fun σ' H1 ⟨θ, L1, n1, es, h1, q1⟩ => by
  rw [es]
  exact m θ L1 H1 n1 h1 q1
theorem GGs.then {ts : List Expr} {vs : List V} {Q : En → Lg → Prop} {Q' : L2.St → Hp → Prop} (h : GGs X ts vs η L Q) (hN : X.N = names η) {H : Hp} (hH : Has H L) (m : ∀ θ L1 H1, X.N = names θ → Has H1 L1 → Q θ L1 → Q' (vals θ) H1) : WGs X ts vs (vals η) H Q' := (h hN H hH).mono fun σ' H1 ⟨θ, L1, n1, es, h1, q1⟩ => by
  rw [es]
  exact m θ L1 H1 n1 h1 q1
theorem gg_name {x : Str} {θ : En} {Q : En → Lg → Prop} (p : Put x v η θ) (q : Q θ L) (hn : X.N.Nodup := by assumption) (hx : Loc X.env.scope x := by first | exact Or.inl rfl | exact Or.inr rfl) (hf : X.fn x = true ∨ X.env.scope.names.lookup x = some .local := by first | exact .inl rfl | exact .inr rfl) : GG X (.Name x pos) v η L Q := fun hN H hH => by
  obtain ⟨i, h1, h2, h3⟩ := p.idx
  refine WG.of (pg_name (i := i) hn (by rw [hN]; exact h1) hx hf) ?_
  show upS X Q ((vals η).set i (some v)) H
  exact ⟨θ, L, by rw [h3]; exact hN, h2.symm, hH, q⟩
theorem ggs_nil {Q : En → Lg → Prop} (q : Q η L) : GGs X [] [] η L Q := fun hN H hH => WGs.of pgs_nil ⟨rfl, η, L, hN, rfl, hH, q⟩
theorem ggs_cons {ts : List Expr} {vs : List V} {Q : En → Lg → Prop} (h : GG X e v η L fun θ L1 => GGs X ts vs θ L1 Q)
    (hs : (assignEach (e :: ts) X.env).map (·.2) = assign e X.env :: (assignEach ts X.env).map (·.2) := by rfl) : GGs X (e :: ts) (v :: vs) η L Q := fun hN H hH =>
  WGs.of (pgs_cons pg_W pgs_W hs) ⟨v, vs, rfl, h.then hN hH fun θ L1 H1 n1 h1 q1 => q1 n1 H1 h1⟩
theorem gg_tup {es : List Expr} {k : Nat} {p : Addr} {xs : List V} {Q : En → Lg → Prop} (m : (p, HO.tup xs) ∈ L) (h : GGs X es xs η L Q) (hl : xs.length = es.length := by rfl) (hc : X.calm = true := by rfl)
    (hn : (assignEach es X.env).length = es.length := by rfl) (hst : (assignEach es X.env).findIdx? (·.1) = none := by rfl) : GG X (.Tuple es k pos) (.ref p) η L Q := fun hN H hH =>
  WG.of (pg_tup hc pgs_W hn hst) ⟨p, xs, rfl, sqt hH m, hl, h hN H hH⟩
/-- o[i] = v, by values -/
def GSt (X : Cx) (o i v : V) (L : Lg) (Q : Lg → Prop) : Prop := ∀ pins s σ H ov iv u, Has H L → Inv X pins σ H s → RelV o ov → RelV i iv → RelV v u →
  wpAny (model X.prog X.w) X.A (setItem ov iv u) (fun _ s' => ∃ H', Inv X pins σ H' s' ∧ ∃ L', Has H' L' ∧ Q L') X.xe s
theorem gst_lst {p : Addr} {xs : List V} {k : Int} {j : Nat} {M : Lg} {Q : Lg → Prop} (m : (p, HO.lst xs) ∈ L) (hi : ixN xs.length k = some j) (sw : Swap p (.lst (xs.set j v)) L M) (q : Q M) : GSt X (.ref p) (.int k) v L Q :=
  fun pins s σ H ov iv u hH I r1 r2 r3 => (show PSet X rSetL from set_list) pins s σ H (.ref p) (.int k) v ov iv u _ I r1 r2 r3 ⟨p, xs, k, j, rfl, rfl, hH.get m, hi, M, hH.swap sw, q⟩
theorem gst_30 {p : Addr} {a b c : V} {M : Lg} {Q : Lg → Prop} (m : (p, HO.lst [a, b, c]) ∈ L) (sw : Swap p (.lst [v, b, c]) L M) (q : Q M) : GSt X (.ref p) (.int 0) v L Q := gst_lst (j := 0) m rfl sw q
theorem gst_31 {p : Addr} {a b c : V} {M : Lg} {Q : Lg → Prop} (m : (p, HO.lst [a, b, c]) ∈ L) (sw : Swap p (.lst [a, v, c]) L M) (q : Q M) : GSt X (.ref p) (.int 1) v L Q := gst_lst (j := 1) m rfl sw q
theorem gst_32 {p : Addr} {a b c : V} {M : Lg} {Q : Lg → Prop} (m : (p, HO.lst [a, b, c]) ∈ L) (sw : Swap p (.lst [a, b, v]) L M) (q : Q M) : GSt X (.ref p) (.int 2) v L Q := gst_lst (j := 2) m rfl sw q
theorem gg_sub {o i : Expr} {Q : En → Lg → Prop} (h : GE X o η L fun x L1 => GE X i η L1 fun y L2 => GSt X x y v L2 fun L3 => Q η L3)
    (ha : ∀ v, assign (.Subscript o i pos) X.env v = (do
      let ov ← holding [v] (eval o X.env)
      let iv ← holding [v, ov] (eval i X.env)
      standAt pos
      holding [v, ov, iv] (setItem ov iv v)
      release [v, ov, iv] []) := by intro _; rfl) : GG X (.Subscript o i pos) v η L Q := fun hN H hH =>
  WG.of (pg_sub (t := fun x y z H' Q' => ∀ pins s σ ov iv u, Inv X pins σ H' s → RelV x ov → RelV y iv → RelV z u → wpAny (model X.prog X.w) X.A (setItem ov iv u) (fun _ s' => ∃ H'', Inv X pins σ H'' s' ∧ Q' H'') X.xe s)
    pe_W pe_W (fun pins s σ H' x y z ov iv u Q' I r1 r2 r3 q => q pins s σ ov iv u I r1 r2 r3) ha)
    (h.then hN hH fun _ _ _ h1 q1 => q1.then hN h1 fun _ _ _ h2 q2 => fun pins s σ ov iv u I r1 r2 r3 =>
      thn (q2 pins s σ _ ov iv u h2 I r1 r2 r3) fun _ _ ⟨H3, J, L3, h3, q3⟩ => ⟨H3, J, η, L3, hN, rfl, h3, q3⟩)

theorem GS.run {σ : L2.St} {H : Hp} (h : GS X st D η L) (hN : X.N = names η) (hH : Has H L) : WS X st (D.ends X) (vals η) H := h hN H hH
theorem SPm {pins : List (Addr × Obj)} {D D' : Ends} {f : Flow} {s : Shared} (h : SP X pins D f s) (nx : ∀ σ H, D.nx σ H → D'.nx σ H) (rt : ∀ v H, D.rt v H → D'.rt v H) (bk : ∀ σ H, D.bk σ H → D'.bk σ H) (ct : ∀ σ H, D.ct σ H → D'.ct σ H) : SP X pins D' f s := by
  cases f with
  | next => obtain ⟨σ', H', I, q⟩ := h; exact ⟨σ', H', I, nx _ _ q⟩
  | brk => obtain ⟨σ', H', I, q⟩ := h; exact ⟨σ', H', I, bk _ _ q⟩
  | cont => obtain ⟨σ', H', I, q⟩ := h; exact ⟨σ', H', I, ct _ _ q⟩
  | ret u => obtain ⟨v, σ', H', I, r, q⟩ := h; exact ⟨v, σ', H', I, r, rt _ _ q⟩
theorem WS.mono {σ : L2.St} {H : Hp} {D D' : Ends} (h : WS X st D σ H) (nx : ∀ σ H, D.nx σ H → D'.nx σ H) (rt : ∀ v H, D.rt v H → D'.rt v H) (bk : ∀ σ H, D.bk σ H → D'.bk σ H) (ct : ∀ σ H, D.ct σ H → D'.ct σ H) : WS X st D' σ H :=
  fun pins s I => thn (h pins s I) fun _ _ z => SPm z nx rt bk ct
theorem WSs.mono {σ : L2.St} {H : Hp} {D D' : Ends} {sts : List Stmt} (h : WSs X sts D σ H) (nx : ∀ σ H, D.nx σ H → D'.nx σ H) (rt : ∀ v H, D.rt v H → D'.rt v H) (bk : ∀ σ H, D.bk σ H → D'.bk σ H) (ct : ∀ σ H, D.ct σ H → D'.ct σ H) : WSs X sts D' σ H :=
  fun pins s I => thn (h pins s I) fun _ _ z => SPm z nx rt bk ct
theorem gss_nil (q : D.nx η L) : GSs X [] D η L := fun hN H hH => WSs.of pss_nil ⟨η, L, hN, rfl, hH, q⟩
theorem gss_cons (h : GS X st { D with nx := fun θ L1 => GSs X rest D θ L1 } η L) : GSs X (st :: rest) D η L := fun hN H hH =>
  WSs.of (pss_cons ps_W pss_W) ((h hN H hH).mono (fun σ1 H1 ⟨θ, L1, n1, es, h1, q1⟩ => by
    rw [es]
    exact q1 n1 H1 h1) (fun _ _ z => z) (fun _ _ z => z) fun _ _ z => z)
/-- ways meet: what holds behind the first statement -/
theorem gss_cut (M : En → Lg → Prop) (h : GS X st { D with nx := M } η L) (k : ∀ θ L1, M θ L1 → GSs X rest D θ L1) : GSs X (st :: rest) D η L := fun hN H hH =>
  WSs.of (pss_cons ps_W pss_W) ((h hN H hH).mono (fun σ1 H1 ⟨θ, L1, n1, es, h1, q1⟩ => by
    rw [es]
    exact k θ L1 q1 n1 H1 h1) (fun _ _ z => z) (fun _ _ z => z) fun _ _ z => z)
theorem GS.cut (M : En → Lg → Prop) {Q : En → Lg → Prop} (h : GS X st { D with nx := M } η L) (k : ∀ θ L1, M θ L1 → Q θ L1) (e : D.nx = Q := by rfl) : GS X st D η L := fun hN H hH =>
  (h hN H hH).mono (fun σ1 H1 ⟨θ, L1, n1, es, h1, q1⟩ => ⟨θ, L1, n1, es, h1, by rw [e]; exact k θ L1 q1⟩) (fun _ _ z => z) (fun _ _ z => z) fun _ _ z => z
theorem GSs.sub {M : Lg} {sts : List Stmt} (s : Sub M L) (h : GSs X sts D η M) : GSs X sts D η L := fun hN H hH => h hN H (s H hH)
theorem GS.sub {M : Lg} (s : Sub M L) (h : GS X st D η M) : GS X st D η L := fun hN H hH => h hN H (s H hH)
theorem gs_never (h : False) : GS X st D η L := h.elim
theorem gs_pass (q : D.nx η L) : GS X (.Pass pos) D η L := fun hN H hH => WS.of ps_pass ⟨η, L, hN, rfl, hH, q⟩
theorem gs_break (q : D.bk η L) : GS X (.Break pos) D η L := fun hN H hH => WS.of ps_break ⟨η, L, hN, rfl, hH, q⟩
theorem gs_continue (q : D.ct η L) : GS X (.Continue pos) D η L := fun hN H hH => WS.of ps_continue ⟨η, L, hN, rfl, hH, q⟩
theorem gs_expr (h : GE X e η L fun _ L1 => D.nx η L1) (hs : swapsWith e none pos.line X.env = pure false := by rfl) : GS X (.Expr e pos) D η L := fun hN H hH =>
  WS.of (ps_expr pe_W hs) (h.then hN hH fun _ L1 H1 h1 q1 => ⟨η, L1, hN, rfl, h1, q1⟩)
theorem gs_ret (h : GE X e η L D.rt) : GS X (.Return (some e) pos) D η L := fun hN H hH => WS.of (ps_ret pe_W) (h hN H hH)
theorem gs_retN (q : D.rt .non L) : GS X (.Return none pos) D η L := fun hN H hH => WS.of ps_retN ⟨L, hH, q⟩
theorem gs_if {p q : List Stmt} (h : GT X c η L fun k L1 => if k = true then GSs X p D η L1 else GSs X q D η L1) : GS X (.If c p q pos) D η L := fun hN H hH =>
  WS.of (ps_if pt_W pss_W pss_W) (h.then hN hH fun k L1 H1 h1 q1 => by
    cases k with
    | true => exact q1 hN H1 h1
    | false => exact q1 hN H1 h1)
/-- x = e, x a name of the def's own -/
theorem gs_set {x : Str} {f : V → En} {pos' : Pos} (p : PutF x η f) (h : GE X e η L fun v L1 => D.nx (f v) L1) (hn : X.N.Nodup := by assumption) (hx : Loc X.env.scope x := by first | exact Or.inl rfl | exact Or.inr rfl)
    (hs : swapsWith e (some (.Name x pos')) pos.line X.env = pure false := by rfl) (hf : X.fn x = true ∨ X.env.scope.names.lookup x = some .local := by first | exact .inl rfl | exact .inr rfl) : GS X (.Assign [.Name x pos'] e pos) D η L := fun hN H hH => by
  obtain ⟨i, h1, h2⟩ := p.idx
  refine WS.of (ps_set (i := i) hn (by rw [hN]; exact h1) hx pe_W hs hf) (h.then hN hH fun v L1 H1 g1 q1 => ?_)
  show upS X D.nx ((vals η).set i (some v)) H1
  exact ⟨f v, L1, by rw [(h2 v).2]; exact hN, (h2 v).1.symm, g1, q1⟩
/-- x op= y, by values -/
def GIp (X : Cx) (op : Operator) (x y : V) (L : Lg) (Q : QV) : Prop := ∀ pins s σ H v u, Has H L → Inv X pins σ H s → RelV x v → RelV y u → wpAny (model X.prog X.w) X.A (inplaceOp op v u) (EP X pins σ (up Q)) X.xe s
theorem gp_add {i j : Int} {Q : QV} (h : Q (.int (i + j)) L) : GIp X .Add (.int i) (.int j) L Q := fun pins s σ H v u hH I r1 r2 => (show PIp X .Add (ipI fun i j => i + j) from ip_add) pins s σ H _ _ v u _ I r1 r2 ⟨i, j, rfl, rfl, L, hH, h⟩
theorem gp_sub {i j : Int} {Q : QV} (h : Q (.int (i - j)) L) : GIp X .Sub (.int i) (.int j) L Q := fun pins s σ H v u hH I r1 r2 => (show PIp X .Sub (ipI fun i j => i - j) from ip_sub) pins s σ H _ _ v u _ I r1 r2 ⟨i, j, rfl, rfl, L, hH, h⟩
theorem gp_mul {i j : Int} {Q : QV} (c : CMulW i j) (h : Q (.int (i * j)) L) : GIp X .Mult (.int i) (.int j) L Q := fun pins s σ H v u hH I r1 r2 => by
  obtain ⟨t1, rfl⟩ := r1
  obtain ⟨t2, rfl⟩ := r2
  exact imul_int ⟨.int (i * j), H, I.tok _, ⟨_, rfl⟩, L, hH, h⟩ c.ok
/-- x op= e -/
theorem gs_aug {x : Str} {y : V} {f : V → En} {pos' : Pos} {op : Operator} (r : At x y η) (p : PutF x η f)
    (h : GE X e η L fun z L1 => GIp X op y z L1 fun w L2 => D.nx (f w) L2)
    (hn : X.N.Nodup := by assumption) (hx : Loc X.env.scope x := by first | exact Or.inl rfl | exact Or.inr rfl) (hf : X.fn x = true ∨ X.env.scope.names.lookup x = some .local := by first | exact .inl rfl | exact .inr rfl) : GS X (.AugAssign (.Name x pos') op e pos) D η L := fun hN H hH => by
  obtain ⟨i, h1, h2⟩ := p.idx
  obtain ⟨j, g1, g2⟩ := r.idx
  have ij : i = j := by
    have h1' : X.N[i]? = some x := by rw [hN]; exact h1
    have g1' : X.N[j]? = some x := by rw [hN]; exact g1
    obtain ⟨a1, a2⟩ := List.getElem?_eq_some_iff.mp h1'
    obtain ⟨b1, b2⟩ := List.getElem?_eq_some_iff.mp g1'
    exact (List.getElem_inj hn).mp (a2.trans b2.symm)
  subst ij
  refine WS.of (ps_aug (i := i) (ti := fun a b H' Q' => ∀ pins s σ v u, Inv X pins σ H' s → RelV a v → RelV b u → wpAny (model X.prog X.w) X.A (inplaceOp op v u) (EP X pins σ Q') X.xe s) hn (by rw [hN]; exact h1) hx pe_W
    (fun pins s σ H' a b v u Q' I r1 r2 q => q pins s σ v u I r1 r2) hf) ⟨y, g2, ?_⟩
  refine h.then hN hH fun z L1 H1 k1 q1 => fun pins s σ v u I r1 r2 => ?_
  refine thn (q1 pins s σ H1 v u k1 I r1 r2) fun w _ ⟨x', H2, J, r3, L2, k2, q2⟩ => ⟨x', H2, J, r3, ?_⟩
  show upS X D.nx ((vals η).set i (some x')) H2
  exact ⟨f x', L2, by rw [(h2 x').2]; exact hN, (h2 x').1.symm, k2, q2⟩
/-- a, b = x, y (both written) -/
theorem gs_par {x y : Str} {f : V → En} {g : V → V → En} {px py pt pos : Pos} {kt k2 pt2} (p : PutF x η f) (q : ∀ v, PutF y (f v) (g v)) (h : GA X [a, b] η L fun vs L1 => ∃ v w, vs = [v, w] ∧ D.nx (g v w) L1)
    (hw : swappedStores [.Tuple [.Name x px, .Name y py] kt pt] (.Tuple [a, b] k2 pt2) X.env = pure (some [x, y]) := by rfl) (hxy : x ≠ y := by decide +kernel) (hn : X.N.Nodup := by assumption) (hc : X.calm = true := by rfl)
    (hx : X.env.scope.names.lookup x = some .local := by rfl) (hy : X.env.scope.names.lookup y = some .local := by rfl)
    (hs : swapsWithSole [.Tuple [.Name x px, .Name y py] kt pt] (.Tuple [a, b] k2 pt2) pos.line X.env = pure false := by rfl) :
    GS X (.Assign [.Tuple [.Name x px, .Name y py] kt pt] (.Tuple [a, b] k2 pt2) pos) D η L := fun hN H hH => by
  obtain ⟨i, h1, h2⟩ := p.idx
  obtain ⟨j, g1⟩ : ∃ j : Nat, ∀ v, (names (f v))[j]? = some y ∧ ∀ w, vals (g v w) = (vals (f v)).set j (some w) ∧ names (g v w) = names (f v) := by
    obtain ⟨j, k1, k2⟩ := (q .non).idx
    refine ⟨j, fun v => ?_⟩
    obtain ⟨j', m1, m2⟩ := (q v).idx
    have e : j = j' := by
      rw [(h2 .non).2] at k1
      rw [(h2 v).2] at m1
      have k1' : X.N[j]? = some y := by rw [hN]; exact k1
      have m1' : X.N[j']? = some y := by rw [hN]; exact m1
      obtain ⟨a1, a2⟩ := List.getElem?_eq_some_iff.mp k1'
      obtain ⟨b1, b2⟩ := List.getElem?_eq_some_iff.mp m1'
      exact (List.getElem_inj hn).mp (a2.trans b2.symm)
    subst e
    exact ⟨m1, m2⟩
  have hi : X.N[i]? = some x := by rw [hN]; exact h1
  have hj : X.N[j]? = some y := by
    have z := (g1 .non).1
    rw [(h2 .non).2] at z
    rw [hN]
    exact z
  have hij : i ≠ j := fun e => hxy (by rw [e, hj] at hi; exact (Option.some.inj hi).symm)
  refine WS.of (ps_par (i := i) (j := j) hc hn hi hj hij hx hy pa_W hw hs) (h.then hN hH fun vs L1 H1 k1 ⟨v, w, e1, q1⟩ => ⟨v, w, e1, ?_⟩)
  show upS X D.nx (((vals η).set i (some v)).set j (some w)) H1
  refine ⟨g v w, L1, ?_, ?_, k1, q1⟩
  · rw [((g1 v).2 w).2, (h2 v).2]
    exact hN
  · rw [((g1 v).2 w).1, (h2 v).1]
end

/-! ### 8. Loops -/
section
variable {X : Cx} {η : En} {L : Lg} {e a b c tg iter : Expr} {pos : Pos} {body : List Stmt} {D : GD}
theorem gs_asg (h : GE X e η L fun v L1 => GG X tg v η L1 D.nx) (hs : swapsWithSole [tg] e pos.line X.env = pure false := by rfl) (hw : swappedStores [tg] e X.env = pure none := by rfl)
    (h1 : (assignEach [tg] X.env).map (·.2) = [assign tg X.env] := by rfl) : GS X (.Assign [tg] e pos) D η L := fun hN H hH =>
  WS.of (ps_asg pe_W pg_W hs hw h1) (h.then hN hH fun v L1 H1 k1 q1 => q1 hN H1 k1)
/-- a loop's invariant: Pv by the turn -/
structure LoopBy (X : Cx) (tg : Expr) (body : List Stmt) (D : GD) (item : Nat → V → Prop) (n : Nat) (η : En) (L : Lg) (Pv : Nat → En → Lg → Prop) : Prop where
  h0 : Pv 0 η L
  hs : ∀ i x θ M, i < n → item i x → Pv i θ M → GG X tg x θ M fun θ' M' => GSs X body { nx := Pv (i + 1), rt := D.rt, bk := D.nx, ct := Pv (i + 1) } θ' M'
  hd : ∀ θ M, Pv n θ M → D.nx θ M
/-- one turn, as the library's loops ask it -/
theorem turn {item : Nat → V → Prop} {n : Nat} {Pv : Nat → En → Lg → Prop} (l : LoopBy X tg body D item n η L Pv) {i : Nat} {x : V} {σ : L2.St} {H : Hp} (hi : i < n) (hx : item i x) (p : upS X (Pv i) σ H) :
    WG X tg x σ H fun σ2 H2 => WSs X body { D.ends X with nx := upS X (Pv (i + 1)), ct := upS X (Pv (i + 1)), bk := (D.ends X).nx } σ2 H2 := by
  obtain ⟨θ, M, n1, es, h1, q1⟩ := p
  rw [es]
  exact (l.hs i x θ M hi hx q1).then n1 h1 fun θ' M' H2 n2 h2 q2 => q2 n2 H2 h2
theorem gs_range1 {p pos' : Pos} (h : GA X [a] η L fun vs L1 => ∃ (j : Int) (Pv : Nat → En → Lg → Prop), vs = [.int j] ∧ (-(2 ^ 62) ≤ j ∧ j < 2 ^ 62) ∧ LoopBy X tg body D (fun i x => x = .int (i : Int)) j.toNat η L1 Pv) (hm : X.mg "range" = none)
    (hp : PassesOwn (model X.prog X.w) X.A X.env X.xe := by first | exact PassesOwn.never | exact passes_of rfl | assumption) (hc : X.calm = true := by rfl) (hg : Gl X "range" := by rfl)
    (hs' : starEach [a] X.env = [(false, eval a X.env)] := by rfl) (hs : ∀ x, foldedSetIterable (.Call (.Name "range" p) [a] [] pos') X.env x = pure x := by intro _; rfl) : GS X (.For tg (.Call (.Name "range" p) [a] [] pos') body [] pos) D η L := fun hN H hH =>
  WS.of (ps_for hp hc (pi_range1 hg hm pa_W hs') pg_W pss_W hs) (h.then hN hH fun vs L1 H1 k1 ⟨j, Pv, e1, bd, l⟩ => by
    refine ⟨j, e1, bd.1, bd.2, for_range (fun i => upS X (Pv i)) ⟨η, L1, hN, rfl, k1, l.h0⟩ (fun i σ H2 hlt q => ?_) (fun σ H2 ⟨θ, M, n1, es, h2, q⟩ => ⟨θ, M, n1, es, h2, l.hd θ M q⟩)⟩
    rw [Int.zero_add]
    exact turn l hlt rfl q)
theorem gs_range2 {p pos' : Pos} (h : GA X [a, b] η L fun vs L1 => ∃ (j k : Int) (Pv : Nat → En → Lg → Prop), vs = [.int j, .int k] ∧ (-(2 ^ 62) ≤ j ∧ j < 2 ^ 62 ∧ -(2 ^ 62) ≤ k ∧ k < 2 ^ 62) ∧ LoopBy X tg body D (fun i x => x = .int (j + (i : Int))) (k - j).toNat η L1 Pv) (hm : X.mg "range" = none)
    (hp : PassesOwn (model X.prog X.w) X.A X.env X.xe := by first | exact PassesOwn.never | exact passes_of rfl | assumption) (hc : X.calm = true := by rfl) (hg : Gl X "range" := by rfl)
    (hs' : starEach [a, b] X.env = [(false, eval a X.env), (false, eval b X.env)] := by rfl) (hs2 : starEach [b] X.env = [(false, eval b X.env)] := by rfl) (hs : ∀ x, foldedSetIterable (.Call (.Name "range" p) [a, b] [] pos') X.env x = pure x := by intro _; rfl) : GS X (.For tg (.Call (.Name "range" p) [a, b] [] pos') body [] pos) D η L := fun hN H hH =>
  WS.of (ps_for hp hc (pi_range2 hg hm pa_W hs' hs2) pg_W pss_W hs) (h.then hN hH fun vs L1 H1 k1 ⟨j, k, Pv, e1, bd, l⟩ => by
    refine ⟨j, k, e1, bd, for_range (fun i => upS X (Pv i)) ⟨η, L1, hN, rfl, k1, l.h0⟩ (fun i σ H3 hlt q => ?_) (fun σ H3 ⟨θ, M, n1, es, h2, q⟩ => ⟨θ, M, n1, es, h2, l.hd θ M q⟩)⟩
    exact turn l hlt rfl q)
theorem gs_list (h : GE X e η L fun v L1 => ∃ (p : Addr) (xs : List V) (Pv : Nat → En → Lg → Prop), v = .ref p ∧ (∀ i θ M, i ≤ xs.length → Pv i θ M → (p, HO.lst xs) ∈ M) ∧ LoopBy X tg body D (fun i x => xs[i]? = some x) xs.length η L1 Pv)
    (hp : PassesOwn (model X.prog X.w) X.A X.env X.xe := by first | exact PassesOwn.never | exact passes_of rfl | assumption) (hc : X.calm = true := by rfl) (hs : ∀ x, foldedSetIterable e X.env x = pure x := by intro _; rfl) : GS X (.For tg e body [] pos) D η L := fun hN H hH =>
  WS.of (ps_for hp hc (pi_list pe_W) pg_W pss_W hs) (h.then hN hH fun v L1 H1 k1 ⟨p, xs, Pv, e1, keep, l⟩ => by
    refine ⟨p, e1, ⟨xs, sql k1 (keep 0 η L1 (Nat.zero_le _) l.h0)⟩, for_list (xs := xs) (fun i => upS X (Pv i)) ⟨η, L1, hN, rfl, k1, l.h0⟩ (fun i σ H2 hi ⟨θ, M, n1, es, h2, q⟩ => sql h2 (keep i θ M hi q)) (fun i x σ H2 hx q => ?_) (fun σ H2 ⟨θ, M, n1, es, h2, q⟩ => ⟨θ, M, n1, es, h2, l.hd θ M q⟩)⟩
    exact turn l (List.getElem?_eq_some_iff.mp hx).1 hx q)
theorem gs_tuple (h : GE X e η L fun v L1 => ∃ (p : Addr) (xs : List V) (Pv : Nat → En → Lg → Prop), v = .ref p ∧ (∀ i θ M, i ≤ xs.length → Pv i θ M → (p, HO.tup xs) ∈ M) ∧ LoopBy X tg body D (fun i x => xs[i]? = some x) xs.length η L1 Pv)
    (hp : PassesOwn (model X.prog X.w) X.A X.env X.xe := by first | exact PassesOwn.never | exact passes_of rfl | assumption) (hc : X.calm = true := by rfl) (hs : ∀ x, foldedSetIterable e X.env x = pure x := by intro _; rfl) : GS X (.For tg e body [] pos) D η L := fun hN H hH =>
  WS.of (ps_for hp hc (pi_tup pe_W) pg_W pss_W hs) (h.then hN hH fun v L1 H1 k1 ⟨p, xs, Pv, e1, keep, l⟩ => by
    refine ⟨p, e1, ⟨xs, sqt k1 (keep 0 η L1 (Nat.zero_le _) l.h0)⟩, for_tup (xs := xs) (fun i => upS X (Pv i)) ⟨η, L1, hN, rfl, k1, l.h0⟩ (fun i σ H2 hi ⟨θ, M, n1, es, h2, q⟩ => sqt h2 (keep i θ M hi q)) (fun i x σ H2 hx q => ?_) (fun σ H2 ⟨θ, M, n1, es, h2, q⟩ => ⟨θ, M, n1, es, h2, l.hd θ M q⟩)⟩
    exact turn l (List.getElem?_eq_some_iff.mp hx).1 hx q)
/-- while: the word Pv with its measure as a part -/
theorem gs_while (Pv : Nat → En → Lg → Prop) (m0 : Nat) (h0 : Pv m0 η L)
    (hs : ∀ m θ M, Pv m θ M → GT X c θ M fun k M1 => if k = true then GSs X body { nx := fun θ' M' => ∃ m', m' < m ∧ Pv m' θ' M', rt := D.rt, bk := D.nx, ct := fun θ' M' => ∃ m', m' < m ∧ Pv m' θ' M' } θ M1 else D.nx θ M1)
    (hp : PassesOwn (model X.prog X.w) X.A X.env X.xe := by first | exact PassesOwn.never | exact passes_of rfl | assumption) : GS X (.While c body [] pos) D η L := fun hN H hH =>
  WS.of (ps_while hp pt_W pss_W) ⟨fun m => upS X (Pv m), ⟨m0, η, L, hN, rfl, hH, h0⟩, fun m σ H1 ⟨θ, M, n1, es, h1, q1⟩ => by
    rw [es]
    refine (hs m θ M q1).then n1 h1 fun k M1 H2 h2 q2 => ?_
    cases k with
    | true =>
      refine ⟨upS X fun θ' M' => ∃ m', m' < m ∧ Pv m' θ' M', fun σ' H' ⟨θ', M', n', e', h', m', hlt, q'⟩ => ⟨m', hlt, θ', M', n', e', h', q'⟩, ?_⟩
      exact q2 n1 H2 h2
    | false => exact ⟨θ, M1, n1, rfl, h2, q2⟩⟩
end

/-! ### 9. Defs and their promises -/
abbrev XL := Value → Option Addr → Lg → Prop
abbrev SpL := List V → Lg → QV → XL → Prop
/-- a promise over ledgers, as the library's -/
def toSp (sp : SpL) : Sp := fun vs H Q E => ∃ L Ql El, Has H L ∧ sp vs L Ql El ∧ (∀ v L' H', Has H' L' → Ql v L' → Q v H') ∧ ∀ c d L' H', Has H' L' → El c d L' → E c d H'
section
variable {P : Program} {w : World} {K : PySem.W.Frag} {mg : Str → Option Value} {base : Heap}
/-- the def x of the text as it stands behind the top -/
def Df (K : PySem.W.Frag) (mg : Str → Option Value) (x : Str) (st : Stmt) : Prop := ∃ f fd, mg x = some (.ref f) ∧ Fun K x x st f fd
/-- room for calls, and no repr that is under way -/
structure RoomG (k : Nat) (A : Around) : Prop extends Room k A where
  gd : A.guards = some []
theorem RoomG.mono {j k : Nat} {A : Around} (r : RoomG k A) (h : j ≤ k) : RoomG j A := ⟨r.toRoom.mono h, r.gd⟩
/-- what is at f keeps its promise; args: how the call's values are handed over -/
def RunG (P : Program) (w : World) (K : PySem.W.Frag) (mg : Str → Option Value) (base : Heap) (CX : CXT) (k : Nat) (f : Addr) (args : List Value → Args) (sp : Sp) : Prop :=
  ∀ (A : Around) (outer : List Env) (s : Shared) (H : Hp) (us : List Value) (vs : List V) (Q : VK) (E : XK), RoomG k A → Env0 P w K mg base A outer s H → Vals vs us → sp vs H Q E → codeAny (model P w) A (.call (.ref f) (args us)) (CR CX outer P w H s Q E) s
abbrev argsP : List Value → Args := fun us => ⟨us, []⟩
abbrev argsK (n : Nat) (ks : List Str) : List Value → Args := fun us => ⟨us.take n, ks.zip (us.drop n)⟩
theorem RunG.imp {CX : CXT} {k : Nat} {f : Addr} {args : List Value → Args} {sp sp' : Sp} (F : RunG P w K mg base CX k f args sp) (h : ∀ vs H Q E, sp' vs H Q E → sp vs H Q E) : RunG P w K mg base CX k f args sp' := fun A outer s H us vs Q E hr e0 r hs => F A outer s H us vs Q E hr e0 r (h _ _ _ _ hs)
theorem RunG.mono {CX : CXT} {j k : Nat} {f : Addr} {args : List Value → Args} {sp : Sp} (F : RunG P w K mg base CX j f args sp) (h : j ≤ k) : RunG P w K mg base CX k f args sp := fun A outer s H us vs Q E hr => F A outer s H us vs Q E (hr.mono h)
/-- the def x keeps its promise -/
def FnA (P : Program) (w : World) (K : PySem.W.Frag) (mg : Str → Option Value) (base : Heap) (CX : CXT) (x : Str) (k : Nat) (args : List Value → Args) (sp : SpL) : Prop := ∃ f, mg x = some (.ref f) ∧ PySem.W.keepIn K (.ref f) = true ∧ RunG P w K mg base CX k f args (toSp sp)
abbrev Fn (P : Program) (w : World) (K : PySem.W.Frag) (mg : Str → Option Value) (base : Heap) (CX : CXT) (x : Str) (k : Nat) (sp : SpL) : Prop := FnA P w K mg base CX x k argsP sp
/-- what is left over may be dropped -/
def drp (Q : QV) : QV := fun v L => ∃ M, Sub M L ∧ Q v M
def bodyD (Q : QV) : GD := { nx := fun _ L => drp Q .non L, rt := drp Q, bk := fun _ _ => False, ct := fun _ _ => False }
def begun (N : List Str) (vs : List V) : En := N.zip (L2.start N vs)
theorem names_begun {N : List Str} {vs : List V} (h : vs.length ≤ N.length) : names (begun N vs) = N ∧ vals (begun N vs) = L2.start N vs := by
  have l : (L2.start N vs).length = N.length := by
    unfold L2.start
    rw [List.length_append, List.length_map, List.length_replicate]
    omega
  unfold names vals begun
  exact ⟨List.map_fst_zip (Nat.le_of_eq l.symm), List.map_snd_zip (Nat.le_of_eq l)⟩
/-- where the body of such a def stands -/
def cx0 (P : Program) (w : World) (K : PySem.W.Frag) (mg : Str → Option Value) (base : Heap) (N : List Str) (x : Str) (sc : Scope) (f : Addr) (cdv : Value) (A : Around) (outer : List Env) (s : Shared) (H : Hp) (E0 : XK) : Cx := (cxOf CX0 P w K mg base N x sc f cdv A outer s H E0).nox
/-- what a body shows, as the library wants it -/
theorem body_end {X : Cx} {st : List Stmt} {vs : List V} {H : Hp} {Q : VK} {Ql : QV} (hl : vs.length ≤ X.N.length) (hq : ∀ v L' H', Has H' L' → Ql v L' → Q v H') {L : Lg} (hH : Has H L) (h : GSs X st (bodyD Ql) (begun X.N vs) L) :
    WSs X st { nx := fun _ H' => Q .non H', rt := Q } (L2.start X.N vs) H := by
  have z := h (by rw [(names_begun hl).1] <;> rfl) H hH
  rw [(names_begun hl).2] at z
  refine z.mono (fun σ H' hh => ?_) (fun v H' hh => ?_) (fun _ _ hh => ?_) (fun _ _ hh => ?_)
  · obtain ⟨θ, M, _, _, h', M', sb, q⟩ := hh
    exact hq _ M' H' (sb _ h') q
  · obtain ⟨M, h', M', sb, q⟩ := hh
    exact hq _ M' H' (sb _ h') q
  · obtain ⟨_, _, _, _, _, q⟩ := hh
    exact q.elim
  · obtain ⟨_, _, _, _, _, q⟩ := hh
    exact q.elim
theorem guard_deeper {A : Around} {e : Env} (h : A.guards = some []) : (A.deeper e).guards = some [] := h
/-- what a promise's body is shown of -/
abbrev BodyOf (P : Program) (w : World) (K : PySem.W.Frag) (mg : Str → Option Value) (base : Heap) (N : List Str) (q : Str) (st : Stmt) (k : Nat) (sp : SpL) : Prop :=
  ∀ (X : Cx) (f : Addr) (cdv : Value) (A : Around) (outer : List Env) (s : Shared) (H : Hp) (E0 : XK) (L : Lg) (vs : List V) (Q : QV) (E : XL), X = cx0 P w K mg base N q (defScope st) f cdv A outer s H E0 → X.N.Nodup → RoomG k X.A → sp vs L Q E → GSs X (defBody st) (bodyD Q) (begun N vs) L
theorem run_plain {x q : Str} {st : Stmt} {f : Addr} {fd : FuncData} {N ps : List Str} {k : Nat} {sp : SpL} (F : Fun K x q st f fd) (S : FnScope N ps (defScope st)) (args : List Value → Args) (pmV : List V → List V) (pmU : List Value → List Value) (hpm : ∀ vs us, Vals vs us → Vals (pmV vs) (pmU us))
    (hb : ∀ (kV doc pm : Value) (an : Option Addr) (cdv ct : Value) (us : List Value), (pmU us).length = ps.length → bindArgs (PySem.W.fnOf x q (defArgs st) (defBody st) (defScope st) .none kV doc pm an cdv ct) (args us) = pure (ps.zip (pmU us)))
    (hl : ps.length ≤ N.length) (len : ∀ vs L Q E, sp vs L Q E → vs.length = ps.length) (body : BodyOf P w K mg base N q st k sp) : RunG P w K mg base CX0 (k + 1) f args (fun vs => toSp sp (pmV vs)) := by
  obtain ⟨oc, od, kV, doc, pm, an, cdv, ct, osl, rfl, lk, hcd⟩ := F.ex
  intro A outer s H us vs Q E hr e0 r hsp
  obtain ⟨L, Ql, El, hH, h, hq, _⟩ := hsp
  have hn : (pmV vs).length = ps.length := len _ L Ql El h
  have r2 := hpm vs us r
  have hlv : (pmV vs).length ≤ N.length := by
    rw [hn]
    exact hl
  exact LamX.run_ofS (CX := CX0) lk hcd S hr.toRoom e0 (.of_eq (hb kV doc pm an cdv ct us (by rw [← r2.length]; exact hn))) r2 hn fun hr2 =>
    ⟨WSs _ (defBody st), PSs.nox pss_W, body_end (X := cx0 P w K mg base N q (defScope st) f cdv A outer s H E) hlv hq hH (body _ f cdv A outer s H E L (pmV vs) Ql El rfl S.nd ⟨hr2, guard_deeper hr.gd⟩ h)⟩
/-- THE RULE for a def that lets no exception out -/
theorem fn_plain {x : Str} {st : Stmt} {N ps : List Str} {k : Nat} {sp : SpL} (F : Df K mg x st) (S : FnScope N ps (defScope st))
    (hb : ∀ (kV doc pm : Value) (an : Option Addr) (cdv ct : Value) (us : List Value), us.length = ps.length → bindArgs (PySem.W.fnOf x x (defArgs st) (defBody st) (defScope st) .none kV doc pm an cdv ct) ⟨us, []⟩ = pure (ps.zip us))
    (hl : ps.length ≤ N.length) (len : ∀ vs L Q E, sp vs L Q E → vs.length = ps.length) (body : BodyOf P w K mg base N x st k sp) : Fn P w K mg base CX0 x (k + 1) sp := by
  obtain ⟨f, fd, hm, F⟩ := F
  exact ⟨f, hm, F.kp, run_plain F S argsP id id (fun _ _ r => r) hb hl len body⟩
/-- the same def, called with keywords -/
theorem fn_plainK {x : Str} {st : Stmt} {N ps : List Str} {k : Nat} {sp : SpL} (n : Nat) (ks : List Str) (pmV : List V → List V) (pmU : List Value → List Value) (hpm : ∀ vs us, Vals vs us → Vals (pmV vs) (pmU us)) (F : Df K mg x st) (S : FnScope N ps (defScope st))
    (hb : ∀ (kV doc pm : Value) (an : Option Addr) (cdv ct : Value) (us : List Value), (pmU us).length = ps.length → bindArgs (PySem.W.fnOf x x (defArgs st) (defBody st) (defScope st) .none kV doc pm an cdv ct) (argsK n ks us) = pure (ps.zip (pmU us)))
    (hl : ps.length ≤ N.length) (len : ∀ vs L Q E, sp vs L Q E → vs.length = ps.length) (body : BodyOf P w K mg base N x st k sp) : FnA P w K mg base CX0 x (k + 1) (argsK n ks) (fun vs => sp (pmV vs)) := by
  obtain ⟨f, fd, hm, F⟩ := F
  exact ⟨f, hm, F.kp, run_plain F S (argsK n ks) pmV pmU hpm hb hl len body⟩
end

/-! ### 10. Calls -/
def NoX : XL := fun _ _ _ => False
def upX (E : XL) : XK := fun c d H => ∃ L, Has H L ∧ E c d L
section
variable {X : Cx} {η : En} {L : Lg} {Q : QV} {El : XL} {CX : CXT} {x : Str} {j k : Nat} {sp : SpL} {e o : Expr} {es : List Expr} {pos p apos : Pos}
theorem passA {E : XK} : Passes CX0 X E := fun _ _ _ _ _ _ _ h => h.elim
theorem passN : Passes (L2.CX X.prog X.w) X (upX NoX) := fun _ _ _ _ _ _ _ h => by
  obtain ⟨_, _, _, _, _, _, _, _, _, _, _, _, _, _, z⟩ := h
  exact z.elim
theorem up_sp {vs : List V} {H : Hp} (hH : Has H L) (h : sp vs L Q El) : toSp sp vs H (up Q) (upX El) := ⟨L, Q, El, hH, h, fun _ L' _ h' q => ⟨L', h', q⟩, fun _ _ L' _ h' q => ⟨L', h', q⟩⟩
/-- a call that got its values -/
theorem run_G {pins : List (Addr × Obj)} {σ : L2.St} {H : Hp} {s : Shared} {f : Addr} {args : List Value → Args} {us : List Value} {vs : List V} {sp : Sp} {E : XK} {Q : VK} (F : RunG X.prog X.w X.K X.mg X.base CX k f args sp) (hr : RoomG k X.A) (hx : Passes CX X E) (I : Inv X pins σ H s) (r : Vals vs us) (h : sp vs H Q E) :
    wpAny (model X.prog X.w) X.A (call (.ref f) (args us).pos (args us).kw) (EP X pins σ Q) X.xe s := by
  refine wpAny_call (codeAny_mono (F X.A X.stack s H us vs Q E hr I.env0 r h) fun r' s' hq => ?_)
  cases r' with
  | error e => exact hx pins σ H s e s' I hq
  | ok fl =>
    cases fl with
    | ret u => exact I.after hq
    | next => exact hq.elim
    | brk => exact hq.elim
    | cont => exact hq.elim
theorem ge_call (F : Fn X.prog X.w X.K X.mg X.base CX x k sp) (hr : RoomG j X.A) (hx : Passes CX X (upX El)) (h : GA X (e :: es) η L fun vs L1 => sp vs L1 Q El) (hjk : k ≤ j := by decide) (hg : Gl X x := by rfl) (hd : (x == ("__debug__" : Str)) = false := by decide)
    (he : starEach (e :: es) X.env = (false, eval e X.env) :: starEach es X.env := by rfl) (hpl : (backTo pos (starEach es X.env)).any (·.1) = false := by rfl) : GE X (.Call (.Name x p) (e :: es) [] pos) η L Q := fun hN H hH pins s I => by
  obtain ⟨f, hm, hk, F⟩ := F
  refine wpAny_Call_Name_kw (ld_glob I hg hm ?_ hd)
  refine PySem.W.callWith_K (h₀ := X.base) I.ok.mod.kin hk ?_ he hpl
  refine thn (h hN H hH pos pins s I) fun us s1 ⟨vs, H1, J, r, L1, h1, q⟩ => ⟨J.kIn, ?_⟩
  exact run_G (args := argsP) F (hr.mono hjk) hx J r (up_sp h1 q)
theorem ge_call0 (F : Fn X.prog X.w X.K X.mg X.base CX x k sp) (hr : RoomG j X.A) (hx : Passes CX X (upX El)) (h : sp [] L Q El) (hjk : k ≤ j := by decide) (hg : Gl X x := by rfl) (hd : (x == ("__debug__" : Str)) = false := by decide) : GE X (.Call (.Name x p) [] [] pos) η L Q := fun hN H hH pins s I => by
  obtain ⟨f, hm, hk, F⟩ := F
  refine wpAny_Call_Name_kw (ld_glob I hg hm ?_ hd)
  exact PySem.W.callWith_K0 I.kIn hk (run_G (args := argsP) (us := []) F (hr.mono hjk) hx I .nil (up_sp hH h))
/-- xs.append(e) -/
theorem ge_append (h : GE X o η L fun v L1 => ∃ l zs, v = .ref l ∧ (l, HO.lst zs) ∈ L1 ∧ GE X e η L1 fun y L2 => ∃ xs M, (l, HO.lst xs) ∈ L2 ∧ xs.length < sizeLine ∧ Swap l (.lst (xs ++ [y])) L2 M ∧ Q .non M)
    (hbase : attributeBase o "append" X.env (eval o X.env) = eval o X.env := by rfl)
    (hfew : ((backTo pos (starEach [e] X.env)).all (fun x => !x.1) && (backToKw pos (keywordEach [] X.env)).all (fun x => x.1.isSome)
      && decide ([e].length + ([] : List Keyword).length + (if ([] : List Keyword).isEmpty then 0 else 1) < 30)) = true := by rfl)
    (hline : (apos.endLine == pos.line) = true := by rfl) (hs : starEach [e] X.env = (false, eval e X.env) :: starEach [] X.env := by rfl) : GE X (.Call (.Attribute o "append" apos) [e] [] pos) η L Q := fun hN H hH =>
  WE.of (pe_bm PySem.F.plainAttrs_list PySem.F.slot_list_append PySem.F.type_list_append mt_append pe_W (pa_cons pe_W pa_nil hs) hbase hfew hline hs rfl) (h.then hN hH fun v L1 H1 k1 ⟨l, zs, ev, m, q⟩ => by
    subst ev
    exact ⟨.inl ⟨rfl, zs, sql k1 m⟩, q.then hN k1 fun y L2 H2 k2 ⟨xs, M, m2, z, sw, q2⟩ => ⟨l, xs, y, rfl, rfl, k2.get m2, z, M, k2.swap sw, q2⟩⟩)
/-- a slice with both ends left out, or written -/
def GPart (X : Cx) (o : Option Expr) (η : En) (L : Lg) (Q : Option Int → Lg → Prop) : Prop := match o with
  | none => Q none L
  | some e => GE X e η L fun v L1 => ∃ i, v = .int i ∧ Q (some i) L1
def WPart (X : Cx) (o : Option Expr) : TO := match o with
  | none => tNoPart
  | some e => tPart (WE X e)
theorem po_W {o : Option Expr} : PO X o (WPart X o) := by
  cases o with
  | none => exact po_none
  | some e => exact po_some pe_W
theorem GPart.then {o : Option Expr} {Q : Option Int → Lg → Prop} {Q' : Option Int → Hp → Prop} (h : GPart X o η L Q) (hN : X.N = names η) {H : Hp} (hH : Has H L) (m : ∀ v L1 H1, Has H1 L1 → Q v L1 → Q' v H1) : WPart X o (vals η) H Q' := by
  cases o with
  | none => exact m none L H hH h
  | some e => exact GE.then h hN hH fun v L1 H1 h1 ⟨i, ei, q⟩ => ⟨i, ei, m _ L1 H1 h1 q⟩
def InL (K : PySem.W.Frag) (L : Lg) (p : Addr) (xs : List V) : Prop := ∀ H, Has H L → SqL K H p xs
theorem ge_sliceL {lo hi : Option Expr} {p2 : Pos} (h : GE X e η L fun v L1 => ∃ p xs, v = .ref p ∧ GPart X lo η L1 fun i L2 => GPart X hi η L2 fun j L3 => InL X.K L3 p xs ∧ ∀ q, Q (.ref q) ((q, .lst (cutV xs i j)) :: L3)) : GE X (.Subscript e (.Slice lo hi none p2) pos) η L Q := fun hN H hH =>
  WE.of (pe_slice sl_list pe_W po_W po_W) (h.then hN hH fun v L1 H1 k1 ⟨p, xs, ev, q⟩ => q.then hN k1 fun i L2 H2 k2 q2 => q2.then hN k2 fun j L3 H3 k3 ⟨m, q3⟩ => ⟨p, xs, ev, m H3 k3, fun r hr => ⟨_, k3.new hr, q3 r⟩⟩)
end
/-- def f(*v) -/
def spStar (sp : SpL) : SpL := fun vs L Q E => vs.length ≤ sizeLine ∧ ∀ p, sp [.ref p] ((p, .tup vs) :: L) Q E
theorem bind_star0 {B : List Value → Sem (List (Str × Value))} {pv : Str} (h0 : B [] = (newTuple [] >>= fun t => pure [(pv, t)])) (h1 : ∀ r rs, B (r :: rs) = (newTuple (r :: rs) >>= fun t => pure [(pv, t)])) :
    ∀ us rest : List Value, us.length = ([] : List Str).length → B (us ++ rest) = (newTuple rest >>= fun t => pure (([] : List Str).zip us ++ [(pv, t)]))
  | [], [], _ => h0
  | [], r :: rs, _ => h1 r rs
section
variable {P : Program} {w : World} {K : PySem.W.Frag} {mg : Str → Option Value} {base : Heap}
/-- values, then a tuple of the rest -/
theorem run_starred {x q pv : Str} {st : Stmt} {f : Addr} {fd : FuncData} {N ps : List Str} {k : Nat} {sp : SpL} (F : Fun K x q st f fd) (S : FnScope N (ps ++ [pv]) (defScope st))
    (hb : ∀ (kV doc pm : Value) (an : Option Addr) (cdv ct : Value) (us rest : List Value), us.length = ps.length → bindArgs (PySem.W.fnOf x q (defArgs st) (defBody st) (defScope st) .none kV doc pm an cdv ct) ⟨us ++ rest, []⟩ = (newTuple rest >>= fun t => pure (ps.zip us ++ [(pv, t)])))
    (hl : ps.length + 1 ≤ N.length) (body : BodyOf P w K mg base N q st k sp) (len : ∀ vs L Q E, sp vs L Q E → vs.length = ps.length + 1) : RunG P w K mg base CX0 (k + 1) f argsP (toSp fun vs L Q E => ∃ ws rest, vs = ws ++ rest ∧ ws.length = ps.length ∧ rest.length ≤ sizeLine ∧ ∀ p, sp (ws ++ [.ref p]) ((p, .tup rest) :: L) Q E) := by
  obtain ⟨oc, od, kV, doc, pm, an, cdv, ct, osl, rfl, lk, hcd⟩ := F.ex
  intro A outer s H us vs Q E hr e0 r hsp
  obtain ⟨L, Ql, El, hH, ⟨ws, rest, ev, hlw, hz, hs⟩, hq, _⟩ := hsp
  subst ev
  obtain ⟨u1, u2, eu, r1, r2⟩ := StX.vals_split r
  subst eu
  have hn : H s.heap.objs.size = none := e0.hok.fresh (Nat.le_refl _)
  have hl1 : u1.length = ps.length := by
    rw [← r1.length]
    exact hlw
  have hl2 : u2.length ≤ sizeLine := by
    rw [← r2.length]
    exact hz
  refine StX.run_bnd (CX := CX0) lk hcd S hr.toRoom e0 (G := fun xs H2 => ∃ p, H p = none ∧ xs = ws ++ [V.ref p] ∧ H2 = upd H p (.tup rest)) (fun A' Ex Q' h => ?_) fun s2 H2 xs ⟨p, hp, ex, eH⟩ hr' => ?_
  · rw [show bindArgs _ (argsP (u1 ++ u2)) = _ from hb kV doc pm an cdv ct u1 u2 hl1]
    refine wpAny_bind (wpAny_newTuple (wpAny_pure ?_) hl2)
    have new : ObjOk P w (upd H s.heap.objs.size (.tup rest)) (s.heap.push ({ cls := .type "tuple", data := .seq u2.toArray } : Obj)) s.heap.objs.size (.tup rest) := ⟨hz, u2, r2, ⟨_, Heap.get?_push_size _ rfl, rfl, _, rfl⟩⟩
    have un := StX.un_laid (fs := frs outer) (s := s) (o := ({ cls := .type "tuple", data := .seq u2.toArray } : Obj)) (u := .tup rest) hn
    have z := h _ _ (ws ++ [V.ref s.heap.objs.size]) (u1 ++ [Value.ref s.heap.objs.size]) (StX.env0_laid e0 new) un rfl (fun _ _ z => z.elim) (r1.append (.cons rfl .nil)) (by rw [List.length_append, List.length_append, hlw] <;> rfl) ⟨_, hn, rfl, rfl⟩
    rw [List.zip_append hl1.symm] at z
    exact z
  · subst ex eH
    have hlv : (ws ++ [V.ref p]).length ≤ N.length := by
      rw [List.length_append, hlw]
      exact hl
    exact ⟨WSs _ (defBody st), PSs.nox pss_W, body_end (X := cx0 P w K mg base N q (defScope st) f cdv A outer s2 (upd H p (.tup rest)) E) hlv hq (hH.new hp) (body _ f cdv A outer s2 _ E _ _ Ql El rfl S.nd ⟨hr', guard_deeper hr.gd⟩ (hs p))⟩
theorem fn_starred {x pv : Str} {st : Stmt} {N : List Str} {k : Nat} {sp : SpL} (F : Df K mg x st) (S : FnScope N [pv] (defScope st))
    (h0 : ∀ (kV doc pm : Value) (an : Option Addr) (cdv ct : Value), bindArgs (PySem.W.fnOf x x (defArgs st) (defBody st) (defScope st) .none kV doc pm an cdv ct) ⟨[], []⟩ = (newTuple [] >>= fun t => pure [(pv, t)]))
    (h1 : ∀ (kV doc pm : Value) (an : Option Addr) (cdv ct : Value) (r : Value) (rs : List Value), bindArgs (PySem.W.fnOf x x (defArgs st) (defBody st) (defScope st) .none kV doc pm an cdv ct) ⟨r :: rs, []⟩ = (newTuple (r :: rs) >>= fun t => pure [(pv, t)]))
    (hl : 1 ≤ N.length) (len : ∀ vs L Q E, sp vs L Q E → vs.length = 1) (body : BodyOf P w K mg base N x st k sp) : Fn P w K mg base CX0 x (k + 1) (spStar sp) := by
  obtain ⟨f, fd, hm, F⟩ := F
  refine ⟨f, hm, F.kp, (run_starred (ps := []) F S (fun kV doc pm an cdv ct => bind_star0 (B := fun us => bindArgs (PySem.W.fnOf x x (defArgs st) (defBody st) (defScope st) .none kV doc pm an cdv ct) ⟨us, []⟩) (h0 kV doc pm an cdv ct) (h1 kV doc pm an cdv ct)) hl body len).imp fun vs H Q E ⟨L, Ql, El, hH, h, hq, he⟩ => ⟨L, Ql, El, hH, ⟨[], vs, rfl, rfl, h.1, h.2⟩, hq, he⟩⟩
end

/-! ### 11. Kinds of values -/
inductive Knd (L : Lg) : V → String → Prop
  | non : Knd L .non "NoneType"
  | bl {b : Bool} : Knd L (.bl b) "bool"
  | int {i : Int} : Knd L (.int i) "int"
  | str {x : Str} : Knd L (.str x) "str"
  | lst {p : Addr} {xs : List V} (m : (p, HO.lst xs) ∈ L) : Knd L (.ref p) "list"
  | tup {p : Addr} {xs : List V} (m : (p, HO.tup xs) ∈ L) : Knd L (.ref p) "tuple"
  | dct {p : Addr} {kvs : List (Key × V)} (m : (p, HO.dK kvs) ∈ L) : Knd L (.ref p) "dict"
theorem Knd.ty {K : PySem.W.Frag} {L : Lg} {x : V} {T : String} (k : Knd L x T) (H : Hp) (hH : Has H L) : TyX K H x (.type T) := by
  cases k with
  | non => exact .base .non
  | bl => exact .base (.bl _)
  | int => exact .base (.int _)
  | str => exact .base (.str _)
  | lst m => exact .base (.lst (hH.get m))
  | tup m => exact .base (.tup (hH.get m))
  | dct m => exact .base (.dK (hH.get m))
theorem Knd.sub {L M : Lg} {x : V} {T : String} (k : Knd L x T) (s : ∀ e ∈ L, e ∈ M) : Knd M x T := by
  cases k with
  | non => exact .non
  | bl => exact .bl
  | int => exact .int
  | str => exact .str
  | lst m => exact .lst (s _ m)
  | tup m => exact .tup (s _ m)
  | dct m => exact .dct (s _ m)
theorem kb_int_int : kitB "int" "int" = some true := by decide +kernel
theorem kb_int_bool : kitB "int" "bool" = some false := by decide +kernel
theorem kb_bool_int : kitB "bool" "int" = some true := by decide +kernel
theorem kb_bool_bool : kitB "bool" "bool" = some true := by decide +kernel
theorem kb_non_int : kitB "NoneType" "int" = some false := by decide +kernel
theorem kb_str_int : kitB "str" "int" = some false := by decide +kernel
theorem kb_list_int : kitB "list" "int" = some false := by decide +kernel
theorem kb_tuple_int : kitB "tuple" "int" = some false := by decide +kernel
theorem kb_dict_int : kitB "dict" "int" = some false := by decide +kernel
theorem kb_tuple_tuple : kitB "tuple" "tuple" = some true := by decide +kernel
theorem kb_int_tuple : kitB "int" "tuple" = some false := by decide +kernel
theorem kb_bool_tuple : kitB "bool" "tuple" = some false := by decide +kernel
theorem kb_non_tuple : kitB "NoneType" "tuple" = some false := by decide +kernel
theorem kb_str_tuple : kitB "str" "tuple" = some false := by decide +kernel
theorem kb_list_tuple : kitB "list" "tuple" = some false := by decide +kernel
theorem kb_dict_tuple : kitB "dict" "tuple" = some false := by decide +kernel
section
variable {X : Cx} {L : Lg} {Q : QV} {x : V} {T c : String} {b : Bool}
theorem gc_isK (k : Knd L x T) (e : kitB T c = some b) (h : Q (.bl b) L) : GC X (.builtin "isinstance") [x, .ty c] L Q := gc_isi (fun H hH => k.ty H hH) e h
end
theorem sz1 : 1 ≤ sizeLine := by decide +kernel
theorem sz2 : 2 ≤ sizeLine := by decide +kernel
theorem sz3 : 3 ≤ sizeLine := by decide +kernel
theorem sz_le {n : Nat} (h : n ≤ 1000) : n ≤ sizeLine := Nat.le_trans h (by decide +kernel)
theorem sz_lt {n : Nat} (h : n < 1000) : n < sizeLine := Nat.lt_of_lt_of_le h (by decide +kernel)
/-! what stands elsewhere in the ledger, brought to its head -/
theorem Sub.keep {L M : Lg} {e : Addr × HO} (s : M.Sublist L) : Sub (e :: M) (e :: L) := Sub.sublist (s.cons_cons e)
section
variable {a b c d e f g h i : Addr × HO} {R : Lg}
theorem br0 : Sub (a :: b :: R) (a :: b :: R) := Sub.refl
theorem br1 : Sub (a :: b :: c :: R) (c :: a :: b :: R) := Sub.perm (List.perm_middle (l₁ := [a, b])).symm.symm
theorem br2 : Sub (a :: b :: c :: d :: R) (c :: d :: a :: b :: R) := Sub.perm (by
  have z := List.perm_append_comm (l₁ := [a, b]) (l₂ := [c, d])
  exact z.append_right R)
theorem br3 : Sub (a :: b :: c :: d :: e :: R) (c :: d :: e :: a :: b :: R) := Sub.perm (by
  have z := List.perm_append_comm (l₁ := [a, b]) (l₂ := [c, d, e])
  exact z.append_right R)
theorem br4 : Sub (a :: b :: c :: d :: e :: f :: R) (c :: d :: e :: f :: a :: b :: R) := Sub.perm (by
  have z := List.perm_append_comm (l₁ := [a, b]) (l₂ := [c, d, e, f])
  exact z.append_right R)
theorem br5 : Sub (a :: b :: c :: d :: e :: f :: g :: R) (c :: d :: e :: f :: g :: a :: b :: R) := Sub.perm (by
  have z := List.perm_append_comm (l₁ := [a, b]) (l₂ := [c, d, e, f, g])
  exact z.append_right R)
theorem br6 : Sub (a :: b :: c :: d :: e :: f :: g :: h :: R) (c :: d :: e :: f :: g :: h :: a :: b :: R) := Sub.perm (by
  have z := List.perm_append_comm (l₁ := [a, b]) (l₂ := [c, d, e, f, g, h])
  exact z.append_right R)
end

/-! built-ins by their own names -/
section
variable {X : Cx} {η : En} {L : Lg} {Q : QV} {e : Expr} {es : List Expr} {pos p : Pos}
theorem gb_len (B : Bi X.mg) (h : GA X (e :: es) η L fun xs L1 => GC X (.builtin "len") xs L1 Q) (hg : Gl X "len" := by rfl) (he : starEach (e :: es) X.env = (false, eval e X.env) :: starEach es X.env := by rfl) (hpl : (backTo pos (starEach es X.env)).any (·.1) = false := by rfl) :
    GE X (.Call (.Name "len" p) (e :: es) [] pos) η L Q := ge_B B.len bt_len h hg (by decide) (by decide) he hpl
theorem gb_abs (B : Bi X.mg) (h : GA X (e :: es) η L fun xs L1 => GC X (.builtin "abs") xs L1 Q) (hg : Gl X "abs" := by rfl) (he : starEach (e :: es) X.env = (false, eval e X.env) :: starEach es X.env := by rfl) (hpl : (backTo pos (starEach es X.env)).any (·.1) = false := by rfl) :
    GE X (.Call (.Name "abs" p) (e :: es) [] pos) η L Q := ge_B B.abs bt_abs h hg (by decide) (by decide) he hpl
theorem gb_min (B : Bi X.mg) (h : GA X (e :: es) η L fun xs L1 => GC X (.builtin "min") xs L1 Q) (hg : Gl X "min" := by rfl) (he : starEach (e :: es) X.env = (false, eval e X.env) :: starEach es X.env := by rfl) (hpl : (backTo pos (starEach es X.env)).any (·.1) = false := by rfl) :
    GE X (.Call (.Name "min" p) (e :: es) [] pos) η L Q := ge_B B.min bt_min h hg (by decide) (by decide) he hpl
theorem gb_isinstance (B : Bi X.mg) (h : GA X (e :: es) η L fun xs L1 => GC X (.builtin "isinstance") xs L1 Q) (hg : Gl X "isinstance" := by rfl) (he : starEach (e :: es) X.env = (false, eval e X.env) :: starEach es X.env := by rfl) (hpl : (backTo pos (starEach es X.env)).any (·.1) = false := by rfl) :
    GE X (.Call (.Name "isinstance" p) (e :: es) [] pos) η L Q := ge_B B.isinstance bt_isinstance h hg (by decide) (by decide) he hpl
theorem gb_int (B : Bi X.mg) (h : GA X (e :: es) η L fun xs L1 => GC X (.type "int") xs L1 Q) (hg : Gl X "int" := by rfl) (he : starEach (e :: es) X.env = (false, eval e X.env) :: starEach es X.env := by rfl) (hpl : (backTo pos (starEach es X.env)).any (·.1) = false := by rfl) :
    GE X (.Call (.Name "int" p) (e :: es) [] pos) η L Q := ge_Y B.int bt_int h hg (by decide) (by decide) he hpl
theorem gb_list (B : Bi X.mg) (h : GA X (e :: es) η L fun xs L1 => GC X (.type "list") xs L1 Q) (hg : Gl X "list" := by rfl) (he : starEach (e :: es) X.env = (false, eval e X.env) :: starEach es X.env := by rfl) (hpl : (backTo pos (starEach es X.env)).any (·.1) = false := by rfl) :
    GE X (.Call (.Name "list" p) (e :: es) [] pos) η L Q := ge_Y B.list bt_list h hg (by decide) (by decide) he hpl
theorem gb_tuple (B : Bi X.mg) (h : GA X (e :: es) η L fun xs L1 => GC X (.type "tuple") xs L1 Q) (hg : Gl X "tuple" := by rfl) (he : starEach (e :: es) X.env = (false, eval e X.env) :: starEach es X.env := by rfl) (hpl : (backTo pos (starEach es X.env)).any (·.1) = false := by rfl) :
    GE X (.Call (.Name "tuple" p) (e :: es) [] pos) η L Q := ge_Y B.tuple bt_tuple h hg (by decide) (by decide) he hpl
theorem gb_bool (B : Bi X.mg) (h : GA X (e :: es) η L fun xs L1 => GC X (.type "bool") xs L1 Q) (hg : Gl X "bool" := by rfl) (he : starEach (e :: es) X.env = (false, eval e X.env) :: starEach es X.env := by rfl) (hpl : (backTo pos (starEach es X.env)).any (·.1) = false := by rfl) :
    GE X (.Call (.Name "bool" p) (e :: es) [] pos) η L Q := ge_Y B.bool bt_bool h hg (by decide) (by decide) he hpl
theorem gb_str (B : Bi X.mg) (h : GA X (e :: es) η L fun xs L1 => GC X (.type "str") xs L1 Q) (hg : Gl X "str" := by rfl) (he : starEach (e :: es) X.env = (false, eval e X.env) :: starEach es X.env := by rfl) (hpl : (backTo pos (starEach es X.env)).any (·.1) = false := by rfl) :
    GE X (.Call (.Name "str" p) (e :: es) [] pos) η L Q := ge_Y B.str bt_str h hg (by decide) (by decide) he hpl
theorem gv_int (B : Bi X.mg) (q : Q (.ty "int") L) (hg : Gl X "int" := by rfl) : GE X (.Name "int" pos) η L Q := ge_tyName B.int bt_int q hg (by decide) (by decide)
theorem gv_bool (B : Bi X.mg) (q : Q (.ty "bool") L) (hg : Gl X "bool" := by rfl) : GE X (.Name "bool" pos) η L Q := ge_tyName B.bool bt_bool q hg (by decide) (by decide)
theorem gv_tuple (B : Bi X.mg) (q : Q (.ty "tuple") L) (hg : Gl X "tuple" := by rfl) : GE X (.Name "tuple" pos) η L Q := ge_tyName B.tuple bt_tuple q hg (by decide) (by decide)
theorem gv_list (B : Bi X.mg) (q : Q (.ty "list") L) (hg : Gl X "list" := by rfl) : GE X (.Name "list" pos) η L Q := ge_tyName B.list bt_list q hg (by decide) (by decide)
theorem gv_str (B : Bi X.mg) (q : Q (.ty "str") L) (hg : Gl X "str" := by rfl) : GE X (.Name "str" pos) η L Q := ge_tyName B.str bt_str q hg (by decide) (by decide)
end
/-! ### 12. Answers -/
theorem ite_t {A B : Prop} (h : A) : if true = true then A else B := by rw [if_pos rfl]; exact h
theorem ite_f {A B : Prop} (h : B) : if false = true then A else B := by rw [if_neg Bool.false_ne_true]; exact h
theorem ite_d {c A B : Prop} [Decidable c] (h : c → A) (k : ¬ c → B) : if decide c = true then A else B := by
  by_cases z : c
  · rw [if_pos (decide_eq_true z)]; exact h z
  · rw [decide_eq_false z, if_neg Bool.false_ne_true]; exact k z
theorem ite_n {c A B : Prop} [Decidable c] (h : ¬ c → A) (k : c → B) : if (!decide c) = true then A else B := by
  by_cases z : c
  · rw [decide_eq_true z]; exact ite_f (k z)
  · rw [decide_eq_false z]; exact ite_t (h z)
theorem ite_nt {A B : Prop} (h : B) : if (!true) = true then A else B := ite_f h
theorem ite_nf {A B : Prop} (h : A) : if (!false) = true then A else B := ite_t h
theorem ite_b {b : Bool} {A B : Prop} (h : b = true → A) (k : b = false → B) : if b = true then A else B := by
  cases b with
  | true => exact ite_t (h rfl)
  | false => exact ite_f (k rfl)
/-! ### 13. Operators that hand on a letter -/
section
variable {X : Cx} {L : Lg} {Q : QV} {i j r : Int}
theorem go_modR (c : 0 < j) (h : ∀ r, 0 ≤ r → r < j → Q (.int r) L) : GOp X (binaryOp .Mod) (.int i) (.int j) L Q := go_mod c (h _ (Int.emod_nonneg _ (by omega)) (Int.emod_lt_of_pos _ c))
theorem go_powL (c : CPow i j) (e : i ^ j.toNat = r) (h : Q (.int r) L) : GOp X (binaryOp .Pow) (.int i) (.int j) L Q := go_pow c (by rw [e]; exact h)
theorem go_powR (c : CPow i j) (h : ∀ r, Q (.int r) L) : GOp X (binaryOp .Pow) (.int i) (.int j) L Q := go_pow c (h _)
end
theorem bnd {s t A B : Int} (s0 : 0 ≤ s) (s1 : s ≤ A) (t0 : 0 ≤ t) (t1 : t ≤ B) : 0 ≤ s * t ∧ s * t ≤ A * B := ⟨Int.mul_nonneg s0 t0, Int.mul_le_mul s1 t1 t0 (Int.le_trans s0 s1)⟩
theorem depthInts : ∀ ns : List Int, PyData.depthAll (ns.map PyData.int) = 0
  | [] => by simp [PyData.depthAll]
  | n :: r => by
    have e := depthInts r
    simp [PyData.depthAll, PyData.depth, e]
theorem layInts : ∀ ns : List Int, PyData.canLayAll0 (ns.map PyData.int) = true
  | [] => by simp [PyData.canLayAll0]
  | n :: r => by
    have e := layInts r
    simp [PyData.canLayAll0, PyData.canLay0, e]
theorem shapedL (ns : List Int) : SeqAt.shaped (.list (ns.map PyData.int)) = true := by
  have a := depthInts ns
  have b := layInts ns
  simp [SeqAt.shaped, PyData.canLay0, PyData.depth, a, b]
theorem shapedT (ns : List Int) : SeqAt.shaped (.tuple (ns.map PyData.int)) = true := by
  have a := depthInts ns
  have b := layInts ns
  simp [SeqAt.shaped, PyData.canLay0, PyData.depth, a, b]
theorem eqvInts : ∀ ns ms : List Int, PyData.eqvAll (ns.map PyData.int) (ms.map PyData.int) = decide (ns = ms)
  | [], [] => by simp [PyData.eqvAll]
  | [], m :: r => by simp [PyData.eqvAll]
  | n :: r, [] => by simp [PyData.eqvAll]
  | n :: r, m :: q => by
    have e := eqvInts r q
    simp [PyData.eqvAll, PyData.eqv, e]
    by_cases h : n = m <;> by_cases k : r = q <;> simp [h, k]
theorem eqvL (ns ms : List Int) : PyData.eqv (.list (ns.map PyData.int)) (.list (ms.map PyData.int)) = decide (ns = ms) := by
  rw [← eqvInts]
  simp [PyData.eqv]
section
variable {X : Cx} {L : Lg} {Q : QV} {i j r : Int}
theorem go_divS (c : 0 < j) (d : j < 2 ^ 64) (h : Q (.int (i / j)) L) : GOp X (binaryOp .FloorDiv) (.int i) (.int j) L Q := go_div c (Nat.lt_of_lt_of_le (by omega : j.natAbs < 2 ^ 64) (Nat.pow_le_pow_right (by decide) (by decide))) h
theorem go_divK {k : Nat} (c : 0 < j) (d : j.natAbs < 2 ^ k) (hk : k ≤ 9000) (h : Q (.int (i / j)) L) : GOp X (binaryOp .FloorDiv) (.int i) (.int j) L Q := go_div c (Nat.lt_of_lt_of_le d (Nat.pow_le_pow_right (by decide) hk)) h
end
/-! ### 14. Three names at once -/
theorem idxU {N : List Str} (hn : N.Nodup) {i j : Nat} {x : Str} (h : N[i]? = some x) (k : N[j]? = some x) : i = j := by
  obtain ⟨a1, a2⟩ := List.getElem?_eq_some_iff.mp h
  obtain ⟨b1, b2⟩ := List.getElem?_eq_some_iff.mp k
  exact (List.getElem_inj hn).mp (a2.trans b2.symm)
section
variable {X : Cx} {η : En} {L : Lg} {a b c : Expr} {D : GD}
theorem PutF.at {x : Str} {N : List Str} {i : Nat} {θ : En} {f : V → En} (p : PutF x θ f) (hn : N.Nodup) (hN : N = names θ) (h : N[i]? = some x) (v : V) : vals (f v) = (vals θ).set i (some v) ∧ names (f v) = names θ := by
  obtain ⟨j, h1, h2⟩ := p.idx
  have e : i = j := idxU hn h (by rw [hN]; exact h1)
  subst e
  exact h2 v
theorem gs_par3 {x y z : Str} {f : V → En} {g : V → V → En} {k : V → V → V → En} {px py pz pt pos : Pos} {kt k2 pt2} (p : PutF x η f) (q : ∀ v, PutF y (f v) (g v)) (r : ∀ v w, PutF z (g v w) (k v w))
    (h : GA X [a, b, c] η L fun vs L1 => ∃ u v w, vs = [u, v, w] ∧ D.nx (k u v w) L1)
    (hw : swappedStores [.Tuple [.Name x px, .Name y py, .Name z pz] kt pt] (.Tuple [a, b, c] k2 pt2) X.env = pure (some [x, y, z]) := by rfl) (hxy : x ≠ y := by decide +kernel) (hxz : x ≠ z := by decide +kernel) (hyz : y ≠ z := by decide +kernel) (hn : X.N.Nodup := by assumption) (hc : X.calm = true := by rfl)
    (hx : X.env.scope.names.lookup x = some .local := by rfl) (hy : X.env.scope.names.lookup y = some .local := by rfl) (hz : X.env.scope.names.lookup z = some .local := by rfl)
    (hs : swapsWithSole [.Tuple [.Name x px, .Name y py, .Name z pz] kt pt] (.Tuple [a, b, c] k2 pt2) pos.line X.env = pure false := by rfl) :
    GS X (.Assign [.Tuple [.Name x px, .Name y py, .Name z pz] kt pt] (.Tuple [a, b, c] k2 pt2) pos) D η L := fun hN H hH => by
  obtain ⟨i, h1, h2⟩ := p.idx
  have nf : ∀ v, names (f v) = X.N := fun v => (h2 v).2.trans hN.symm
  obtain ⟨j, g1, _⟩ := (q .non).idx
  rw [nf] at g1
  have ng : ∀ v w, names (g v w) = X.N := fun v w => ((q v).at hn (nf v).symm g1 w).2.trans (nf v)
  obtain ⟨l, k1, _⟩ := (r .non .non).idx
  rw [ng] at k1
  have i1 : X.N[i]? = some x := by rw [hN]; exact h1
  have ne : ∀ {m n : Nat} {s t : Str}, X.N[m]? = some s → X.N[n]? = some t → s ≠ t → m ≠ n := fun hm hn' d e => d (by rw [e, hn'] at hm; exact (Option.some.inj hm).symm)
  refine WS.of (ps_par3 (i := i) (j := j) (l := l) hc hn i1 g1 k1 (ne i1 g1 hxy) (ne i1 k1 hxz) (ne g1 k1 hyz) hx hy hz pa_W hw hs) (h.then hN hH fun vs L1 H1 m1 ⟨u, v, w, e1, q1⟩ => ⟨u, v, w, e1, ?_⟩)
  show upS X D.nx ((((vals η).set i (some u)).set j (some v)).set l (some w)) H1
  have z := (r u v).at hn (ng u v).symm k1 w
  refine ⟨k u v w, L1, (z.2.trans (ng u v)).symm, ?_, m1, q1⟩
  rw [z.1, ((q u).at hn (nf u).symm g1 v).1, (h2 u).1]
end
section
variable {X : Cx} {L : Lg} {Q : QV} {i : Int} {p : Addr}
theorem isN_int (h : Q (.bl false) L) : GOp X (compareOp .Is) (.int i) .non L Q := go_isN h
theorem isN_ref (h : Q (.bl false) L) : GOp X (compareOp .Is) (.ref p) .non L Q := go_isN h
theorem isN_non (h : Q (.bl true) L) : GOp X (compareOp .Is) .non .non L Q := go_isN h
theorem notN_int (h : Q (.bl true) L) : GOp X (compareOp .IsNot) (.int i) .non L Q := go_notN h
theorem notN_ref (h : Q (.bl true) L) : GOp X (compareOp .IsNot) (.ref p) .non L Q := go_notN h
theorem notN_non (h : Q (.bl false) L) : GOp X (compareOp .IsNot) .non .non L Q := go_notN h
end
theorem gu_neg {X : Cx} {L : Lg} {Q : QV} {i : Int} (h : Q (.int (-i)) L) : GUn X (unaryOp .USub) (.int i) L Q := GUn.of un_neg fun H hH => ⟨i, rfl, L, hH, h⟩
/-! ### 15. The law itself -/
/-- the law's own promise; ts: the tables of code objects -/
def spLaw (K : PySem.W.Frag) (ts : Lg) : SpL := fun vs L Q _ => ∃ (a : Addr) (ns : List Int) (M : Lg), vs = [.ref a] ∧ L = ts ++ M ∧ InL K L a (ns.map V.int) ∧ (∀ z ∈ ns, Builtin.Int.intBits z ≤ 1048576) ∧ ∀ M, Q (.bl true) M
abbrev tabsL (ts : List (Addr × Str)) : Lg := ts.map fun p => (p.1, tabM p.2)
/-- the heap that the law begins with: the script, the tables -/
def lawH (K : PySem.W.Frag) (a : Addr) (ob : Obj) (ns : List Int) (ts : List Addr) : Hp := fun b =>
  if b = a then (match K.lookup a with | none => some (.frz ob (.lst (ns.map V.int))) | some _ => none) else if b ∈ ts then some (.tbl #[]) else none
section
variable {K : PySem.W.Frag} {a b : Addr} {ob : Obj} {ns : List Int} {ts : List Addr}
theorem lawH_a (e : K.lookup a = none) : lawH K a ob ns ts a = some (.frz ob (.lst (ns.map V.int))) := by
  unfold lawH
  rw [if_pos rfl, e]
theorem lawH_k {o : Obj} (e : K.lookup a = some o) : lawH K a ob ns ts a = none := by
  unfold lawH
  rw [if_pos rfl, e]
theorem lawH_t (n : b ≠ a) (m : b ∈ ts) : lawH K a ob ns ts b = some (.tbl #[]) := by
  unfold lawH
  rw [if_neg n, if_pos m]
theorem lawH_n (n : b ≠ a) (m : b ∉ ts) : lawH K a ob ns ts b = none := by
  unfold lawH
  rw [if_neg n, if_neg m]
/-- one of the three -/
theorem lawH_way (b : Addr) : (b = a ∧ K.lookup a = none ∧ lawH K a ob ns ts b = some (.frz ob (.lst (ns.map V.int)))) ∨ (b ≠ a ∧ b ∈ ts ∧ lawH K a ob ns ts b = some (.tbl #[])) ∨ lawH K a ob ns ts b = none := by
  by_cases n : b = a
  · subst n
    cases e : K.lookup b with
    | none => exact .inl ⟨rfl, rfl, lawH_a e⟩
    | some o => exact .inr (.inr (lawH_k e))
  · by_cases m : b ∈ ts
    · exact .inr (.inl ⟨n, m, lawH_t n m⟩)
    · exact .inr (.inr (lawH_n n m))
end
section
variable {P : Program} {w : World} {K : PySem.W.Frag} {mg mb : Str → Option Value}
/-- the law's call, from its promise; cs: the code objects with their tables and the names of what stands in these -/
theorem law_run {k : Nat} {fa a : Addr} {cs : List (Addr × Addr × Str)} {t0 : Shared} {vs : List Value} {ns : List Int}
    (KX : K.In t0.heap) (hns : t0.heap.Ns mainGlobals mg) (hb : t0.heap.Ns builtinsNs mb) (hbb : ∀ x : Str, x ≠ "__name__" → mb x = bootBuiltins x) (hlim : t0.heap.NoLimit) (hg : t0.gens = #[])
    (nd : (cs.map fun p => p.2.1).Nodup) (hT : ∀ p ∈ cs, t0.heap.get? p.2.1 = some { cls := .none, data := .fields #[] }) (nT : ∀ p ∈ cs, K.lookup p.2.1 = none) (C : ∀ p ∈ cs, PySem.W.CodeHd t0.heap p.1 p.2.1)
    (hbm : ∃ (bm : Addr) (ob : Obj), mg "__builtins__" = some (.ref bm) ∧ bm ≠ builtinsNs ∧ t0.heap.get? bm = some ob ∧ ob.cls = .type "module" ∧ ob.dict = some builtinsNs ∧ ob.data = .plain)
    (ha : t0.heap.get? a = some { cls := .type "list", data := .seq vs.toArray }) (hi : IntsAre vs ns) (hl : ns.length ≤ sizeLine) (bits : ∀ z ∈ ns, Builtin.Int.intBits z ≤ 1048576) (hr : Room k callerA)
    (F : ∀ base : Heap, K.In base → base.Ns mainGlobals mg → (∀ p ∈ cs, LamX.TabB base mg p.1 p.2.1) → RunG P w K mg base CX0 k fa argsP (toSp (spLaw K (tabsL (cs.map fun p => p.2))))) :
    codeAny (model P w) callerA (.call (.ref fa) ⟨[.ref a], []⟩) (fun r s' => r = .ok (.ret (.bool true)) ∧ OldK t0.heap s'.heap ∧ s'.os = t0.os ∧ AllBare s'.gens) t0 := by
  let ob : Obj := { cls := .type "list", data := .seq vs.toArray }
  let ts : List Addr := cs.map fun p => p.2.1
  let H : Hp := lawH K a ob ns ts
  have way : ∀ b : Addr, (b = a ∧ K.lookup a = none ∧ H b = some (.frz ob (.lst (ns.map V.int)))) ∨ (b ≠ a ∧ b ∈ ts ∧ H b = some (.tbl #[])) ∨ H b = none := lawH_way
  have tsT : ∀ b ∈ ts, ∃ p ∈ cs, p.2.1 = b := fun b hb => List.mem_map.mp hb
  have isT : ∀ b ∈ ts, t0.heap.get? b = some { cls := .none, data := .fields #[] } := fun b hb => by
    obtain ⟨p, hp, e⟩ := tsT b hb
    exact e ▸ hT p hp
  have memT : ∀ p ∈ cs, p.2.1 ∈ ts := fun p hp => List.mem_map.mpr ⟨p, hp, rfl⟩
  have aT : ∀ b ∈ ts, b ≠ a := fun b hb z => by
    have q := (isT b hb).symm.trans (z ▸ ha)
    have q2 : Data.fields #[] = Data.seq vs.toArray _ := congrArg Obj.data (Option.some.inj q)
    cases q2
  have tabH : ∀ p ∈ cs, H p.2.1 = some (.tbl #[]) := fun p hp => lawH_t (aT _ (memT p hp)) (memT p hp)
  have rv := vals_ints hi
  -- what is neither a list nor a table is hidden from H
  have hid : ∀ {b : Addr} {o : Obj}, t0.heap.get? b = some o → (∀ u n, o.data ≠ .seq u n) → o.data ≠ .fields #[] → H b = none := fun {b o} e n1 n2 => by
    rcases way b with ⟨rfl, _, _⟩ | ⟨_, m, _⟩ | z
    · exact absurd (congrArg Obj.data (Option.some.inj (ha.symm.trans e))).symm (n1 _ _)
    · exact absurd (congrArg Obj.data (Option.some.inj ((isT b m).symm.trans e))).symm n2
    · exact z
  let base : Heap := hidT t0.heap H
  have inB : ∀ {b : Addr} {o : Obj}, t0.heap.get? b = some o → H b = none → base.get? b = some o := fun e n => hidT_get e n
  have nsB : ∀ {b : Addr} {m : Str → Option Value}, t0.heap.Ns b m → base.Ns b m := fun {b m} ⟨o, es, ep, e, d, r⟩ => ⟨o, es, ep, inB e (hid e (fun u n z => by rw [d] at z; cases z) fun z => by rw [d] at z; cases z), d, r⟩
  have KB : K.In base := fun b o e => inB (KX b o e) (by
    rcases way b with ⟨rfl, n, _⟩ | ⟨_, m, _⟩ | z
    · exact absurd (n.symm.trans e) (by simp)
    · obtain ⟨p, hp, ep⟩ := tsT b m
      exact absurd ((nT p hp).symm.trans (ep ▸ e)) (by simp)
    · exact z)
  have hM : L2.Mod K mg base := ⟨KB, nsB hns, ⟨mb, nsB hb, hbb⟩, let ⟨mc, h1, h2⟩ := hlim; ⟨mc, nsB h1, h2⟩⟩
  have TB : ∀ p ∈ cs, LamX.TabB base mg p.1 p.2.1 := fun p hp => by
    have tp := hT p hp
    refine ⟨?_, ?_, fun z => ?_⟩
    · obtain ⟨o, us, file, tf, flags, tg, inF, text, tt, e1, r1, r2, r3, rest⟩ := C p hp
      refine ⟨o, us, file, tf, flags, tg, inF, text, tt, inB e1 (hid e1 (fun u n z => ?_) fun z => ?_), r1, r2, r3, rest⟩
      · rw [r2] at z
        cases z
      · rw [r2] at z
        cases z
        simp at r3
    · obtain ⟨bm, o, b1, b2, b3, b4, b5, b6⟩ := hbm
      refine ⟨bm, o, b1, b2, fun q => ?_, fun q => ?_, inB b3 (hid b3 (fun u n z => ?_) fun z => ?_), b4, b5, b6⟩
      · obtain ⟨o2, es, ep, e, hd, _⟩ := hns
        have z := (congrArg Obj.data (Option.some.inj ((q ▸ b3).symm.trans e))).symm.trans b6
        rw [hd] at z
        cases z
      · have z := b6.symm.trans (congrArg Obj.data (Option.some.inj ((q ▸ b3).symm.trans tp)))
        cases z
      · rw [b6] at z
        cases z
      · rw [b6] at z
        cases z
    · obtain ⟨o, es, ep, e, hd, _⟩ := hns
      have q := hd.symm.trans (congrArg Obj.data (Option.some.inj (e.symm.trans (z ▸ tp))))
      cases q
  have hokH : HOk P w H t0.heap := fun b u e => by
    rcases way b with ⟨rfl, _, z⟩ | ⟨_, m, z⟩ | z
    · cases z.symm.trans e
      exact ⟨ha, by rw [List.length_map]; exact hl, vs, _, rv, ha⟩
    · cases z.symm.trans e
      exact isT b m
    · cases z.symm.trans e
  have sq : SqL K H a (ns.map V.int) := by
    cases hk : K.lookup a with
    | none => exact .inl (.inr ⟨ob, lawH_a hk⟩)
    | some o =>
      cases ha.symm.trans (KX a o hk)
      exact .inr ⟨_, vs.toArray, _, hk, rfl, rfl, rfl, by rw [List.size_toArray, hi.length]; exact hl, by simpa using rv⟩
  have e0 : Env0 P w K mg base callerA [] t0 H := ⟨rfl, hM, fun b o e => of_hidT e, Nat.le_of_eq (hidT_size _ _), trivial, fun b z => (List.not_mem_nil z).elim, hokH, .of_eq hg⟩
  -- the ledger: the tables, and the script where it is no object of the module's
  have hsp : toSp (spLaw K (tabsL (cs.map fun p => p.2))) [.ref a] H (fun v _ => v = .bl true) fun _ _ _ => False := by
    have hasT : Has H (tabsL (cs.map fun p => p.2)) := by
      refine ⟨by simpa [tabsL, List.map_map, Function.comp_def] using nd, fun e m => ?_⟩
      obtain ⟨q, hq, rfl⟩ := List.mem_map.mp m
      obtain ⟨p, hp, rfl⟩ := List.mem_map.mp hq
      exact holds_tab' (.nil (tabH p hp))
    cases hk : K.lookup a with
    | some o =>
      refine ⟨_, fun v _ => v = .bl true, NoX, hasT, ⟨a, ns, [], rfl, by rw [List.append_nil], fun H' _ => ?_, bits, fun _ => rfl⟩, fun _ _ _ _ q => q, fun _ _ _ _ _ q => q⟩
      rcases sq with (z | ⟨o2, z⟩) | z
      · exact absurd ((lawH_k hk).symm.trans z) (by simp)
      · exact absurd ((lawH_k hk).symm.trans z) (by simp)
      · exact .inr z
    | none =>
      have ea : H a = some (.frz ob (.lst (ns.map V.int))) := lawH_a hk
      refine ⟨tabsL (cs.map fun p => p.2) ++ [(a, .frz ob (.lst (ns.map V.int)))], fun v _ => v = .bl true, NoX, ?_, ⟨a, ns, _, rfl, rfl, fun H' h' => ?_, bits, fun _ => rfl⟩, fun _ _ _ _ q => q, fun _ _ _ _ _ q => q⟩
      · refine ⟨?_, fun e m => ?_⟩
        · rw [List.map_append]
          refine List.nodup_append.mpr ⟨hasT.1, by simp, fun x hx y hy => ?_⟩
          have hy' : y = a := by simpa using hy
          obtain ⟨e, he, rfl⟩ := List.mem_map.mp hx
          obtain ⟨q, hq, rfl⟩ := List.mem_map.mp he
          obtain ⟨p, hp, rfl⟩ := List.mem_map.mp hq
          rw [hy']
          exact aT _ (memT p hp)
        · rcases List.mem_append.mp m with m | m
          · exact hasT.2 e m
          · obtain rfl : e = (a, _) := by simpa using m
            exact ea
      · exact .inl (.inr ⟨ob, h'.get (List.mem_append_right _ (List.mem_singleton.mpr rfl))⟩)
  refine codeAny_mono (F base KB (nsB hns) TB callerA [] t0 H [.ref a] [.ref a] _ _ ⟨hr, rfl⟩ e0 (.cons rfl .nil) hsp) fun r s' h => ?_
  cases r with
  | error e => exact False.elim h
  | ok fl =>
    cases fl with
    | ret u =>
      obtain ⟨v, H', os, bare, un, hok', r', q⟩ := h
      have q' : v = .bl true := q
      subst q'
      obtain rfl : u = Value.bool true := r'
      have grown : ∀ b ∈ ts, ∃ more : Array Value, s'.heap.get? b = some { cls := .none, data := .fields more } := fun b hb => by
        obtain ⟨more, z⟩ := un.tbls b #[] (lawH_t (aT b hb) hb)
        exact ⟨_, hok' b _ z⟩
      have same : ∀ b o, b ∉ ts → t0.heap.get? b = some o → s'.heap.get? b = some o := fun b o nb e => by
        rcases way b with ⟨_, _, z⟩ | ⟨_, m, _⟩ | z
        · have e1 := (hokH b _ z).1
          have e2 := (hok' b _ (un.frzs b ob _ z)).1
          exact e2.trans (e1.symm.trans e)
        · exact absurd m nb
        · exact un.keep b o e z (fun q => (List.not_mem_nil q).elim) (List.not_mem_nil)
      refine ⟨rfl, ⟨fun b o e => ?_, fun b o e => ?_⟩, os, bare⟩
      · by_cases hb : b ∈ ts
        · obtain ⟨more, hm⟩ := grown b hb
          obtain ⟨p, hp, rfl⟩ := tsT b hb
          cases (hT p hp).symm.trans e
          exact .inr (.inl ⟨((C p hp).tab (hT p hp)).isCodeTable, rfl, #[], more, rfl, by rw [Array.empty_append]; exact hm⟩)
        · exact .inl (same b o hb e)
      · by_cases hb : b ∈ ts
        · obtain ⟨more, hm⟩ := grown b hb
          exact ⟨_, hm⟩
        · exact ⟨o, same b o hb e⟩
    | next => exact False.elim h
    | brk => exact False.elim h
    | cont => exact False.elim h
end
/-- what the end wants of the law at the head's heap h: cs, the makers of lambdas by name, with their code objects, tables, and what stands in these -/
def LawG (q : Program) (P : Program) (w : World) (K : PySem.W.Frag) (k : Nat) (mg : Str → Option Value) (fa : Addr) : Prop :=
  ∃ cs : List (Str × Addr × Addr × Str), (cs.map fun p => p.2.2.1).Nodup ∧ (∀ p ∈ cs, PySem.W.tabIn K p.1 = some (p.2.1, p.2.2.1) ∧ ((recsOf q).find? fun e => e.name == p.1).isSome = true ∧ K.lookup p.2.2.1 = none) ∧
    ∀ base : Heap, K.In base → base.Ns mainGlobals mg → (∀ p ∈ cs, LamX.TabB base mg p.2.1 p.2.2.1) → RunG P w K mg base CX0 k fa argsP (toSp (spLaw K (tabsL (cs.map fun p => p.2.2))))
theorem walkG {l : PySem.W.OpenLaw} {n k : Nat} {q : Program} {loose : List Str} {XP : (Str → Option Value) → Heap → Prop} {YP : World → Heap → Prop} {d : DefRec} {K : Params → PySem.W.Frag}
    (hn : l.most = some n) (hn2 : n ≤ sizeLine) (hdf : d.params.defaults = []) (hr : Room k callerA) (hY : ∀ (w : World) (h : Heap), YP w h → (K w.params).In h)
    (F : ∀ (w : World) (mg : Str → Option Value) (fa : Addr) (h : Heap), (K w.params).In h → h.Ns mainGlobals mg → mg d.name = some (.ref fa) → LawG q l.prog w (K w.params) k mg fa) : PySem.W.WalkO q loose XP YP l.row.toRowW d [] (fun f vs => PySem.call f vs) := by
  refine Att.attach_callB hn hdf fun w s₀ t0 mg mb fa o pm cd doc a vs ns G Y ho hd hcd hmg hobj hints hlen hbits hg => ?_
  have KX := hY w _ Y
  obtain ⟨cs, nd, hcs, hF⟩ := F w mg fa _ KX G.T.g hmg
  have tb : ∀ p ∈ cs, PySem.W.CodeHd t0.heap p.2.1 p.2.2.1 ∧ t0.heap.get? p.2.2.1 = some { cls := .none, data := .fields #[] } := fun p hp => by
    obtain ⟨e1, e2, _⟩ := hcs p hp
    obtain ⟨dr, e3⟩ := Option.isSome_iff_exists.mp e2
    exact PySem.W.tab_of G.T KX e3 e1
  have up : ∀ {φ : Addr × Addr × Str → Prop}, (∀ p ∈ cs, φ p.2) → ∀ p ∈ cs.map (·.2), φ p := fun {φ} h p hp => by
    obtain ⟨p', h', rfl⟩ := List.mem_map.mp hp
    exact h p' h'
  refine law_run (cs := cs.map (·.2)) KX G.T.g G.T.b G.T.builtins G.T.nolimit hg (by rw [List.map_map]; exact nd) (up fun p hp => (tb p hp).2) (up fun p hp => (hcs p hp).2.2) (up fun p hp => (tb p hp).1) G.T.bmain hobj hints (Nat.le_trans hlen hn2) hbits hr fun base h1 h2 h3 => ?_
  rw [List.map_map]
  exact hF base h1 h2 fun p hp => h3 p.2 (List.mem_map.mpr ⟨p, hp, rfl⟩)
/-- the law's own entry -/
theorem fn_entry {P : Program} {w : World} {K : PySem.W.Frag} {mg : Str → Option Value} {base : Heap} {x : Str} {st : Stmt} {N ps : List Str} {k : Nat} {sp : SpL} {f : Addr} {fd : FuncData} (F : Fun K x x st f fd) (S : FnScope N ps (defScope st))
    (hb : ∀ (kV doc pm : Value) (an : Option Addr) (cdv ct : Value) (us : List Value), us.length = ps.length → bindArgs (PySem.W.fnOf x x (defArgs st) (defBody st) (defScope st) .none kV doc pm an cdv ct) ⟨us, []⟩ = pure (ps.zip us))
    (hl : ps.length ≤ N.length) (len : ∀ vs L Q E, sp vs L Q E → vs.length = ps.length) (body : BodyOf P w K mg base N x st k sp) : RunG P w K mg base CX0 (k + 1) f argsP (toSp sp) := run_plain F S argsP id id (fun _ _ r => r) hb hl len body
end G

set_option Elab.async false
set_option linter.all false
set_option maxRecDepth 100000
set_option maxHeartbeats 4000000
/-! Errors of the program's own: __init__ with super().__init__(..), raise, except .. as. -/
namespace G
open PySem PySem.Spec PyProof.Rows L2 NdefX

/-! ### 20. A block whose code is known -/
def AtSs (X : Cx) (B sts : List Stmt) : TS := fun D σ H => ∀ pins s, Inv X pins σ H s → _root_.PySem.wpAt (model X.prog X.w) X.A (.func B X.env) (execs sts X.env) (SP X pins D) X.xe s
theorem AtSs.any {X : Cx} {B sts : List Stmt} {D : Ends} {σ : L2.St} {H : Hp} (h : WSs X sts D σ H) : AtSs X B sts D σ H := fun pins s I => _root_.PySem.wpAt_of_wpAny (h pins s I)
/-- the words of a method that says super() -/
abbrev nfS (x q : Str) (st : Stmt) (cc c : Addr) : NF := ⟨x, q, defArgs st, defBody st, defScope st, [("__class__", cc)], c⟩
structure SupF (P : Program) (K : PySem.W.Frag) (x q : Str) (st : Stmt) (f c cc D : Addr) (fd : FuncData) : Prop where
  ex : ∃ (oc : Value) (od : Option Addr) (kV doc pm ct : Value) (an : Option Addr) (osl : Array (Option Value)), fd = PySem.W.fnX x q (defArgs st) (defBody st) (defScope st) [("__class__", cc)] .none kV doc pm an (.ref c) ct ∧ K.lookup f = some ⟨oc, od, .func fd, osl⟩
  cd : PySem.W.codeIn K (.ref c) q = true
  cell : ∃ (cl : Value) (cld : Option Addr) (csl : Array (Option Value)), K.lookup cc = some ⟨cl, cld, .cell (some (.ref D)), csl⟩
  file : ∃ (ccl : Value) (cdd : Option Addr) (vs : Array Value) (ccs : Array (Option Value)) (fl : Str) (tf : Tok), K.lookup c = some ⟨ccl, cdd, .fields vs, ccs⟩ ∧ vs[2]? = some (.str fl tf) ∧ (P.main.file == fl) = true
  cls : ∃ cd, PySem.W.clsIn K D = some cd
  top : (P.main.scope.names.lookup ("super" : Str)).isSome = false
section
variable {CX : CXT} {P : Program} {w : World} {K : PySem.W.Frag} {mg : Str → Option Value} {base : Heap} {N ps : List Str} {x q : Str} {st : Stmt} {f c cc D : Addr} {fd : FuncData} {k : Nat} {sp : Sp}
theorem SupF.cells (F : SupF P K x q st f c cc D fd) {A : Around} {outer : List Env} {s : Shared} {H : Hp} (e0 : Env0 P w K mg base A outer s H) : CellsAt [("__class__", cc)] ["__class__"] [none] s.heap H := by
  obtain ⟨cl, cld, csl, hc⟩ := F.cell
  have look : ∀ {y : Str} {a : Addr}, List.lookup y [(("__class__" : Str), cc)] = some a → y = "__class__" ∧ a = cc := fun {y a} e => by
    by_cases hy : y = "__class__"
    · subst hy
      simp [List.lookup] at e
      exact ⟨rfl, e.symm⟩
    · have z : (y == ("__class__" : Str)) = false := by simpa using hy
      simp [List.lookup, z] at e
  have hb := e0.bs cc _ (e0.mod.kin _ _ hc)
  refine ⟨rfl, fun y a e => ?_, fun y z a e1 e2 => (look e1).1.trans (look e2).1.symm, fun i y e => ?_⟩
  · obtain ⟨_, rfl⟩ := look e
    exact ⟨hb.2, _, _, hb.1, rfl⟩
  · cases i with
    | zero =>
      have e' : some ("__class__" : Str) = some y := e
      cases e'
      exact ⟨cc, by simp [List.lookup], fun v z => by cases z⟩
    | succ i => cases e
/-- such a method keeps its promise -/
theorem SupF.ok (F : SupF P K x q st f c cc D fd) (S : NScope N ps ["__class__"] (defScope st)) (len : ∀ vs H Q E, sp vs H Q E → vs.length = ps.length)
    (body : ∀ (A : Around) (outer : List Env) (s : Shared) (H : Hp) (vs : List V) (Q : VK) (E : XK), Room k (A.deeper (envF (nfS x q st cc c) f s.heap.objs.size)) → sp vs H Q E →
      AtSs (ncx CX P w K mg base N (nfS x q st cc c) f A outer s H E) (defBody st) (defBody st) { nx := fun _ H' => Q .non H', rt := Q } (startF N vs [none]) H) : FnOk P w K mg base CX (k + 1) f fd ps sp := by
  refine ⟨len, fun A outer s H args us vs Q E hr e0 hb r hsp => ?_⟩
  obtain ⟨oc, od, kV, doc, pm, ct, an, osl, rfl, lk⟩ := F.ex
  have KX : K.In s.heap := e0.mod.kin.keeps fun b o e => (e0.bs b o e).1
  have lim : s.heap.NoLimit := e0.mod.nolimit.keeps fun b o e => (e0.bs b o e).1
  refine _root_.PySem.ks_codeAny_call_defAt (body := defBody st) hr.depth (KX _ _ lk) rfl lim (PySem.W.codeRec_of KX F.cd) rfl hb S.nocell (fun ⟨n, _⟩ hy => S.par n (List.of_mem_zip hy).1) (fun h₁ hns kp => ?_) S.co S.gen S.kind
  have I : Inv (ncx CX P w K mg base N (nfS x q st cc c) f A outer s H E) [] (startF N vs [none]) H { s with heap := h₁, toks := s.toks + (ps.zip us).length } := inv_startN S hr.hd e0 (len _ _ _ _ hsp) r (F.cells e0) hns kp
  refine _root_.PySem.wpAt_mono (body A outer s H vs Q E (hr.deeper _) hsp [] _ I) (fun fl s' hs => ?_) fun e s' hs => hs
  have fin : ∀ {σ' : L2.St} {H' : Hp} {v : V} {u : Value}, Inv (ncx CX P w K mg base N (nfS x q st cc c) f A outer s H E) [] σ' H' s' → L2.RelV v u → Q v H' → CE outer P w H s Q u s' := fun {σ' H' v u} J rv qq => ⟨v, H', J.os, J.bare, J.base, J.hok, rv, qq⟩
  cases fl with
  | ret u =>
    obtain ⟨v, σ', H', J, rv, qq⟩ := hs
    exact fin J rv qq
  | next =>
    obtain ⟨σ', H', J, qq⟩ := hs
    exact fin (v := V.non) (u := Value.none) J rfl qq
  | brk => exact hs.elim fun _ z => z.elim fun _ z => z.2.elim
  | cont => exact hs.elim fun _ z => z.elim fun _ z => z.2.elim
end

/-! ### 21. super().__init__(..) of an error over ValueError -/
/-- ValueError.__init__ bound to the error at x -/
def mwO (x u : Addr) : HO := .ext fun h => h.get? u = some (PySem.W.kxs_mw "ValueError.__init__" x)
theorem mwO_ok {P : Program} {w : World} {H : Hp} {h : Heap} {x u : Addr} (e : h.get? u = some (PySem.W.kxs_mw "ValueError.__init__" x)) : ObjOk P w H h u (mwO x u) := ⟨e, ⟨_, e⟩, fun _ _ z k => k _ z⟩
theorem mwO_at {P : Program} {w : World} {H : Hp} {h : Heap} {x u : Addr} (hok : HOk P w H h) (e : H u = some (mwO x u)) : h.get? u = some (PySem.W.kxs_mw "ValueError.__init__" x) := by
  obtain ⟨z, _, _⟩ := hok u _ e
  exact z
section
variable {prog : Program} {w : World} {A : Around} {E : Value → Shared → Prop} {h : Heap} {g : Array GenState} {d : Drawn} {t : Nat} {os : OsState}
variable {nm q : Str} {C N : Addr} {bs bm : List Value} {hdct : Bool} {sn : List Str} {sub : List Value} {ab : Bool} {col : Option Bool} {dd : Option Addr} {k0 k1 k2 k3 k5 : Option Value}
theorem call_mw {u e t0 : Addr} {us : List Value} {Q : Value → Shared → Prop} (hC : h.get? C = some (excClassObj nm q C N bs bm hdct sn sub ab col dd k0 k1 k2 k3 k5 "ValueError.__new__")) (he : h.get? e = some (PySem.HandSPX.excO C t0))
    (hu : h.get? u = some (PySem.W.kxs_mw "ValueError.__init__" e)) (hl : us.length ≤ sizeLine) (hq : ∀ h' t1, (∀ b o, b ≠ e → h.get? b = some o → h'.get? b = some o) → h'.get? e = some (PySem.HandSPX.excO C t1) → Q .none ⟨h', g, d, t, os⟩) :
    wpAny (model prog w) A (call (.ref u) us) Q E ⟨h, g, d, t, os⟩ := by
  refine wpAny_call (codeAny_of_tree (show wpAny _ A.in1 (callAny (.ref u) ⟨us, []⟩) _ _ _ from ?_))
  unfold callAny
  refine wpAny_bind (wpAny_load hu ?_)
  show wpAny _ _ (if (Value.type "method-wrapper" == Value.type "method" || Value.type "method-wrapper" == Value.type "builtin_function_or_method" || Value.type "method-wrapper" == Value.type "method-wrapper") = true then _ else _) _ _ _
  rw [if_pos (by decide)]
  refine PySem.W.KFB.if_so (show (Value.type "method-wrapper" != Value.type "method") = true by decide) (wpAny_bind (PySem.W.check_bound_init F.excBase_ValueError.toExcCallFacts hC he rfl (wpAny_bind (wpAny_pure (wpAny_pure ⟨_root_.PySem.plainId_quiet F.excBase_ValueError.init.plain _, codeAny_builtin F.excBase_ValueError.initEntry ?_⟩)))))
  exact PySem.W.exc_init_tree (cls := .ref C) (t0 := t0) (dv := none) (c2 := .none) (c3 := .none) (b4 := .bool false) he hl fun h' k e1 _ => hq h' _ k e1
end
section
variable {X : Cx} {B rest : List Stmt} {D : Ends} {σ : L2.St} {H : Hp} {x q : Str} {st : Stmt} {f c cc D0 C a : Addr} {fd : FuncData} {i : Nat} {ar : Arg} {ta : TA} {e : Expr} {es : List Expr} {p0 p1 p2 p3 p4 : Pos} {pl : Sem Bool}
theorem at_supx (F : SupF X.prog X.K x q st f c cc D0 fd) (hfu : X.env.func = some f) (hco : X.env.code = .ref c) (hcl : X.env.cells.lookup ("__class__" : Str) = some cc) (hp : (fd.params.posonlyargs ++ fd.params.args).head? = some ar)
    (hks : X.env.kindOf "super" = some .globalImplicit) (hkc : X.env.kindOf "__class__" = some .free) (hka : X.env.kindOf ar.arg = some .local) (hm : X.mg "super" = none)
    (T : OexC X.K C) (sm : PySem.W.ks_superIn X.K C D0 "__init__" = some (some (.builtin "ValueError.__init__"))) (sub : PySem.W.mroIn X.K C (.ref D0) = some true) (sV : PySem.W.subIn X.K (.ref C) (.type "ValueError") = some true)
    (op : PySem.W.nsIn X.K cStatics "thirdparty.any" = some none) (hi : X.N[i]? = some ar.arg) (hs : σ[i]? = some (some (.ref a))) (ha : H a = some (exo a C none)) (pa : PA X (e :: es) ta)
    (h : ∀ u, H u = none → ta σ (upd H u (mwO a u)) fun vs H1 => vs.length ≤ 1000 ∧ H1 u = some (mwO a u) ∧ H1 a = some (exo a C none) ∧ AtSs X B rest D σ H1)
    (he : starEach (e :: es) X.env = (false, eval e X.env) :: starEach es X.env := by rfl) (hpl : (backTo p3 (starEach es X.env)).any (·.1) = false := by rfl) (hint : interactive X.env = false := by rfl)
    (hsw : swapsWith (.Call (.Attribute (.Call (.Name "super" p0) [] [] p1) "__init__" p2) (e :: es) [] p3) none p4.line X.env = pure false := by rfl)
    (hev : eval (.Call (.Attribute (.Call (.Name "super" p0) [] [] p1) "__init__" p2) (e :: es) [] p3) X.env = (do
      let ov ← attributeBase (.Call (.Name "super" p0) [] [] p1) "__init__" X.env (eval (.Call (.Name "super" p0) [] [] p1) X.env)
      standAt p2.atName
      let (ff, first) ← holding [ov] (getMethod ov "__init__" pl)
      callWith p3 ff first (backTo p3 (starEach (e :: es) X.env)) []) := by rfl) :
    AtSs X B (.Expr (.Call (.Attribute (.Call (.Name "super" p0) [] [] p1) "__init__" p2) (e :: es) [] p3) p4 :: rest) D σ H := fun pins s I => by
  obtain ⟨oc, od, kV, doc, pm, ct, an, osl, efd, lk⟩ := F.ex
  obtain ⟨ccl, cdd, vs, ccs, fl, tf, lc, hvs, hfile⟩ := F.file
  obtain ⟨cl, cld, csl, hcell⟩ := F.cell
  obtain ⟨cdD, hD⟩ := F.cls
  obtain ⟨mb, hb1, hb2⟩ := I.mod.blt
  obtain ⟨oD, hD1, hD2⟩ : ∃ oD, s.heap.get? D0 = some oD ∧ oD.data = .cls cdD := by
    unfold PySem.W.clsIn at hD
    split at hD
    · rename_i c' d' cd' sl' ho
      cases hD
      exact ⟨_, I.kIn _ _ ho, rfl⟩
    · cases hD
  obtain ⟨nm, qn, NN, bs, bm, sn, sb, ab, col, dd, k0, k1, k2, k3, k5, hC, hbm⟩ := T.cls
  have hcC : PySem.W.clsIn X.K C = some { name := nm, bases := bs, mro := .ref C :: bm, ns := NN, qualname := qn, hasDict := true, slotNames := sn, subclasses := sb, abstract := ab, collection := col, hasDel := false } := by unfold PySem.W.clsIn; rw [hC] <;> rfl
  obtain ⟨t0, hx⟩ := exo_at I.hok ha
  have IA : PySem.W.InstAt s.heap a _ C none := ⟨hx, rfl, rfl, trivial⟩
  have xC : a ≠ C := PySem.W.ks_ne I.kIn IA hcC
  refine _root_.PySem.ks_wpAt_execs_cons (_root_.PySem.ks_wpAt_Expr_any (_root_.PySem.ks_wpAt_MethodCall (pl := pl) (_root_.PySem.ks_wpAt_super_base hks hkc rfl hfu (I.kIn _ _ lk) rfl hp hco (I.kIn _ _ lc) rfl hvs hfile F.top ?_) hev) hint hsw)
  refine PySem.W.ks_loadName_global I.ok.kind hks (Calls.loadGlobal_builtin (by rw [I.ok.glob]; exact I.mod.glob.keeps I.bk) hm (by rw [I.ok.blt]; exact hb1.keeps I.bk) ((hb2 _ (by decide)).trans (by decide +kernel)) ⟨rfl, ?_⟩)
  refine wpAny_loadName_free I.ok.kind hkc hcl ⟨_, I.kIn _ _ hcell, rfl⟩ ?_
  obtain ⟨m, hn, hl⟩ := id I.loc
  obtain ⟨u, r, qq⟩ := hl i _ _ hi hs (.inl hka)
  obtain rfl : u = Value.ref a := r
  rcases qq with ⟨_, em⟩ | ⟨k, _⟩
  · refine wpAny_loadName_local I.ok.kind hka hn em ?_
    obtain ⟨hp', g, d, t, os⟩ := s
    refine _root_.PySem.ks_wpAny_isType_cls hD1 hD2 ⟨rfl, ?_⟩
    refine _root_.PySem.ks_wpAny_call_super hD1 hD2 hx rfl (fun c e => by cases e) (PySem.W.looks_mroIn I.kIn sub) (fun h' eS kS => ?_)
    have J1 : Inv X pins σ H ⟨h', g, d, t, os⟩ := I.kept (t' := t) kS
    have IA1 : PySem.W.InstAt h' a _ C none := ⟨kS _ _ hx, rfl, rfl, trivial⟩
    have sm' := sm
    unfold PySem.W.ks_superIn at sm'
    rw [hcC] at sm'
    refine PySem.W.kxs_getMethod PySem.W.kxs_ValueError eS (PySem.W.looks_opaque J1.kIn op) ((PySem.W.looks_clsIn J1.kIn hcC).andThen .now) rfl J1.kIn sm' (IA1.type.andThen (PySem.W.looks_subIn J1.kIn sV)) xC rfl ?_
    have nu : H h'.objs.size = none := J1.hok.fresh (Nat.le_refl _)
    have J2 : Inv X pins σ (upd H h'.objs.size (mwO a h'.objs.size)) ⟨h'.push (PySem.W.kxs_mw "ValueError.__init__" a), g, d, t + 1, os⟩ :=
      J1.laid (t' := t + 1) (a := h'.objs.size) (fun b o z => Heap.get?_push_of_some _ z) (Nat.le_refl _) (mwO_ok (Heap.get?_push_size _ rfl))
    show wpAny _ _ (callWith p3 (Value.ref h'.objs.size) [] (backTo p3 (starEach (e :: es) X.env)) []) _ _ _
    have hpa := pa.run p3 pins _ σ _ _ J2 (h _ nu)
    rw [he] at hpa ⊢
    refine PySem.W.kxs_callWith (i := "ValueError.__init__") (x := a) (by show (false || (backTo p3 (starEach es X.env)).any (·.1)) = false; rw [hpl]; rfl) (Calls.evalArgs_plain (thn hpa fun us s1 ⟨vs', H1, J3, r1, hlen, e1, e2, qk⟩ => ?_))
    refine ⟨mwO_at J3.hok e1, ?_⟩
    show wpAny _ _ (call (Value.ref h'.objs.size) us) _ _ _
    obtain ⟨t1, hx1⟩ := exo_at J3.hok e2
    have hul : us.length ≤ sizeLine := by
      rw [← Paired.length r1, sizeLine_eq]
      omega
    have hCx := J3.kIn _ _ hC
    have hmw := mwO_at J3.hok e1
    obtain ⟨h1, g1, d1, t1', os1⟩ := s1
    refine call_mw hCx hx1 hmw hul (fun h2 t2 k2 hx2 => ?_)
    have J4 := J3.write (t' := t1') (x := a) (e := a) (o := exo a C none) (by rw [e2]; exact True.intro) (.inl rfl) k2 ⟨_, hx2⟩ (exo_ok hx2)
    have eu : upd H1 a (exo a C none) = H1 := by
      funext b
      by_cases hb : b = a
      · rw [hb, upd_same, e2]
      · rw [upd_ne hb]
    rw [eu] at J4
    exact qk pins _ J4
  · rcases k with k | k
    · have z := k.symm.trans hka
      cases z
    · have z := k.symm.trans hka
      cases z
end

/-! ### 22. Error classes: super().__init__(a, ..); self.a = a; .. -/
/-- what the written part says of the error class at C, named x, with the fields ns -/
structure ErrK (K : PySem.W.Frag) (mg : Str → Option Value) (x : Str) (C fI : Addr) (ns : List Str) : Prop where
  gC : mg x = some (.ref C)
  T : OexC K C
  iC : PySem.W.findIn K (.ref C) "__init__" = some (some (.ref fI))
  tI : PySem.W.typeIn K (.ref fI) = some (.type "function")
  no : ∀ n ∈ ns, PySem.W.findIn K (.ref C) n = some none
  sm : PySem.W.ks_superIn K C C "__init__" = some (some (.builtin "ValueError.__init__"))
  sub : PySem.W.mroIn K C (.ref C) = some true
  sV : PySem.W.subIn K (.ref C) (.type "ValueError") = some true
  op : PySem.W.nsIn K cStatics "thirdparty.any" = some none
  su : mg "super" = none
/-- __init__ keeps: the fields stand in a new dict -/
def spErr (C : Addr) (ns : List Str) : Sp := fun vs H Q _ => ∃ (a : Addr) (ws : List V), vs = .ref a :: ws ∧ ws.length = ns.length ∧ H a = some (exo a C none) ∧
  ∀ u d, H u = none → d ≠ u → d ≠ a → u ≠ a → H d = none → Q .non (upd (upd (upd H u (mwO a u)) d (exd d (ns.zip ws).reverse)) a (exo a C (some d)))
section
variable {P : Program} {w : World} {K : PySem.W.Frag} {mg : Str → Option Value} {base : Heap} {x q : Str} {st : Stmt} {f c cc C : Addr} {fd : FuncData} {n m : Str} {pa0 : Arg} {p0 p1 p2 p3 p4 p5 p6 q0 q1 q2 q3 r0 r1 r2 r3 : Pos}
theorem clsCell {cc : Addr} : List.lookup ("__class__" : Str) [(("__class__" : Str), cc)] = some cc := by simp [List.lookup]
/-- super().__init__(n); self.n = n -/
theorem err1_ok (F : SupF P K "__init__" q st f c cc C fd) (G : ErrK K mg x C f [n]) (S : NScope ["self", n, "__class__"] ["self", n] ["__class__"] (defScope st))
    (eb : defBody st = [.Expr (.Call (.Attribute (.Call (.Name "super" p0) [] [] p1) "__init__" p2) [.Name n p3] [] p4) p5, .Assign [.Attribute (.Name "self" q0) n q1] (.Name n q2) q3])
    (hp : (fd.params.posonlyargs ++ fd.params.args).head? = some pa0) (h0 : pa0.arg = "self") (hks : (defScope st).names.lookup ("super" : Str) = some .globalImplicit)
    (hint : ∀ L, interactive (envF (nfS "__init__" q st cc c) f L) = false)
    (hsw1 : ∀ L, swapsWith (.Call (.Attribute (.Call (.Name "super" p0) [] [] p1) "__init__" p2) [.Name n p3] [] p4) none p5.line (envF (nfS "__init__" q st cc c) f L) = pure false)
    (hev : ∀ L, ∃ pl : Sem Bool, eval (.Call (.Attribute (.Call (.Name "super" p0) [] [] p1) "__init__" p2) [.Name n p3] [] p4) (envF (nfS "__init__" q st cc c) f L) = (do
      let ov ← attributeBase (.Call (.Name "super" p0) [] [] p1) "__init__" (envF (nfS "__init__" q st cc c) f L) (eval (.Call (.Name "super" p0) [] [] p1) (envF (nfS "__init__" q st cc c) f L))
      standAt p2.atName
      let (ff, first) ← holding [ov] (getMethod ov "__init__" pl)
      callWith p4 ff first (backTo p4 (starEach [.Name n p3] (envF (nfS "__init__" q st cc c) f L))) []))
    (hsw2 : ∀ L, swapsWith (.Name n q2) (some (.Attribute (.Name "self" q0) n q1)) q3.line (envF (nfS "__init__" q st cc c) f L) = pure false) (hdb : (n == ("__debug__" : Str)) = false) (hcd : (n == ("__classdict__" : Str)) = false) : FnOk P w K mg base CX0 1 f fd ["self", n] (spErr C [n]) := by
  refine F.ok S (fun vs H Q E h => ?_) (fun A outer s H vs Q E hr h => ?_)
  · obtain ⟨a, ws, rfl, hl, _⟩ := h
    simpa using hl
  · obtain ⟨a, ws, rfl, hl, ha, hq⟩ := h
    match ws, hl with
    | [v], _ =>
      obtain ⟨pl, hev⟩ := hev s.heap.objs.size
      rw [eb]
      have vn : Vis (defScope st) n := .inl (S.par n (by simp))
      have hself : (defScope st).names.lookup ("self" : Str) = some .local := S.par "self" (by simp)
      have pN : PE (ncx CX0 P w K mg base ["self", n, "__class__"] (nfS "__init__" q st cc c) f A outer s H E) (.Name n p3) (tVar 1) := pe_var rfl vn hdb hcd
      refine at_supx (i := 0) F rfl rfl clsCell hp hks (S.frk "__class__" (by simp)) (by rw [h0]; exact hself) G.su G.T G.sm G.sub G.sV G.op (by rw [h0]; rfl) rfl ha (pa_cons pN pa_nil) (fun u hu => ?_) (hint := hint _) (hsw := hsw1 _) (hev := hev)
      have ua : u ≠ a := fun z => by
        rw [z, ha] at hu
        cases hu
      refine ⟨v, rfl, by show 1 ≤ 1000; decide, upd_same, ?_, .any ?_⟩
      · rw [upd_ne (Ne.symm ua)]
        exact ha
      · refine WSs.of (pss_one (ps_ost (pe_var (i := 0) rfl (.inl hself)) (pe_var (i := 1) rfl vn hdb hcd) (hsw2 _))) ?_
        refine ⟨v, rfl, .ref a, rfl, a, C, rfl, G.T, G.no n (by simp), .inl ⟨?_, fun d hd hda => ?_⟩⟩
        · rw [upd_ne (Ne.symm ua)]
          exact ha
        · have du : d ≠ u := fun z => by
            rw [z, upd_same] at hd
            cases hd
          rw [upd_ne du] at hd
          exact hq u d hu du hda ua hd
/-- super().__init__(n, m); self.n = n; self.m = m -/
theorem err2_ok (F : SupF P K "__init__" q st f c cc C fd) (G : ErrK K mg x C f [n, m]) (S : NScope ["self", n, m, "__class__"] ["self", n, m] ["__class__"] (defScope st))
    (eb : defBody st = [.Expr (.Call (.Attribute (.Call (.Name "super" p0) [] [] p1) "__init__" p2) [.Name n p3, .Name m p6] [] p4) p5, .Assign [.Attribute (.Name "self" q0) n q1] (.Name n q2) q3, .Assign [.Attribute (.Name "self" r0) m r1] (.Name m r2) r3])
    (hp : (fd.params.posonlyargs ++ fd.params.args).head? = some pa0) (h0 : pa0.arg = "self") (hks : (defScope st).names.lookup ("super" : Str) = some .globalImplicit)
    (hint : ∀ L, interactive (envF (nfS "__init__" q st cc c) f L) = false)
    (hsw1 : ∀ L, swapsWith (.Call (.Attribute (.Call (.Name "super" p0) [] [] p1) "__init__" p2) [.Name n p3, .Name m p6] [] p4) none p5.line (envF (nfS "__init__" q st cc c) f L) = pure false)
    (hev : ∀ L, ∃ pl : Sem Bool, eval (.Call (.Attribute (.Call (.Name "super" p0) [] [] p1) "__init__" p2) [.Name n p3, .Name m p6] [] p4) (envF (nfS "__init__" q st cc c) f L) = (do
      let ov ← attributeBase (.Call (.Name "super" p0) [] [] p1) "__init__" (envF (nfS "__init__" q st cc c) f L) (eval (.Call (.Name "super" p0) [] [] p1) (envF (nfS "__init__" q st cc c) f L))
      standAt p2.atName
      let (ff, first) ← holding [ov] (getMethod ov "__init__" pl)
      callWith p4 ff first (backTo p4 (starEach [.Name n p3, .Name m p6] (envF (nfS "__init__" q st cc c) f L))) []))
    (hsw2 : ∀ L, swapsWith (.Name n q2) (some (.Attribute (.Name "self" q0) n q1)) q3.line (envF (nfS "__init__" q st cc c) f L) = pure false) (hsw3 : ∀ L, swapsWith (.Name m r2) (some (.Attribute (.Name "self" r0) m r1)) r3.line (envF (nfS "__init__" q st cc c) f L) = pure false)
    (hdb : (n == ("__debug__" : Str)) = false) (hcd : (n == ("__classdict__" : Str)) = false) (mdb : (m == ("__debug__" : Str)) = false) (mcd : (m == ("__classdict__" : Str)) = false) : FnOk P w K mg base CX0 1 f fd ["self", n, m] (spErr C [n, m]) := by
  refine F.ok S (fun vs H Q E h => ?_) (fun A outer s H vs Q E hr h => ?_)
  · obtain ⟨a, ws, rfl, hl, _⟩ := h
    simpa using hl
  · obtain ⟨a, ws, rfl, hl, ha, hq⟩ := h
    match ws, hl with
    | [v, z], _ =>
      obtain ⟨pl, hev⟩ := hev s.heap.objs.size
      rw [eb]
      have vn : Vis (defScope st) n := .inl (S.par n (by simp))
      have vm : Vis (defScope st) m := .inl (S.par m (by simp))
      have hself : (defScope st).names.lookup ("self" : Str) = some .local := S.par "self" (by simp)
      have pN : PE (ncx CX0 P w K mg base ["self", n, m, "__class__"] (nfS "__init__" q st cc c) f A outer s H E) (.Name n p3) (tVar 1) := pe_var rfl vn hdb hcd
      have pM : PE (ncx CX0 P w K mg base ["self", n, m, "__class__"] (nfS "__init__" q st cc c) f A outer s H E) (.Name m p6) (tVar 2) := pe_var rfl vm mdb mcd
      refine at_supx (i := 0) F rfl rfl clsCell hp hks (S.frk "__class__" (by simp)) (by rw [h0]; exact hself) G.su G.T G.sm G.sub G.sV G.op (by rw [h0]; rfl) rfl ha (pa_cons pN (pa_cons pM pa_nil)) (fun u hu => ?_) (hint := hint _) (hsw := hsw1 _) (hev := hev)
      have ua : u ≠ a := fun y => by
        rw [y, ha] at hu
        cases hu
      refine ⟨v, rfl, z, rfl, by show 2 ≤ 1000; decide, upd_same, ?_, .any ?_⟩
      · rw [upd_ne (Ne.symm ua)]
        exact ha
      · refine WSs.of (pss_cons (ps_ost (pe_var (i := 0) rfl (.inl hself)) (pe_var (i := 1) rfl vn hdb hcd) (hsw2 _)) (pss_one (ps_ost (pe_var (i := 0) rfl (.inl hself)) (pe_var (i := 2) rfl vm mdb mcd) (hsw3 _)))) ?_
        refine ⟨v, rfl, .ref a, rfl, a, C, rfl, G.T, G.no n (by simp), .inl ⟨?_, fun d hd hda => ?_⟩⟩
        · rw [upd_ne (Ne.symm ua)]
          exact ha
        · have du : d ≠ u := fun y => by
            rw [y, upd_same] at hd
            cases hd
          rw [upd_ne du] at hd
          refine ⟨z, rfl, .ref a, rfl, a, C, rfl, G.T, G.no m (by simp), .inr ⟨d, _, upd_same, by rw [upd_ne hda, upd_same], by show 1 ≤ 900; decide, ?_⟩⟩
          have key := hq u d hu du hda ua hd
          have e : upd (upd (upd (upd H u (mwO a u)) d (exd d [(n, v)])) a (exo a C (some d))) d (exd d [(m, z), (n, v)]) = upd (upd (upd H u (mwO a u)) d (exd d [(m, z), (n, v)])) a (exo a C (some d)) := by
            funext b
            by_cases hb : b = d
            · subst hb
              rw [upd_same, upd_ne hda, upd_same]
            · rw [upd_ne hb]
              by_cases h2 : b = a
              · subst h2
                rw [upd_same, upd_same]
              · rw [upd_ne h2, upd_ne hb, upd_ne h2, upd_ne hb]
          show Q .non (upd (upd (upd (upd H u (mwO a u)) d (exd d [(n, v)])) a (exo a C (some d))) d (exd d [(m, z), (n, v)]))
          rw [e]
          exact key
end

/-! ### 23. raise, and calls that raise -/
abbrev XW := Value → Option Addr → En → Lg → Prop
def upW (X : Cx) (W : XW) : WX := fun cls d σ H => ∃ η L, X.N = names η ∧ σ = vals η ∧ Has H L ∧ W cls d η L
/-- the frame lets out what W tells -/
def Tk (X : Cx) (W : XW) : Prop := Takes X (upW X W)
/-- an error class that can be made -/
structure ErrC (P : Program) (w : World) (K : PySem.W.Frag) (mg : Str → Option Value) (base : Heap) (x : Str) (C : Addr) (ns : List Str) : Prop where
  ex : ∃ fI fd, ErrK K mg x C fI ns ∧ FnOk P w K mg base CX0 1 fI fd ("self" :: ns) (spErr C ns) ∧ L2.Binds K fd ("self" :: ns) []
def GMk (X : Cx) (e : Expr) (η : En) (L : Lg) (Q : XL) : Prop := X.N = names η → ∀ H, Has H L → ∀ pins s, Inv X pins (vals η) H s → wpAny (model X.prog X.w) X.A (eval e X.env) (MkP X pins (vals η) (upX Q)) X.xe s
theorem mkp_imp {X : Cx} {pins : List (Addr × Obj)} {σ : L2.St} {Q Q' : XK} {u : Value} {s : Shared} (h : MkP X pins σ Q u s) (m : ∀ c d H, Q c d H → Q' c d H) : MkP X pins σ Q' u s := by
  obtain ⟨a, oe, vs, sI, H', cls, d, h1, h2, h3, h4, h5, h6, h7, h8, h9, h10, h11, h12, q⟩ := h
  exact ⟨a, oe, vs, sI, H', cls, d, h1, h2, h3, h4, h5, h6, h7, h8, h9, h10, h11, h12, m _ _ _ q⟩
section
variable {X : Cx} {η : En} {L : Lg} {e : Expr} {es : List Expr} {pos p : Pos} {D : GD} {W : XW} {Q : QV} {j k : Nat} {x : Str} {C : Addr} {ns : List Str}
theorem gs_raise (tk : Tk X W) (h : GMk X e η L fun c d L1 => W c d η L1) (hc : X.calm = true := by rfl) : GS X (.Raise (some e) none pos) D η L := fun hN H hH =>
  WS.of (ps_raise (t := fun σ H Q => ∀ pins s, Inv X pins σ H s → wpAny (model X.prog X.w) X.A (eval e X.env) (MkP X pins σ Q) X.xe s) hc tk (fun pins s σ H Q I q => q pins s I))
    (fun pins s I => thn (h hN H hH pins s I) fun u s' z => mkp_imp z fun c d H' ⟨L', h', q⟩ => ⟨η, L', hN, rfl, h', q⟩)
theorem gmk_err {E : XL} (T : ErrC X.prog X.w X.K X.mg X.base x C ns) (hr : RoomG j X.A) (h : GA X (e :: es) η L fun vs L1 => vs.length = ns.length ∧ ∀ d, E (.ref C) (some d) ((d, .xd (ns.zip vs).reverse) :: L1)) (hn : ns.length ≤ 900) (hj : 2 ≤ j := by decide) (hg : Gl X x := by rfl)
    (hdb : (x == ("__debug__" : Str)) = false := by decide) (he : starEach (e :: es) X.env = (false, eval e X.env) :: starEach es X.env := by rfl) (hpl : (backTo pos (starEach es X.env)).any (·.1) = false := by rfl) : GMk X (.Call (.Name x p) (e :: es) [] pos) η L E := fun hN H hH pins s I => by
  obtain ⟨fI, fd, G, F, hb⟩ := T.ex
  refine pmk_oex (dvs := []) (ds := []) G.T G.iC G.tI F (hr.toRoom.mono hj) hb .nil (fun _ _ _ _ _ _ _ z => z.elim) hg G.gC pa_W hdb he hpl pins s (vals η) H _ I ?_
  refine (h hN H hH).mono fun vs H1 ⟨L1, h1, hl, q⟩ => ⟨by omega, fun a ha => ⟨a, vs, by rw [List.append_nil], hl, upd_same, fun u d hu du da ua hd => ⟨rfl, d, _, upd_same, by rw [upd_ne da, upd_same], ?_, ?_⟩⟩⟩
  · rw [upd_ne da] at hd
    exact hd
  · refine ⟨_, ?_, q d⟩
    have hd1 : H1 d = none := by
      rw [upd_ne da] at hd
      exact hd
    have hu1 : H1 u = none := by
      rw [upd_ne ua] at hu
      exact hu
    have old : ∀ b o, H1 b = some o → (upd (del (upd (upd (upd (upd H1 a (exo a C none)) u (mwO a u)) d (exd d (ns.zip vs).reverse)) a (exo a C (some d))) a) d (.xd (ns.zip vs).reverse)) b = some o := fun b o z => by
      have na := ne_of_none z ha
      rw [upd_ne (ne_of_none z hd1), del_ne na, upd_ne na, upd_ne (ne_of_none z hd1), upd_ne (ne_of_none z hu1), upd_ne na]
      exact z
    exact h1.newB hd1 old upd_same
end

section
variable {X : Cx} {η : En} {L : Lg} {e : Expr} {es : List Expr} {pos p : Pos} {W : XW} {Q : QV} {j k : Nat} {x : Str} {sp : SpL}
/-- what a callee of ours lets out, taken -/
theorem run_x {pins : List (Addr × Obj)} {H : Hp} {s : Shared} {f : Addr} {args : List Value → Args} {us : List Value} {vs : List V} (F : RunG X.prog X.w X.K X.mg X.base (L2.CX X.prog X.w) k f args (toSp sp)) (hr : RoomG k X.A) (tk : Tk X W) (hN : X.N = names η) (hH : Has H L) (I : Inv X pins (vals η) H s) (r : Vals vs us)
    (h : sp vs L Q fun c d L' => W c d η L') : wpAny (model X.prog X.w) X.A (call (.ref f) (args us).pos (args us).kw) (EP X pins (vals η) (up Q)) X.xe s := by
  have hsp : toSp sp vs H (up Q) (fun c d H' => upW X W c d (vals η) H') := ⟨L, Q, _, hH, h, fun _ L' _ h' q => ⟨L', h', q⟩, fun _ _ L' _ h' q => ⟨η, L', hN, rfl, h', q⟩⟩
  refine wpAny_call (codeAny_mono (F X.A X.stack s H us vs _ _ hr I.env0 r hsp) fun r' s' hq => ?_)
  cases r' with
  | error e => exact passAt tk (vals η) pins H s e s' I hq
  | ok fl =>
    cases fl with
    | ret u => exact I.after hq
    | next => exact hq.elim
    | brk => exact hq.elim
    | cont => exact hq.elim
theorem ge_callX (F : Fn X.prog X.w X.K X.mg X.base (L2.CX X.prog X.w) x k sp) (hr : RoomG j X.A) (tk : Tk X W) (h : GA X (e :: es) η L fun vs L1 => sp vs L1 Q fun c d L' => W c d η L') (hjk : k ≤ j := by decide) (hg : Gl X x := by rfl) (hd : (x == ("__debug__" : Str)) = false := by decide)
    (he : starEach (e :: es) X.env = (false, eval e X.env) :: starEach es X.env := by rfl) (hpl : (backTo pos (starEach es X.env)).any (·.1) = false := by rfl) : GE X (.Call (.Name x p) (e :: es) [] pos) η L Q := fun hN H hH pins s I => by
  obtain ⟨f, hm, hk, F⟩ := F
  refine wpAny_Call_Name_kw (ld_glob I hg hm (PySem.W.callWith_K (h₀ := X.base) I.ok.mod.kin hk (thn (h hN H hH pos pins s I) fun us s1 ⟨vs, H1, J, r, L1, h1, q⟩ => ⟨J.kIn, ?_⟩) he hpl) hd)
  exact run_x (args := argsP) F (hr.mono hjk) tk hN h1 J r q
theorem ge_callX0 (F : Fn X.prog X.w X.K X.mg X.base (L2.CX X.prog X.w) x k sp) (hr : RoomG j X.A) (tk : Tk X W) (h : sp [] L Q fun c d L' => W c d η L') (hjk : k ≤ j := by decide) (hg : Gl X x := by rfl) (hd : (x == ("__debug__" : Str)) = false := by decide) : GE X (.Call (.Name x p) [] [] pos) η L Q := fun hN H hH pins s I => by
  obtain ⟨f, hm, hk, F⟩ := F
  refine wpAny_Call_Name_kw (ld_glob I hg hm (PySem.W.callWith_K0 I.kIn hk ?_) hd)
  exact run_x (args := argsP) (us := []) F (hr.mono hjk) tk hN hH I .nil h
end
section
variable {P : Program} {w : World} {K : PySem.W.Frag} {mg : Str → Option Value} {base : Heap}
/-- where the body of a def stands that may let errors out -/
abbrev cxR (P : Program) (w : World) (K : PySem.W.Frag) (mg : Str → Option Value) (base : Heap) (N : List Str) (x : Str) (sc : Scope) (f : Addr) (cdv : Value) (A : Around) (outer : List Env) (s : Shared) (H : Hp) (E0 : XK) : Cx := cxOf (L2.CX P w) P w K mg base N x sc f cdv A outer s H E0
/-- what is left over may be dropped -/
def drpE (E : XL) : XL := fun c d L => ∃ M, Sub M L ∧ E c d M
abbrev BodyX (P : Program) (w : World) (K : PySem.W.Frag) (mg : Str → Option Value) (base : Heap) (N : List Str) (q : Str) (st : Stmt) (k : Nat) (sp : SpL) : Prop :=
  ∀ (X : Cx) (f : Addr) (cdv : Value) (A : Around) (outer : List Env) (s : Shared) (H : Hp) (E0 : XK) (L : Lg) (vs : List V) (Q : QV) (E : XL), X = cxR P w K mg base N q (defScope st) f cdv A outer s H E0 → X.N.Nodup → RoomG k X.A → Tk X (fun c d _ L' => drpE E c d L') → sp vs L Q E → GSs X (defBody st) (bodyD Q) (begun N vs) L
theorem run_raise {x q : Str} {st : Stmt} {f : Addr} {fd : FuncData} {N ps : List Str} {k : Nat} {sp : SpL} (F : Fun K x q st f fd) (S : FnScope N ps (defScope st)) (args : List Value → Args) (pmV : List V → List V) (pmU : List Value → List Value) (hpm : ∀ vs us, Vals vs us → Vals (pmV vs) (pmU us))
    (hb : ∀ (kV doc pm : Value) (an : Option Addr) (cdv ct : Value) (us : List Value), (pmU us).length = ps.length → bindArgs (PySem.W.fnOf x q (defArgs st) (defBody st) (defScope st) .none kV doc pm an cdv ct) (args us) = pure (ps.zip (pmU us)))
    (hl : ps.length ≤ N.length) (len : ∀ vs L Q E, sp vs L Q E → vs.length = ps.length) (body : BodyX P w K mg base N q st k sp) : RunG P w K mg base (L2.CX P w) (k + 1) f args (fun vs => toSp sp (pmV vs)) := by
  obtain ⟨oc, od, kV, doc, pm, an, cdv, ct, osl, rfl, lk, hcd⟩ := F.ex
  intro A outer s H us vs Q E hr e0 r hsp
  obtain ⟨L, Ql, El, hH, h, hq, he⟩ := hsp
  have hn : (pmV vs).length = ps.length := len _ L Ql El h
  have r2 := hpm vs us r
  have hlv : (pmV vs).length ≤ N.length := by
    rw [hn]
    exact hl
  have tk : Tk (cxR P w K mg base N q (defScope st) f cdv A outer s H E) (fun c d _ L' => drpE El c d L') := (takes_of rfl rfl rfl rfl).imp fun c d σ H' ⟨η, L', _, _, h', M, sb, z⟩ => he c d M H' (sb _ h') z
  exact LamX.run_ofS (CX := L2.CX P w) lk hcd S hr.toRoom e0 (.of_eq (hb kV doc pm an cdv ct us (by rw [← r2.length]; exact hn))) r2 hn fun hr2 =>
    ⟨WSs _ (defBody st), pss_W, body_end (X := cxR P w K mg base N q (defScope st) f cdv A outer s H E) hlv hq hH (body _ f cdv A outer s H E L (pmV vs) Ql El rfl S.nd ⟨hr2, guard_deeper hr.gd⟩ tk h)⟩
/-- THE RULE for a def that may let errors out -/
theorem fn_raise {x : Str} {st : Stmt} {N ps : List Str} {k : Nat} {sp : SpL} (F : Df K mg x st) (S : FnScope N ps (defScope st))
    (hb : ∀ (kV doc pm : Value) (an : Option Addr) (cdv ct : Value) (us : List Value), us.length = ps.length → bindArgs (PySem.W.fnOf x x (defArgs st) (defBody st) (defScope st) .none kV doc pm an cdv ct) ⟨us, []⟩ = pure (ps.zip us))
    (hl : ps.length ≤ N.length) (len : ∀ vs L Q E, sp vs L Q E → vs.length = ps.length) (body : BodyX P w K mg base N x st k sp) : Fn P w K mg base (L2.CX P w) x (k + 1) sp := by
  obtain ⟨f, fd, hm, F⟩ := F
  exact ⟨f, hm, F.kp, run_raise F S argsP id id (fun _ _ r => r) hb hl len body⟩
theorem fn_raiseK {x : Str} {st : Stmt} {N ps : List Str} {k : Nat} {sp : SpL} (n : Nat) (ks : List Str) (pmV : List V → List V) (pmU : List Value → List Value) (hpm : ∀ vs us, Vals vs us → Vals (pmV vs) (pmU us)) (F : Df K mg x st) (S : FnScope N ps (defScope st))
    (hb : ∀ (kV doc pm : Value) (an : Option Addr) (cdv ct : Value) (us : List Value), (pmU us).length = ps.length → bindArgs (PySem.W.fnOf x x (defArgs st) (defBody st) (defScope st) .none kV doc pm an cdv ct) (argsK n ks us) = pure (ps.zip (pmU us)))
    (hl : ps.length ≤ N.length) (len : ∀ vs L Q E, sp vs L Q E → vs.length = ps.length) (body : BodyX P w K mg base N x st k sp) : FnA P w K mg base (L2.CX P w) x (k + 1) (argsK n ks) (fun vs => sp (pmV vs)) := by
  obtain ⟨f, fd, hm, F⟩ := F
  exact ⟨f, hm, F.kp, run_raise F S (argsK n ks) pmV pmU hpm hb hl len body⟩
/-- values, then a tuple of the rest -/
theorem run_starredX {x q pv : Str} {st : Stmt} {f : Addr} {fd : FuncData} {N ps : List Str} {k : Nat} {sp : SpL} (F : Fun K x q st f fd) (S : FnScope N (ps ++ [pv]) (defScope st))
    (hb : ∀ (kV doc pm : Value) (an : Option Addr) (cdv ct : Value) (us rest : List Value), us.length = ps.length → bindArgs (PySem.W.fnOf x q (defArgs st) (defBody st) (defScope st) .none kV doc pm an cdv ct) ⟨us ++ rest, []⟩ = (newTuple rest >>= fun t => pure (ps.zip us ++ [(pv, t)])))
    (hl : ps.length + 1 ≤ N.length) (body : BodyX P w K mg base N q st k sp) (len : ∀ vs L Q E, sp vs L Q E → vs.length = ps.length + 1) : RunG P w K mg base (L2.CX P w) (k + 1) f argsP (toSp fun vs L Q E => ∃ ws rest, vs = ws ++ rest ∧ ws.length = ps.length ∧ rest.length ≤ sizeLine ∧ ∀ p, sp (ws ++ [.ref p]) ((p, .tup rest) :: L) Q E) := by
  obtain ⟨oc, od, kV, doc, pm, an, cdv, ct, osl, rfl, lk, hcd⟩ := F.ex
  intro A outer s H us vs Q E hr e0 r hsp
  obtain ⟨L, Ql, El, hH, ⟨ws, rest, ev, hlw, hz, hs⟩, hq, he⟩ := hsp
  subst ev
  obtain ⟨u1, u2, eu, r1, r2⟩ := StX.vals_split r
  subst eu
  have hn : H s.heap.objs.size = none := e0.hok.fresh (Nat.le_refl _)
  have hl1 : u1.length = ps.length := by
    rw [← r1.length]
    exact hlw
  have hl2 : u2.length ≤ sizeLine := by
    rw [← r2.length]
    exact hz
  refine StX.run_bnd (CX := L2.CX P w) lk hcd S hr.toRoom e0 (G := fun xs H2 => ∃ p, H p = none ∧ xs = ws ++ [V.ref p] ∧ H2 = upd H p (.tup rest)) (fun A' Ex Q' h => ?_) fun s2 H2 xs ⟨p, hp, ex, eH⟩ hr' => ?_
  · rw [show bindArgs _ (argsP (u1 ++ u2)) = _ from hb kV doc pm an cdv ct u1 u2 hl1]
    refine wpAny_bind (wpAny_newTuple (wpAny_pure ?_) hl2)
    have new : ObjOk P w (upd H s.heap.objs.size (.tup rest)) (s.heap.push ({ cls := .type "tuple", data := .seq u2.toArray } : Obj)) s.heap.objs.size (.tup rest) := ⟨hz, u2, r2, ⟨_, Heap.get?_push_size _ rfl, rfl, _, rfl⟩⟩
    have un := StX.un_laid (fs := frs outer) (s := s) (o := ({ cls := .type "tuple", data := .seq u2.toArray } : Obj)) (u := .tup rest) hn
    have z := h _ _ (ws ++ [V.ref s.heap.objs.size]) (u1 ++ [Value.ref s.heap.objs.size]) (StX.env0_laid e0 new) un rfl (fun e s' z => StX.cxUp outer s H _ _ E e s' un (fun b o q => Heap.get?_push_of_some _ q) (by rfl) z) (r1.append (.cons rfl .nil)) (by rw [List.length_append, List.length_append, hlw] <;> rfl) ⟨_, hn, rfl, rfl⟩
    rw [List.zip_append hl1.symm] at z
    exact z
  · subst ex eH
    have hlv : (ws ++ [V.ref p]).length ≤ N.length := by
      rw [List.length_append, hlw]
      exact hl
    have tk : Tk (cxR P w K mg base N q (defScope st) f cdv A outer s2 (upd H p (.tup rest)) E) (fun c d _ L' => drpE El c d L') := (takes_of rfl rfl rfl rfl).imp fun c d σ H' ⟨η, L', _, _, h', M, sb, z⟩ => he c d M H' (sb _ h') z
    exact ⟨WSs _ (defBody st), pss_W, body_end (X := cxR P w K mg base N q (defScope st) f cdv A outer s2 (upd H p (.tup rest)) E) hlv hq (hH.new hp) (body _ f cdv A outer s2 _ E _ _ Ql El rfl S.nd ⟨hr', guard_deeper hr.gd⟩ tk (hs p))⟩
theorem fn_starredX {x pv : Str} {st : Stmt} {N : List Str} {k : Nat} {sp : SpL} (F : Df K mg x st) (S : FnScope N [pv] (defScope st))
    (h0 : ∀ (kV doc pm : Value) (an : Option Addr) (cdv ct : Value), bindArgs (PySem.W.fnOf x x (defArgs st) (defBody st) (defScope st) .none kV doc pm an cdv ct) ⟨[], []⟩ = (newTuple [] >>= fun t => pure [(pv, t)]))
    (h1 : ∀ (kV doc pm : Value) (an : Option Addr) (cdv ct : Value) (r : Value) (rs : List Value), bindArgs (PySem.W.fnOf x x (defArgs st) (defBody st) (defScope st) .none kV doc pm an cdv ct) ⟨r :: rs, []⟩ = (newTuple (r :: rs) >>= fun t => pure [(pv, t)]))
    (hl : 1 ≤ N.length) (len : ∀ vs L Q E, sp vs L Q E → vs.length = 1) (body : BodyX P w K mg base N x st k sp) : Fn P w K mg base (L2.CX P w) x (k + 1) (spStar sp) := by
  obtain ⟨f, fd, hm, F⟩ := F
  refine ⟨f, hm, F.kp, (run_starredX (ps := []) F S (fun kV doc pm an cdv ct => bind_star0 (B := fun us => bindArgs (PySem.W.fnOf x x (defArgs st) (defBody st) (defScope st) .none kV doc pm an cdv ct) ⟨us, []⟩) (h0 kV doc pm an cdv ct) (h1 kV doc pm an cdv ct)) hl body len).imp fun vs H Q E ⟨L, Ql, El, hH, h, hq, he⟩ => ⟨L, Ql, El, hH, ⟨[], vs, rfl, rfl, h.1, h.2⟩, hq, he⟩⟩
end

/-! ### 24. try: .. except S as n: .. The error that was caught is tracked from there on -/
/-- an error that was caught, at a: its class, its dict -/
def excH (a : Addr) (cls : Value) (d : Option Addr) : HO := .ext fun h => ∃ (oe : Obj) (vs : Array Value), h.get? a = some oe ∧ Zc cls d oe ∧ oe.data = .fields vs
theorem excH_at {P : Program} {w : World} {H : Hp} {h : Heap} {a : Addr} {cls : Value} {d : Option Addr} (hok : HOk P w H h) (e : H a = some (excH a cls d)) : ∃ (oe : Obj) (vs : Array Value), h.get? a = some oe ∧ Zc cls d oe ∧ oe.data = .fields vs := by
  obtain ⟨z, _, _⟩ := hok a _ e
  exact z
/-- an object of the heap is tracked from now on -/
theorem track {X : Cx} {pins : List (Addr × Obj)} {σ : L2.St} {H : Hp} {s : Shared} {a : Addr} {cls : Value} {d : Option Addr} {oe : Obj} {vs : Array Value} (I : Inv X pins σ H s) (ha : s.heap.get? a = some oe) (z : Zc cls d oe) (hd : oe.data = .fields vs) (na : H a = none) (nL : a ≠ X.env.locals)
    (n0 : X.s_0.heap.get? a = none) (np : ∀ p ∈ X.pn ++ pins, p.1 ≠ a) : Inv X pins σ (upd H a (excH a cls d)) s := by
  have ub : ∀ {b : Addr} {o : HO}, H b = some o → upd H a (excH a cls d) b = some o := fun {b o} q => (upd_ne (ne_of_none q na)).trans q
  refine ⟨I.ok, I.os, I.bare, ⟨I.base.keep, I.base.slot, fun b o e n hq => ?_, I.base.there, fun b xs e => ub (I.base.tups b xs e), fun b o u e => ub (I.base.frzs b o u e), fun b ps e => ?_⟩, I.loc, I.cell, ?_, fun x c e => ?_, fun p hp => ?_, fun b u e => ?_, I.len⟩
  · rw [upd_ne fun y => by rw [y, n0] at e; cases e]
    exact I.base.free b o e n hq
  · obtain ⟨m, q⟩ := I.base.tbls b ps e
    exact ⟨m, ub q⟩
  · rw [upd_ne (Ne.symm nL)]
    exact I.free
  · obtain ⟨v, o, ho, hc⟩ := I.cell x c e
    rw [upd_ne fun y => by
      rw [y, ha] at ho
      cases ho
      rw [hd] at hc
      cases hc]
    exact I.freeC x c e
  · obtain ⟨e, n, r⟩ := I.pin p hp
    exact ⟨e, by rw [upd_ne (np p hp)]; exact n, r⟩
  · by_cases hb : b = a
    · subst hb
      rw [upd_same] at e
      cases e
      exact ⟨⟨oe, vs, ha, z, hd⟩, ⟨oe, ha⟩, fun _ _ ⟨o, v, q, r⟩ k => ⟨o, v, k o q, r⟩⟩
    · rw [upd_ne hb] at e
      exact (I.hok b u e).stay (fun _ _ _ q => q) (fun _ q => ub q) fun _ _ q => ub q
/-- the slot of a name is empty again -/
inductive Clr (x : Str) : En → En → Prop
  | here {o : Option V} {η : En} : Clr x ((x, o) :: η) ((x, none) :: η)
  | there {e : Str × Option V} {η θ : En} : Clr x η θ → Clr x (e :: η) (e :: θ)
theorem Clr.idx {x : Str} {η θ : En} (h : Clr x η θ) : ∃ i : Nat, (names η)[i]? = some x ∧ vals θ = (vals η).set i none ∧ names θ = names η := by
  induction h with
  | here => exact ⟨0, rfl, rfl, rfl⟩
  | there _ ih =>
    obtain ⟨i, a, b, c⟩ := ih
    refine ⟨i + 1, a, ?_, ?_⟩
    · show _ :: vals _ = _ :: (vals _).set i none
      rw [b] <;> rfl
    · show _ :: names _ = _ :: names _
      rw [c] <;> rfl
/-- where an except suite stands -/
abbrev suX (X : Cx) (a : Addr) : Cx := { X with A := X.A.mark (some (.ref a)), calm := false, xe := fun _ _ => False }
/-- where the body of a try stands -/
abbrev trX (X : Cx) (pn : List (Addr × Obj)) (xe : Value → Shared → Prop) : Cx := { X with pn := pn, xe := xe }
/-- what is wanted behind the suite: n is empty -/
def suD (n : Str) (D : GD) : GD := { nx := fun θ L => ∃ θ', Clr n θ θ' ∧ D.nx θ' L, rt := D.rt, bk := fun θ L => ∃ θ', Clr n θ θ' ∧ D.bk θ' L, ct := fun θ L => ∃ θ', Clr n θ θ' ∧ D.ct θ' L }
/-- what the clause makes of an error -/
def exW (X : Cx) (c : Value) (n : Str) (suite : List Stmt) (D : GD) (Wout : XW) : XW := fun cls d θ L => ∃ b, PySem.W.exmOne X.K cls c = some b ∧ (b = true → ∀ a, ∃ θ', Put n (.ref a) θ θ' ∧ GSs (suX X a) suite (suD n D) θ' ((a, excH a cls d) :: L)) ∧ (b = false → Wout cls d θ L)
section
variable {X : Cx} {η : En} {L : Lg} {D : GD} {Wout : XW} {x n : Str} {c : Value} {body suite : List Stmt} {b₀ : Stmt} {np pos pos' : Pos}
theorem gs_try_as (hc : Names X x c) (tk : Tk X Wout) (hb : ∀ (X' : Cx) (pn : List (Addr × Obj)) (xe : Value → Shared → Prop), X' = trX X pn xe → PassesOwn (model X'.prog X'.w) X'.A X'.env X'.xe → X'.N.Nodup → Tk X' (exW X c n (b₀ :: suite) D Wout) → GSs X' body D η L)
    (hi : n ∈ X.N) (hn : X.N.Nodup := by assumption) (hs : X.stack = X.env :: X.outer := by rfl) (hf : X.env.frame = some X.env.locals := by rfl) (hln : X.env.kindOf n = some .local := by rfl) (hex : X.ex = [] := by rfl) :
    GS X (.Try body [.ExceptHandler (some (.Name x np)) (some n) (b₀ :: suite) pos'] [] [] pos) D η L := fun hN H hH pins s I => by
  obtain ⟨i, hi⟩ := List.mem_iff_getElem?.mp hi
  have ok := I.ok
  have fr0 : X.A.frames = some (X.env :: X.outer) := by rw [ok.frames, hs]
  have fix : ∀ {m : Nat} {θ : En}, X.N = names θ → (names θ)[m]? = some n → m = i := fun {m θ} e1 e2 => idxU hn (by rw [e1]; exact e2) hi
  -- behind the suite: the name goes
  have goes : ∀ {a : Addr} {σ6 : L2.St} {H6 : Hp} {s6 : Shared} {Q : Shared → Prop}, Inv (suX X a) pins σ6 H6 s6 → (∀ s7, Inv X pins (σ6.set i none) H6 s7 → Q s7) → wpAny (model X.prog X.w) X.A (do bindName X.env n .none; unbindBehindTheSuite X.env n pos') (fun _ s7 => Q s7) X.xe s6 := fun {a σ6 H6 s6 Q} S6 hq =>
    gone_ok (X := X) ⟨ok, S6.os, S6.bare, S6.base, S6.loc, S6.cell, S6.free, S6.freeC, S6.pin, S6.hok, S6.len⟩ hn hi hln hq
  have clr : ∀ {Q : En → Lg → Prop} {σ6 : L2.St} {H6 : Hp} {a : Addr}, upS (suX X a) (fun θ L => ∃ θ', Clr n θ θ' ∧ Q θ' L) σ6 H6 → upS X Q (σ6.set i none) H6 := fun {Q σ6 H6 a} ⟨θ, M, n1, es, h1, θ', ck, q⟩ => by
    obtain ⟨m, m1, m2, m3⟩ := ck.idx
    have mi := fix n1 m1
    subst mi
    exact ⟨θ', M, by rw [m3]; exact n1, by rw [m2, es], h1, q⟩
  refine wpAny_Try_except (wpAny_mono (hb (trX X (X.pn ++ pins) (fun e s₁ => wpAny (model X.prog X.w) X.A (noteFrame e X.env) (fun _ s₂ => wpAny (model X.prog X.w) X.A (setFlight e none) (fun _ s₃ =>
    wpAny (model X.prog X.w) X.A (handleBy e X.env [.ExceptHandler (some (.Name x np)) (some n) (b₀ :: suite) pos']) (SP X pins (D.ends X)) X.xe s₃) X.xe s₂) X.xe s₁)) _ _ rfl PassesOwn.looking hn (fun u s' air => ?_) hN H hH [] s (I.toTry _)) (fun fl s1 z => ?_) fun e s1 z => z)
  · obtain ⟨a, B, sI, pins', σ', H', cls, d, rfl, Jt, nb, up, sky, na, os, ag, θ, M, nθ, rfl, hM, b, hb1, yes, no⟩ := air
    have J : Inv X pins (vals θ) H' sI := Jt.ofTry ok
    have sk : Sky B (X.env :: X.outer) a (Zc cls d) X.env.locals s'.heap := by rw [← hs]; exact sky
    show wpAny (model X.prog X.w) X.A (noteFrame (Value.ref a) X.env) _ _ _
    refine Sky.land Zc.steady fr0 hf sk fun g3 F3 u3 => ?_
    have J3 : Inv X pins (vals θ) H' { s' with heap := g3 } := J.landed nb F3.1 (up.trans u3) os ag
    obtain ⟨o3, v3, he3, hz3, hd3⟩ := F3.there
    have out : a ∉ frs (X.env :: X.outer) := fun hm => by
      obtain ⟨_, o', e', hnf⟩ := F3.2.2.1.mem hm
      rw [he3] at e'
      cases e'
      exact hnf _ hd3
    have nL : a ≠ X.env.locals := fun z => out (List.mem_filterMap.mpr ⟨X.env, List.mem_cons_self, by rw [hf, z]⟩)
    have nF : a ∉ X.fs := fun hm => by
      obtain ⟨e, he, q⟩ := List.mem_filterMap.mp hm
      exact out (List.mem_filterMap.mpr ⟨e, List.mem_cons_of_mem _ he, q⟩)
    have aI : sI.heap.get? a = none := by
      cases e : sI.heap.get? a with
      | none => rfl
      | some o =>
        have z := nb a o e (by rw [hs]; exact out)
        rw [F3.2.1] at z
        cases z
    have S3 := J3.suite he3 hd3 na nL nF
    refine wpAny_handleBy_cons (codeAny_handlers_test ?_) (by intro q; cases q)
    have LT : PySem.W.Looks (model X.prog X.w) g3 (typeOf (.ref a)) cls := fun A Q E s k q => wpAny_typeOf_ref (k _ _ he3) (by rw [hz3.1]; exact q)
    have LM := PySem.W.exm_one (M := model X.prog X.w) J3.kIn LT hb1
    have asks : ∀ {Q : Value → Shared → Prop} {E : Value → Shared → Prop}, Q c { s' with heap := g3 } → wpAny (model X.prog X.w) (X.A.mark (some (.ref a))) (eval (.Name x np) X.env) Q E { s' with heap := g3 } := fun {Q E} q => by
      obtain ⟨hg, hdbg, hm | ⟨hm, hv, hnn⟩⟩ := hc
      · exact ld_glob (X := X.suite a ((a, o3) :: (X.pn ++ pins))) S3 hg hm q hdbg
      · exact ld_blt (X := X.suite a ((a, o3) :: (X.pn ++ pins))) S3 hg hm hv q hnn hdbg
    refine asks (LM.here ?_)
    cases b with
    | true =>
      refine codeAny_handlers_suite_as (HandSPX.lands_againZ F3 fun g4 F4 u4 => ?_)
      have J4 : Inv X pins (vals θ) H' { s' with heap := g4 } := J.landed nb F4.1 ((up.trans u3).trans u4) os ag
      obtain ⟨o4, v4, he4, hz4, hd4⟩ := F4.there
      have n0 : X.s_0.heap.get? a = none := by
        cases e : X.s_0.heap.get? a with
        | none => rfl
        | some o =>
          obtain ⟨o', e'⟩ := J.base.there a o e (by rw [hex]; exact fun z => nomatch z)
          rw [aI] at e'
          cases e'
      have T4 := track (cls := cls) (d := d) J4 he4 hz4 hd4 na nL n0 fun p hp z => by
        obtain ⟨e, _⟩ := J.pin p hp
        rw [z, aI] at e
        cases e
      have S4 : Inv (suX X a) pins (vals θ) (upd H' a (excH a cls d)) { s' with heap := g4 } := ⟨ok.suite a X.pn, T4.os, T4.bare, T4.base, T4.loc, T4.cell, T4.free, T4.freeC, T4.pin, T4.hok, T4.len⟩
      obtain ⟨θ', pu, run⟩ := yes rfl a
      obtain ⟨m, m1, m2, m3⟩ := pu.idx
      have mi := fix nθ m1
      subst mi
      have N4 : (suX X a).N = names θ' := by rw [m3]; exact nθ
      refine store_ok (X := suX X a) (v := .ref a) S4 hn hi (.inl hln) rfl (fun s5 S5 => ?_) (.inr hln)
      rw [← m2] at S5
      refine wpAny_mono (run N4 _ (hM.new na) pins s5 S5) (fun fl s6 z => ?_) fun _ _ z => z.elim
      cases fl with
      | next => exact z.elim fun σ6 z => z.elim fun H6 z => goes z.1 fun s7 J7 => ⟨_, H6, J7, clr z.2⟩
      | brk => exact z.elim fun σ6 z => z.elim fun H6 z => goes z.1 fun s7 J7 => ⟨_, H6, J7, clr z.2⟩
      | cont => exact z.elim fun σ6 z => z.elim fun H6 z => goes z.1 fun s7 J7 => ⟨_, H6, J7, clr z.2⟩
      | ret u => exact z.elim fun v6 z => z.elim fun σ6 z => z.elim fun H6 z => goes z.1 fun s7 J7 => ⟨v6, _, H6, J7, z.2.1, z.2.2⟩
    | false =>
      show wpAny _ X.A (handleBy (Value.ref a) X.env []) _ _ _
      refine wpAny_handleBy_nil ?_
      obtain ⟨_, _, _, oe, vs, T, oT, ts', he, hz, hd, h1, _⟩ := id F3
      unfold PySem.passOn
      refine wpAny_bind (wpAny_field he hd h1 ?_)
      rw [if_neg (show ¬ ((Value.ref T == Value.none) = true) from by simp)]
      have on : wpAny (model X.prog X.w) X.A (setFlight (.ref a) X.env.frame) (fun _ s4 => wpAny (model X.prog X.w) X.A (throw (.ref a) : Sem Flow) (SP X pins (D.ends X)) X.xe s4) X.xe { s' with heap := g3 } := by
        rw [hf]
        refine HandSPX.setFlight_upZ F3 fun g4 hh4 u4 => wpAny_throw (tk _ _ ⟨a, B, sI, pins, vals θ, H', cls, d, rfl, J, nb, (up.trans u3).trans u4, .inr (.inr (by rw [hs]; exact hh4)), na, os, ag, θ, M, nθ, rfl, hM, no rfl⟩)
      first
        | exact wpAny_bind (wpAny_pure (wpAny_bind on))
        | exact wpAny_bind on
  · cases fl with
    | next => exact z.elim fun σ' z => z.elim fun H' z => wpAny_execs_nil ⟨σ', H', z.1.ofTry ok, z.2⟩
    | brk => exact z.elim fun σ' z => z.elim fun H' z => ⟨σ', H', z.1.ofTry ok, z.2⟩
    | cont => exact z.elim fun σ' z => z.elim fun H' z => ⟨σ', H', z.1.ofTry ok, z.2⟩
    | ret u => exact z.elim fun v z => z.elim fun σ' z => z.elim fun H' z => ⟨v, σ', H', z.1.ofTry ok, z.2.1, z.2.2⟩
end
end G

set_option Elab.async false
set_option linter.all false
set_option maxRecDepth 100000
set_option maxHeartbeats 4000000
/-! What is walked (for, comprehensions), over ledgers. -/
namespace G
open PySem PySem.Spec PyProof.Rows L2

/-! ### 30. Sources -/
/-- n turns; keep: what must stand at every turn; item: what comes at turn i, with the entries that come with it -/
structure Src where
  n : Nat
  keep : Lg → Prop
  item : Nat → V → Lg → Prop
structure SrcOk (J : It) (S : Src) : Prop where
  goes : ∀ i H M, i < S.n → Has H M → S.keep M → J.go i H
  stops : ∀ H M, Has H M → S.keep M → J.stop S.n H
  yields : ∀ i H x H' M, i < S.n → Has H M → S.keep M → J.yld i H x H' → ∃ E, S.item i x E ∧ Has H' (E ++ M)
theorem SrcOk.of {J : It} {n : Nat} {G : Hp → Prop} {Y : Nat → Hp → V → Hp → Prop} {keep : Lg → Prop} {item : Nat → V → Lg → Prop} (w : Walk J n G Y) (hg : ∀ H M, Has H M → keep M → G H)
    (hy : ∀ i H x H' M, i < n → Has H M → keep M → Y i H x H' → ∃ E, item i x E ∧ Has H' (E ++ M)) : SrcOk J ⟨n, keep, item⟩ :=
  ⟨fun i H M hi h k => w.goes i H hi (hg H M h k), fun H M h k => w.stops H (hg H M h k), fun i H x H' M hi h k y => hy i H x H' M hi h k (w.yields i H x H' hi (hg H M h k) y)⟩
def WI (X : Cx) (tg iter : Expr) : TI := fun σ H R => ∀ pins s, Inv X pins σ H s → wpAny (model X.prog X.w) X.A (eval iter X.env) (fun v s1 => wpAny (model X.prog X.w) X.A (pyIter v) (PIE X pins σ tg R) X.xe s1) X.xe s
theorem pi_W {X : Cx} {tg iter : Expr} : PI X tg iter (WI X tg iter) := ⟨fun pins s _ _ _ I h => h pins s I⟩
theorem WI.of {X : Cx} {tg iter : Expr} {wi : TI} {σ : L2.St} {H : Hp} {R : It → Hp → Prop} (h : PI X tg iter wi) (q : wi σ H R) : WI X tg iter σ H R := fun pins s I => h.run pins s σ H R I q
def GI (X : Cx) (tg iter : Expr) (η : En) (L : Lg) (Q : Src → Lg → Prop) : Prop := X.N = names η → ∀ H, Has H L → WI X tg iter (vals η) H fun J H1 => ∃ L1 S, Has H1 L1 ∧ SrcOk J S ∧ Q S L1
/-- one item of a list as it stands -/
def itemAt (xs : List V) : Nat → V → Lg → Prop := fun i x E => xs[i]? = some x ∧ E = []
def itemFn (f : Nat → V) : Nat → V → Lg → Prop := fun i x E => x = f i ∧ E = []
def itemPr (f g : Nat → Option V) : Nat → V → Lg → Prop := fun i v E => ∃ t x y, v = .ref t ∧ E = [(t, .tup [x, y])] ∧ f i = some x ∧ g i = some y
theorem y_at {xs : List V} {i : Nat} {H H' : Hp} {x : V} {M : Lg} (h : Has H M) (y : YAt xs i H x H') : ∃ E, itemAt xs i x E ∧ Has H' (E ++ M) := by
  obtain ⟨e, y⟩ := y
  subst e
  exact ⟨[], ⟨y, rfl⟩, h⟩
theorem y_fn {f : Nat → V} {i : Nat} {H H' : Hp} {x : V} {M : Lg} (h : Has H M) (y : YFn f i H x H') : ∃ E, itemFn f i x E ∧ Has H' (E ++ M) := by
  obtain ⟨e, y⟩ := y
  subst e
  exact ⟨[], ⟨y, rfl⟩, h⟩
theorem y_pr {f g : Nat → Option V} {i : Nat} {H H' : Hp} {x : V} {M : Lg} (h : Has H M) (y : YPair f g i H x H') : ∃ E, itemPr f g i x E ∧ Has H' (E ++ M) := by
  obtain ⟨T, u, v, e1, n, e2, e3, e4⟩ := y
  subst e1 e2
  exact ⟨[(T, .tup [u, v])], ⟨T, u, v, rfl, rfl, e3, e4⟩, h.new n⟩
/-- the list of xs at p stands in the ledger -/
def KeepL (p : Addr) (xs : List V) : Lg → Prop := fun M => (p, HO.lst xs) ∈ M
def KeepT (p : Addr) (xs : List V) : Lg → Prop := fun M => (p, HO.tup xs) ∈ M
section
variable {X : Cx} {η : En} {L : Lg} {Q : Src → Lg → Prop} {tg a b c e : Expr} {p pos : Pos}
theorem gi_list (h : GE X e η L fun v L1 => ∃ q xs, v = .ref q ∧ (q, HO.lst xs) ∈ L1 ∧ Q ⟨xs.length, KeepL q xs, itemAt xs⟩ L1) : GI X tg e η L Q := fun hN H hH =>
  WI.of (pi_list pe_W) (h.then hN hH fun v L1 H1 k1 ⟨q, xs, ev, m, z⟩ => ⟨q, ev, ⟨xs, sql k1 m⟩, L1, _, k1, SrcOk.of walk_list (fun H M hM k => sql hM k) (fun i H x H' M _ hM _ y => y_at hM y), z⟩)
theorem gi_tuple (h : GE X e η L fun v L1 => ∃ q xs, v = .ref q ∧ (q, HO.tup xs) ∈ L1 ∧ Q ⟨xs.length, KeepT q xs, itemAt xs⟩ L1) : GI X tg e η L Q := fun hN H hH =>
  WI.of (pi_tup pe_W) (h.then hN hH fun v L1 H1 k1 ⟨q, xs, ev, m, z⟩ => ⟨q, ev, ⟨xs, sqt k1 m⟩, L1, _, k1, SrcOk.of walk_tup (fun H M hM k => sqt hM k) (fun i H x H' M _ hM _ y => y_at hM y), z⟩)
theorem gi_str (h : GE X e η L fun v L1 => ∃ z : Str, v = .str z ∧ Q ⟨z.cps.size, fun _ => True, fun i v E => (∃ c, z.cps[i]? = some c ∧ v = .str ⟨#[c]⟩) ∧ E = []⟩ L1) : GI X tg e η L Q := fun hN H hH =>
  WI.of (pi_str pe_W) (h.then hN hH fun v L1 H1 k1 ⟨z, ev, q⟩ => ⟨z, ev, L1, _, k1, SrcOk.of walk_str (fun _ _ _ _ => True.intro) (fun i H x H' M _ hM _ y => ⟨[], ⟨y.2, rfl⟩, y.1 ▸ hM⟩), q⟩)
theorem gi_range1 (h : GA X [a] η L fun vs L1 => ∃ j : Int, vs = [.int j] ∧ (-(2 ^ 62) ≤ j ∧ j < 2 ^ 62) ∧ Q ⟨j.toNat, fun _ => True, itemFn fun i => .int (i : Int)⟩ L1) (hm : X.mg "range" = none) (hg : Gl X "range" := by rfl)
    (hs' : starEach [a] X.env = [(false, eval a X.env)] := by rfl) : GI X tg (.Call (.Name "range" p) [a] [] pos) η L Q := fun hN H hH =>
  WI.of (pi_range1 hg hm pa_W hs') (h.then hN hH fun vs L1 H1 k1 ⟨j, e1, bd, q⟩ => ⟨j, e1, bd.1, bd.2, L1, _, k1, SrcOk.of walk_range (fun _ _ _ _ => True.intro) (fun i H x H' M _ hM _ y => by
    obtain ⟨e, y⟩ := y
    subst e
    exact ⟨[], ⟨y.trans (congrArg V.int (Int.zero_add _)), rfl⟩, hM⟩), q⟩)
theorem gi_range2 (h : GA X [a, b] η L fun vs L1 => ∃ j k : Int, vs = [.int j, .int k] ∧ (-(2 ^ 62) ≤ j ∧ j < 2 ^ 62 ∧ -(2 ^ 62) ≤ k ∧ k < 2 ^ 62) ∧ Q ⟨(k - j).toNat, fun _ => True, itemFn fun i => .int (j + (i : Int))⟩ L1) (hm : X.mg "range" = none) (hg : Gl X "range" := by rfl)
    (hs' : starEach [a, b] X.env = [(false, eval a X.env), (false, eval b X.env)] := by rfl) (hs2 : starEach [b] X.env = [(false, eval b X.env)] := by rfl) : GI X tg (.Call (.Name "range" p) [a, b] [] pos) η L Q := fun hN H hH =>
  WI.of (pi_range2 hg hm pa_W hs' hs2) (h.then hN hH fun vs L1 H1 k1 ⟨j, k, e1, bd, q⟩ => ⟨j, k, e1, bd, L1, _, k1, SrcOk.of walk_range (fun _ _ _ _ => True.intro) (fun i H x H' M _ hM _ y => y_fn hM y), q⟩)
theorem gi_range3 (h : GA X [a, b, c] η L fun vs L1 => ∃ (i j k : Int) (n : Nat), vs = [.int i, .int j, .int k] ∧ RgC i j k n ∧ Q ⟨n, fun _ => True, itemFn fun t => .int (i + (t : Nat) * k)⟩ L1) (hm : X.mg "range" = none) (hg : Gl X "range" := by rfl)
    (hs' : starEach [a, b, c] X.env = (false, eval a X.env) :: starEach [b, c] X.env := by rfl) (hs2 : (backTo pos (starEach [b, c] X.env)).any (·.1) = false := by rfl) : GI X tg (.Call (.Name "range" p) [a, b, c] [] pos) η L Q := fun hN H hH =>
  WI.of (pi_range3 hg hm pa_W hs' hs2) (h.then hN hH fun vs L1 H1 k1 ⟨i, j, k, n, e1, bd, q⟩ => ⟨i, j, k, n, e1, bd, L1, _, k1, SrcOk.of walk_rangeC (fun _ _ _ _ => True.intro) (fun i H x H' M _ hM _ y => y_fn hM y), q⟩)
theorem gi_enum {elts : List Expr} {kk : Nat} {tpos : Pos} (h : GA X [e] η L fun vs L1 => ∃ q xs, vs = [.ref q] ∧ (q, HO.lst xs) ∈ L1 ∧ Q ⟨xs.length, KeepL q xs, itemPr (fun i => some (.int (i : Nat))) (fun i => xs[i]?)⟩ L1) (hm : X.mg "enumerate" = none) (hg : Gl X "enumerate" := by rfl)
    (hs' : starEach [e] X.env = [(false, eval e X.env)] := by rfl) : GI X (.Tuple elts kk tpos) (.Call (.Name "enumerate" p) [e] [] pos) η L Q := fun hN H hH =>
  WI.of (pi_enum hg hm pa_W hs') (h.then hN hH fun vs L1 H1 k1 ⟨q, xs, e1, m, z⟩ => ⟨q, xs, e1, sql k1 m, L1, _, k1, SrcOk.of walk_enum (fun H M hM k => sql hM k) (fun i H x H' M _ hM _ y => y_pr hM y), z⟩)
theorem gi_zip {elts : List Expr} {kk : Nat} {tpos : Pos} (h : GA X [e, a] η L fun vs L1 => ∃ q r xs ys, vs = [.ref q, .ref r] ∧ (q, HO.lst xs) ∈ L1 ∧ (r, HO.lst ys) ∈ L1 ∧ Q ⟨min xs.length ys.length, fun M => (q, HO.lst xs) ∈ M ∧ (r, HO.lst ys) ∈ M, itemPr (fun i => xs[i]?) (fun i => ys[i]?)⟩ L1) (hm : X.mg "zip" = none) (hg : Gl X "zip" := by rfl)
    (hs' : starEach [e, a] X.env = (false, eval e X.env) :: starEach [a] X.env := by rfl) (hpl : (backTo pos (starEach [a] X.env)).any (·.1) = false := by rfl) : GI X (.Tuple elts kk tpos) (.Call (.Name "zip" p) [e, a] [] pos) η L Q := fun hN H hH =>
  WI.of (pi_zip hg hm pa_W hs' hpl) (h.then hN hH fun vs L1 H1 k1 ⟨q, r, xs, ys, e1, m1, m2, z⟩ => ⟨q, r, xs, ys, e1, sql k1 m1, sql k1 m2, L1, _, k1, SrcOk.of (walk_zip rfl) (fun H M hM k => ⟨sql hM k.1, sql hM k.2⟩) (fun i H x H' M _ hM _ y => y_pr hM y), z⟩)
end

/-! ### 31. for -/
structure LoopS (X : Cx) (tg : Expr) (body : List Stmt) (D : GD) (S : Src) (η : En) (L : Lg) (Pv : Nat → En → Lg → Prop) : Prop where
  h0 : Pv 0 η L
  kp : ∀ i θ M, i ≤ S.n → (M.map (·.1)).Nodup → Pv i θ M → S.keep M
  hs : ∀ i x E θ M, i < S.n → S.item i x E → Pv i θ M → GG X tg x θ (E ++ M) fun θ' M' => GSs X body { nx := Pv (i + 1), rt := D.rt, bk := D.nx, ct := Pv (i + 1) } θ' M'
  hd : ∀ θ M, Pv S.n θ M → D.nx θ M
section
variable {X : Cx} {η : En} {L : Lg} {tg iter : Expr} {body : List Stmt} {pos : Pos} {D : GD}
theorem gs_for (h : GI X tg iter η L fun S L1 => ∃ Pv, LoopS X tg body D S η L1 Pv) (hp : PassesOwn (model X.prog X.w) X.A X.env X.xe := by first | exact PassesOwn.never | exact passes_of rfl | assumption) (hc : X.calm = true := by rfl)
    (hs : ∀ x, foldedSetIterable iter X.env x = pure x := by intro _; rfl) : GS X (.For tg iter body [] pos) D η L := fun hN H hH =>
  WS.of (ps_for hp hc pi_W pg_W pss_W hs) (by
    intro pins s I
    refine wpAny_mono (h hN H hH pins s I) (fun v s1 z => wpAny_mono z (fun itv s2 z2 => ?_) fun _ _ z => z) fun _ _ z => z
    obtain ⟨it, fp, tn, J, H1, ev, I2, T, t0, f2, L1, S, k1, ok, Pv, l⟩ := z2
    refine ⟨it, fp, tn, J, H1, ev, I2, T, t0, f2, ?_⟩
    refine ⟨fun i m σ H => m = S.n - i ∧ i ≤ S.n ∧ upS X (Pv i) σ H, ⟨S.n, by simp, Nat.zero_le _, η, L1, hN, rfl, k1, l.h0⟩, ?_⟩
    rintro i m σ H ⟨rfl, hi, θ, M, n1, es, h1, q1⟩
    have kk := l.kp i θ M hi h1.1 q1
    by_cases hlt : i < S.n
    · refine .inr ⟨ok.goes i H M hlt h1 kk, upS X (Pv (i + 1)), fun σ' H' p' => ⟨S.n - (i + 1), by omega, rfl, hlt, p'⟩, fun x H' y => ?_⟩
      obtain ⟨E, it', h2⟩ := ok.yields i H x H' M hlt h1 kk y
      rw [es]
      exact (l.hs i x E θ M hlt it' q1).then n1 h2 fun θ' M' H2 n2 h2 q2 => q2 n2 H2 h2
    · have e : i = S.n := by omega
      subst e
      exact .inl ⟨ok.stops H M h1 kk, θ, M, n1, es, h1, l.hd θ M q1⟩)
end

/-! ### 32. Comprehensions -/
def GTs (X : Cx) (ifs : List Expr) (η : En) (L : Lg) (Q : Bool → Lg → Prop) : Prop := match ifs with
  | [] => Q true L
  | [c] => GT X c η L Q
  | _ => False
def WTs (X : Cx) (ifs : List Expr) : TT := match ifs with
  | [] => tYes
  | [c] => WT X c
  | _ => fun _ _ _ => False
theorem pts_W {X : Cx} {ifs : List Expr} : PTs X ifs (WTs X ifs) := by
  match ifs with
  | [] => exact pts_nil
  | [c] => exact pts_one pt_W
  | _ :: _ :: _ => exact ⟨fun _ _ _ _ _ _ h => h.elim⟩
theorem GTs.then {X : Cx} {ifs : List Expr} {η : En} {L : Lg} {Q : Bool → Lg → Prop} {Q' : Bool → Hp → Prop} (h : GTs X ifs η L Q) (hN : X.N = names η) {H : Hp} (hH : Has H L) (m : ∀ b L1 H1, Has H1 L1 → Q b L1 → Q' b H1) : WTs X ifs (vals η) H Q' := by
  match ifs, h with
  | [], h => exact m true L H hH h
  | [c], h => exact GT.then h hN hH m
/-- the block of a comprehension -/
abbrev blkX (X : Cx) (s : Shared) (H : Hp) (scope : Scope) (C : Addr) (cl : List (Str × Addr)) (fp : List Addr) : Cx := X.blk s H scope (compEnvC scope cl C X.env) fp
/-- one turn of a comprehension: the item stands in θ; B: the block's contexts -/
abbrev AllBlk (X : Cx) (scope : Scope) (φ : Cx → Prop) : Prop := ∀ (s : Shared) (H : Hp) (C : Addr) (cl : List (Str × Addr)) (fp : List Addr), φ (blkX X s H scope C cl fp)
abbrev LocB (X : Cx) (scope : Scope) (x : Str) : Prop := AllBlk X scope fun B => Loc B.env.scope x ∧ (B.fn x = true ∨ B.env.scope.names.lookup x = some .local)
theorem idxEq {N : List Str} (hn : N.Nodup) {i : Nat} {x : Str} (h : N[i]? = some x) : N.idxOf x = i := idxU hn (by
  have m := List.idxOf_lt_length_of_mem (List.mem_of_getElem? h)
  rw [List.getElem?_eq_getElem m, List.getElem_idxOf m]) h
def LcTurn (X : Cx) (scope : Scope) (ifs : List Expr) (elt : Expr) (D : Addr) (Nx : Lg → Prop) (θ : En) (M : Lg) : Prop :=
  AllBlk X scope fun B => GTs B ifs θ M fun b M1 => if b = true then AllBlk X scope fun B => GE B elt θ M1 fun y M2 => ∃ acc M3, (D, HO.lst acc) ∈ M2 ∧ acc.length < sizeLine ∧ Swap D (.lst (acc ++ [y])) M2 M3 ∧ Nx M3 else Nx M1
structure LcS (X : Cx) (scope : Scope) (ifs : List Expr) (elt : Expr) (S : Src) (D : Addr) (L : Lg) (st : V → Lg → (En → Lg → Prop) → Prop) (Pv : Nat → Lg → Prop) (Q : QV) : Prop where
  h0 : Pv 0 ((D, .lst []) :: L)
  kp : ∀ i M, i ≤ S.n → (M.map (·.1)).Nodup → Pv i M → S.keep M
  hs : ∀ i x E M, i < S.n → S.item i x E → ((E ++ M).map (·.1)).Nodup → Pv i M → st x (E ++ M) fun θ M' => LcTurn X scope ifs elt D (Pv (i + 1)) θ M'
  hd : ∀ M, Pv S.n M → Q (.ref D) M
theorem wipe_one {σ : L2.St} {i : Nat} {v : Option V} : wipe (σ.set i v) [i] = wipe σ [i] := by
  show (σ.set i v).set i none = σ.set i none
  rw [List.set_set]
def teB (X : Cx) (scope : Scope) (elt : Expr) : TE := fun σ H q => AllBlk X scope fun B => WE B elt σ H q
def ttB (X : Cx) (scope : Scope) (ifs : List Expr) : TT := fun σ H q => AllBlk X scope fun B => WTs B ifs σ H q
theorem pe_teB {X : Cx} {scope : Scope} {elt : Expr} (s : Shared) (H : Hp) (C : Addr) (cl : List (Str × Addr)) (fp : List Addr) : PE (blkX X s H scope C cl fp) elt (teB X scope elt) := ⟨fun pins s1 σ H1 Q I h => h s H C cl fp pins s1 I⟩
theorem pts_ttB {X : Cx} {scope : Scope} {ifs : List Expr} (s : Shared) (H : Hp) (C : Addr) (cl : List (Str × Addr)) (fp : List Addr) : PTs (blkX X s H scope C cl fp) ifs (ttB X scope ifs) := ⟨fun pins s1 σ H1 Q I h => pts_W.run pins s1 σ H1 Q I (h s H C cl fp)⟩
section
variable {X : Cx} {η : En} {L : Lg} {elt iter tg : Expr} {ifs : List Expr} {scope : Scope} {pos p1 p2 p3 : Pos} {x y : Str} {f : V → En} {Q : QV}
/-- what the library's comprehension asks, from ours -/
theorem lc_core' {g : TG} {vs : List Nat} {st : V → Lg → (En → Lg → Prop) → Prop} (nη : X.N = names η) {H : Hp} (hH : Has H L) {Qh : VK} (hq : ∀ D M H', Has H' M → Q (.ref D) M → Qh (.ref D) H')
    (hst : ∀ v M H' k Qk, Has H' M → st v M k → (∀ θ M' H2, X.N = names θ → Has H2 M' → k θ M' → wipe (vals θ) vs = wipe (vals η) vs → Qk (vals θ) H2) → g v (wipe (vals η) vs) H' Qk)
    (h : GI X tg iter η L fun S L1 => ∀ D, ∃ Pv, LcS X scope ifs elt S D L1 st Pv Q) : tLc (WI X tg iter) g (ttB X scope ifs) (teB X scope elt) vs (vals η) H Qh := by
  intro pins s I
  refine wpAny_mono (h nη H hH pins s I) (fun v s1 z => wpAny_mono z (fun itv s2 z2 => ?_) fun _ _ z => z) fun _ _ z => z
  obtain ⟨it, fp, tn, J, H1, ev, I2, T, t0, f2, L1, S, k1, ok, l⟩ := z2
  refine ⟨it, fp, tn, J, H1, ev, I2, T, t0, f2, fun D nD => ?_⟩
  obtain ⟨Pv, l⟩ := l D
  refine ⟨fun i m H => m = S.n - i ∧ i ≤ S.n ∧ ∃ M, Has H M ∧ Pv i M, ⟨S.n, by simp, Nat.zero_le _, _, k1.new nD, l.h0⟩, ?_⟩
  rintro t m H2 ⟨rfl, hi2, M, h3, q1⟩
  have kk := l.kp t M hi2 h3.1 q1
  by_cases hlt : t < S.n
  · refine .inr ⟨ok.goes t H2 M hlt h3 kk, fun H' => ∃ M, Has H' M ∧ Pv (t + 1) M, fun H' p' => ⟨S.n - (t + 1), by omega, rfl, hlt, p'⟩, fun v H3 y => ?_⟩
    obtain ⟨E, it', h4⟩ := ok.yields t H2 v H3 M hlt h3 kk y
    refine hst v (E ++ M) H3 _ _ h4 (l.hs t v E M hlt it' h4.1 q1) fun θ M' H5 nθ h5 q2 ew => ⟨ew, fun s' H' C cl fp => ?_⟩
    refine (q2 s' H' C cl fp).then nθ h5 fun b M1 H6 h6 q3 => ?_
    cases b with
    | true =>
      rw [if_pos rfl] at q3 ⊢
      refine fun s' H' C cl fp => (q3 s' H' C cl fp).then nθ h6 fun y M2 H7 h7 q4 => ?_
      obtain ⟨acc, M3, m2, z, sw, q5⟩ := q4
      exact ⟨acc, h7.get m2, z, M3, h7.swap sw, q5⟩
    | false =>
      rw [if_neg Bool.false_ne_true] at q3 ⊢
      exact ⟨M1, h6, q3⟩
  · have e : t = S.n := by omega
    subst e
    exact .inl ⟨ok.stops H2 M h3 kk, hq D M H2 h3 (l.hd M q1)⟩
/-- the store of the item: one name -/
theorem st_one {i : Nat} (P : PutF x η f) (hi : X.N[i]? = some x) (hN : X.N.Nodup) (nη : X.N = names η) : ∀ (v : V) (M : Lg) (H' : Hp) (k : En → Lg → Prop) (Qk : L2.St → Hp → Prop), Has H' M → k (f v) M → (∀ θ M' H2, X.N = names θ → Has H2 M' → k θ M' → wipe (vals θ) [i] = wipe (vals η) [i] → Qk (vals θ) H2) → gName i v (wipe (vals η) [i]) H' Qk := fun v M H' k Qk hM q hk => by
  obtain ⟨j, h1, h2⟩ := P.idx
  have ij : i = j := idxU hN hi (by rw [nη]; exact h1)
  subst ij
  have e1 : (wipe (vals η) [i]).set i (some v) = vals (f v) := by
    rw [(h2 v).1]
    show ((vals η).set i none).set i (some v) = _
    rw [List.set_set]
  have z := hk (f v) M H' (by rw [(h2 v).2]; exact nη) hM q (by rw [(h2 v).1]; exact wipe_one)
  show Qk ((wipe (vals η) [i]).set i (some v)) H'
  rw [e1]
  exact z
/-- [elt for x in iter if ..], as a value -/
theorem ge_lc1 (P : PutF x η f) (h : GI X (.Name x p1) iter η L fun S L1 => ∀ D, ∃ Pv, LcS X scope ifs elt S D L1 (fun v M k => k (f v) M) Pv Q) (hb : blkC X.N X.env.scope scope [(x, X.N.idxOf x)] = true) (hlx : LocB X scope x := by exact fun _ _ _ _ _ => ⟨.inl rfl, .inr rfl⟩)
    (hN : X.N.Nodup := by assumption) (hc : X.calm = true := by rfl) (hs : ∀ z, foldedSetIterable iter X.env z = pure z := by intro _; rfl) : GE X (.ListComp elt [⟨.Name x p1, iter, ifs, 0⟩] scope pos) η L Q := fun nη H hH => by
  obtain ⟨i, h1, _⟩ := P.idx
  have hi : X.N[i]? = some x := by rw [nη]; exact h1
  exact WE.of (pe_lc (own := [(x, i)]) hc hN pi_W (blkOk_by (by rw [idxEq hN hi] at hb; exact hb)) (fun s H C cl fp => pg_name (X := blkX X s H scope C cl fp) hN hi (hlx s H C cl fp).1 (hlx s H C cl fp).2) pts_ttB pe_teB hs)
    (lc_core' (Qh := up Q) nη hH (fun D M H' hM q => ⟨M, hM, q⟩) (st_one P hi hN nη) h)
/-- y = [elt for x in iter if ..] -/
theorem gs_lc1 {D : GD} {fy : V → En} {py : Pos} (Py : PutF y η fy) (P : PutF x η f) (h : GI X (.Name x p1) iter η L fun S L1 => ∀ d, ∃ Pv, LcS X scope ifs elt S d L1 (fun v M k => k (f v) M) Pv fun v M => D.nx (fy v) M) (hb : blkC X.N X.env.scope scope [(x, X.N.idxOf x)] = true) (hlx : LocB X scope x := by exact fun _ _ _ _ _ => ⟨.inl rfl, .inr rfl⟩)
    (hyl : X.env.scope.names.lookup y = some .local := by rfl) (hsw : swapsWith (.ListComp elt [⟨.Name x p1, iter, ifs, 0⟩] scope pos) (some (.Name y py)) p3.line X.env = pure true := by rfl)
    (hN : X.N.Nodup := by assumption) (hc : X.calm = true := by rfl) (hs : ∀ z, foldedSetIterable iter X.env z = pure z := by intro _; rfl) : GS X (.Assign [.Name y py] (.ListComp elt [⟨.Name x p1, iter, ifs, 0⟩] scope pos) p3) D η L := fun nη H hH => by
  obtain ⟨i, h1, _⟩ := P.idx
  obtain ⟨j, k1, k2⟩ := Py.idx
  have hi : X.N[i]? = some x := by rw [nη]; exact h1
  have hj : X.N[j]? = some y := by rw [nη]; exact k1
  refine WS.of (ps_setLc (own := [(x, i)]) hc hN hj hyl hsw pi_W (blkOk_by (by rw [idxEq hN hi] at hb; exact hb)) (fun s H C cl fp => pg_name (X := blkX X s H scope C cl fp) hN hi (hlx s H C cl fp).1 (hlx s H C cl fp).2) pts_ttB pe_teB hs) ?_
  refine lc_core' (Qh := fun v H1 => gName j v (vals η) H1 (D.ends X).nx) nη hH (fun d M H' hM q => ?_) (st_one P hi hN nη) h
  show upS X D.nx ((vals η).set j (some (.ref d))) H'
  exact ⟨fy (.ref d), M, by rw [(k2 _).2]; exact nη, (k2 _).1.symm, hM, q⟩
theorem wipe_two {σ : L2.St} {i j : Nat} (ne : i ≠ j) {a b : Option V} : ((wipe σ [i, j]).set i a).set j b = (σ.set i a).set j b ∧ wipe ((σ.set i a).set j b) [i, j] = wipe σ [i, j] := by
  refine ⟨?_, ?_⟩
  · show ((((σ.set j none).set i none).set i a).set j b) = _
    rw [List.set_set, List.set_comm _ _ ne, List.set_set, List.set_comm _ _ (Ne.symm ne)]
  · show ((((σ.set i a).set j b).set j none).set i none) = (σ.set j none).set i none
    rw [List.set_set, List.set_comm _ _ ne, List.set_set, List.set_comm _ _ (Ne.symm ne)]
/-- the store of an item: a pair's two names -/
theorem st_two {K : PySem.W.Frag} {g : V → V → En} {i j : Nat} (P : PutF x η f) (R : ∀ v, PutF y (f v) (g v)) (hi : X.N[i]? = some x) (hj : X.N[j]? = some y) (ne : i ≠ j) (hN : X.N.Nodup) (nη : X.N = names η) :
    ∀ (v : V) (M : Lg) (H' : Hp) (k : En → Lg → Prop) (Qk : L2.St → Hp → Prop), Has H' M → (∃ p a b, v = .ref p ∧ (p, HO.tup [a, b]) ∈ M ∧ k (g a b) M) → (∀ θ M' H2, X.N = names θ → Has H2 M' → k θ M' → wipe (vals θ) [i, j] = wipe (vals η) [i, j] → Qk (vals θ) H2) →
      gTup K 2 (gCons (gName i) (gCons (gName j) gNil)) v (wipe (vals η) [i, j]) H' Qk := fun v M H' k Qk hM ⟨p, a, b, ev, m, q⟩ hk => by
  have nf : ∀ v, X.N = names (f v) := fun v => by
    obtain ⟨_, _, h2⟩ := P.idx
    rw [(h2 v).2]
    exact nη
  have e1 : vals (f a) = (vals η).set i (some a) := (P.at hN nη hi a).1
  have e2 : vals (g a b) = (vals (f a)).set j (some b) := ((R a).at hN (nf a) hj b).1
  have nθ : X.N = names (g a b) := (nf a).trans ((R a).at hN (nf a) hj b).2.symm
  have e3 : vals (g a b) = ((vals η).set i (some a)).set j (some b) := by rw [e2, e1]
  refine ⟨p, [a, b], ev, sqt hM m, rfl, a, [b], rfl, b, [], rfl, rfl, ?_⟩
  have z := hk (g a b) M H' nθ hM q (by rw [e3]; exact (wipe_two ne).2)
  rw [e3] at z
  show Qk (((wipe (vals η) [i, j]).set i (some a)).set j (some b)) H'
  rw [(wipe_two ne).1]
  exact z
theorem pg_pair {i j : Nat} {kt : Nat} {pt : Pos} (hc : X.calm = true) (hN : X.N.Nodup) (hi : X.N[i]? = some x) (hj : X.N[j]? = some y) (hlx : LocB X scope x) (hly : LocB X scope y) :
    ∀ (s : Shared) (H : Hp) (C : Addr) (cl : List (Str × Addr)) (fp : List Addr), PG (blkX X s H scope C cl fp) (.Tuple [.Name x p1, .Name y p2] kt pt) (gTup X.K 2 (gCons (gName i) (gCons (gName j) gNil))) := fun s H C cl fp =>
  pg_tup (X := blkX X s H scope C cl fp) (n := 2) hc (pgs_cons (pg_name hN hi (hlx s H C cl fp).1 (hlx s H C cl fp).2) (pgs_cons (pg_name hN hj (hly s H C cl fp).1 (hly s H C cl fp).2) pgs_nil)) rfl rfl
/-- [elt for x, y in iter if ..], as a value -/
theorem ge_lc2 {g : V → V → En} {kt : Nat} {pt : Pos} (P : PutF x η f) (R : ∀ v, PutF y (f v) (g v)) (h : GI X (.Tuple [.Name x p1, .Name y p2] kt pt) iter η L fun S L1 => ∀ D, ∃ Pv, LcS X scope ifs elt S D L1 (fun v M k => ∃ p a b, v = .ref p ∧ (p, HO.tup [a, b]) ∈ M ∧ k (g a b) M) Pv Q)
    (hxy : x ≠ y) (hb : blkC X.N X.env.scope scope [(x, X.N.idxOf x), (y, X.N.idxOf y)] = true) (hlx : LocB X scope x := by exact fun _ _ _ _ _ => ⟨.inl rfl, .inr rfl⟩) (hly : LocB X scope y := by exact fun _ _ _ _ _ => ⟨.inl rfl, .inr rfl⟩)
    (hN : X.N.Nodup := by assumption) (hc : X.calm = true := by rfl) (hs : ∀ z, foldedSetIterable iter X.env z = pure z := by intro _; rfl) : GE X (.ListComp elt [⟨.Tuple [.Name x p1, .Name y p2] kt pt, iter, ifs, 0⟩] scope pos) η L Q := fun nη H hH => by
  obtain ⟨i, h1, h2⟩ := P.idx
  have hi : X.N[i]? = some x := by rw [nη]; exact h1
  obtain ⟨j, k1, _⟩ := (R .non).idx
  have hj : X.N[j]? = some y := by
    rw [(h2 .non).2] at k1
    rw [nη]
    exact k1
  have ne : i ≠ j := fun z => hxy (by rw [z, hj] at hi; exact (Option.some.inj hi).symm)
  exact WE.of (pe_lc (own := [(x, i), (y, j)]) hc hN pi_W (blkOk_by (by rw [idxEq hN hi, idxEq hN hj] at hb; exact hb)) (pg_pair hc hN hi hj hlx hly) pts_ttB pe_teB hs)
    (lc_core' (Qh := up Q) nη hH (fun D M H' hM q => ⟨M, hM, q⟩) (st_two P R hi hj ne hN nη) h)
theorem gs_lc2 {D : GD} {fy : V → En} {z : Str} {pz : Pos} {g : V → V → En} {kt : Nat} {pt : Pos} (Pz : PutF z η fy) (P : PutF x η f) (R : ∀ v, PutF y (f v) (g v)) (h : GI X (.Tuple [.Name x p1, .Name y p2] kt pt) iter η L fun S L1 => ∀ d, ∃ Pv, LcS X scope ifs elt S d L1 (fun v M k => ∃ p a b, v = .ref p ∧ (p, HO.tup [a, b]) ∈ M ∧ k (g a b) M) Pv fun v M => D.nx (fy v) M)
    (hxy : x ≠ y) (hb : blkC X.N X.env.scope scope [(x, X.N.idxOf x), (y, X.N.idxOf y)] = true) (hlx : LocB X scope x := by exact fun _ _ _ _ _ => ⟨.inl rfl, .inr rfl⟩) (hly : LocB X scope y := by exact fun _ _ _ _ _ => ⟨.inl rfl, .inr rfl⟩)
    (hzl : X.env.scope.names.lookup z = some .local := by rfl) (hsw : swapsWith (.ListComp elt [⟨.Tuple [.Name x p1, .Name y p2] kt pt, iter, ifs, 0⟩] scope pos) (some (.Name z pz)) p3.line X.env = pure true := by rfl)
    (hN : X.N.Nodup := by assumption) (hc : X.calm = true := by rfl) (hs : ∀ z, foldedSetIterable iter X.env z = pure z := by intro _; rfl) : GS X (.Assign [.Name z pz] (.ListComp elt [⟨.Tuple [.Name x p1, .Name y p2] kt pt, iter, ifs, 0⟩] scope pos) p3) D η L := fun nη H hH => by
  obtain ⟨i, h1, h2⟩ := P.idx
  have hi : X.N[i]? = some x := by rw [nη]; exact h1
  obtain ⟨j, k1, _⟩ := (R .non).idx
  have hj : X.N[j]? = some y := by
    rw [(h2 .non).2] at k1
    rw [nη]
    exact k1
  have ne : i ≠ j := fun z => hxy (by rw [z, hj] at hi; exact (Option.some.inj hi).symm)
  obtain ⟨l, l1, l2⟩ := Pz.idx
  have hl : X.N[l]? = some z := by rw [nη]; exact l1
  refine WS.of (ps_setLc (own := [(x, i), (y, j)]) hc hN hl hzl hsw pi_W (blkOk_by (by rw [idxEq hN hi, idxEq hN hj] at hb; exact hb)) (pg_pair hc hN hi hj hlx hly) pts_ttB pe_teB hs) ?_
  refine lc_core' (Qh := fun v H1 => gName l v (vals η) H1 (D.ends X).nx) nη hH (fun d M H' hM q => ?_) (st_two P R hi hj ne hN nη) h
  show upS X D.nx ((vals η).set l (some (.ref d))) H'
  exact ⟨fy (.ref d), M, by rw [(l2 _).2]; exact nη, (l2 _).1.symm, hM, q⟩
end
end G

set_option Elab.async false
set_option linter.all false
set_option maxRecDepth 100000
set_option maxHeartbeats 4000000
/-! Errors as values: isinstance, fields. -/
namespace G
open PySem PySem.Spec PyProof.Rows L2
open PySem.W in
/-- what an own error class says of its instances -/
structure ErV (K : Frag) (D : Addr) : Prop where
  ga : findIn K (.ref D) "__getattribute__" = some (some (.builtin "BaseException.__getattribute__"))
  gt : findIn K (.ref D) "__getattr__" = some none
  ex : subIn K (.ref D) (.type "BaseException") = some true
  hd : hasDictIn K D = true
  cl : findIn K (.ref D) "__class__" = some (some (.builtin "object.__class__"))
  sp : specialIn K (.builtin "object.__class__") "__get__" = some (some (.builtin "getset_descriptor.__get__"))
  tk : takesIn K (.builtin "object.__class__") = some true
  mo : mroIn K D (.type "object") = some true
section
open PySem.W
variable {prog : Program} {w : World} {A : Around} {E : Value → Shared → Prop} {s : Shared} {K : Frag} {x D : Addr} {ox : Obj} {od : Option Obj}
theorem ErV.find (T : ErV K D) : findObj K D od "__class__" = some (.bind (.builtin "getset_descriptor.__get__") (.builtin "object.__class__")) := by
  obtain ⟨cd, hc, _⟩ := any_some T.hd
  unfold findObj
  rw [hc, Option.bind_some, T.cl, Option.bind_some]
  simp [T.sp, T.tk]
/-- its __class__ -/
theorem ErV.cls (T : ErV K D) {Q : Option Value → Shared → Prop} (X : K.In s.heap) (I : InstAt s.heap x ox D od) (h : Q (some (.ref D)) { s with toks := s.toks + 1 }) : wpAny (model prog w) A (getAttr? (.ref x) "__class__") Q E s := by
  obtain ⟨hh, gg, dd, tt, oo⟩ := s
  have ty := I.type (M := model prog w)
  have lga := looks_findIn (M := model prog w) X T.ga
  have lgt := looks_findIn (M := model prog w) X T.gt
  have lfi := looks_find (M := model prog w) X I T.find
  have isb : Looks (model prog w) hh (isInstance (.ref x) (.type "BaseException")) true := ty.andThen (looks_subIn X T.ex)
  have no : (Value.builtin "BaseException.__getattribute__" == Value.builtin "object.__getattribute__") = false := by decide +kernel
  have no2 : (onTheHeap (Value.ref D) && Value.builtin "BaseException.__getattribute__" == Value.builtin "object.__getattribute__") = false := by
    rw [no]
    rfl
  have no3 : (false && onTheHeap (Value.builtin "BaseException.__getattribute__")) = false := rfl
  unfold getAttr? getAttrBy? getAttrBy
  refine wpAny_bind (wpAny_mkText (wpAny_bind (wpAny_attempt (wpAny_holding (wpAny_bind (ty.at (wpAny_bind (lga.at ?_))))))))
  show wpAny _ _ (if (onTheHeap (Value.ref D) && Value.builtin "BaseException.__getattribute__" == Value.builtin "object.__getattribute__") = true then _ else _) _ _ _
  rw [no2, if_neg Bool.false_ne_true]
  unfold getAttrByItsOwn hookBefore
  refine wpAny_bind ?_
  rw [if_pos (show onTheHeap (Value.ref D) = true from rfl)]
  refine lgt.at (wpAny_bind (wpAny_attempt (wpAny_holding ?_)))
  unfold callGetattribute
  rw [no3, if_neg Bool.false_ne_true]
  unfold boundAndCalled
  rw [PySem.F.excAttr_ValueError.ga.bind (.ref x)]
  refine wpAny_bind (wpAny_pure ?_)
  show wpAny _ _ (call (.builtin "BaseException.__getattribute__") [.ref x, .str "__class__" tt]) _ _ _
  refine wpAny_call (codeAny_call_builtin PySem.F.excAttr_ValueError.ga.plain PySem.F.entry_bexc_ga (@check_slot (model prog w) _ _ ⟨hh, gg, dd, tt + 1, oo⟩ "BaseException.__getattribute__" "BaseException" "__getattribute__" (.ref x) [.str "__class__" tt] [] _ (by decide +kernel) (by decide +kernel) isb (PySem.F.args_bexc_ga (.ref x) (.str "__class__" tt)) ?_))
  unfold Builtin.«object.__getattribute__»
  refine wpAny_bind (wpAny_of_eq (a := ((Value.ref x : Value), [Value.str "__class__" tt])) (by first | rfl | (simp only [slotArgs]; rfl)) (wpAny_bind (wpAny_pure (wpAny_bind (ty.at (wpAny_bind (lfi.at ?_)))))))
  show wpAny _ _ (holding [Value.builtin "object.__class__"] (call (.builtin "getset_descriptor.__get__") [.builtin "object.__class__", .ref x, .ref D]) >>= ret) _ _ _
  refine wpAny_bind (wpAny_holding (wpAny_call (class_get (s := ⟨hh, gg, dd, tt + 1, oo⟩) (ox := ox) (od := od) X I T.mo (wpAny_pure ?_))))
  show wpAny _ _ (handedOut (.ref D)) _ _ _
  rw [handedOut_of (v := .ref D) rfl]
  first
    | exact wpAny_pure (wpAny_pure h)
    | exact wpAny_pure h
    | exact wpAny_pure (wpAny_bind (wpAny_pure (wpAny_pure h)))
theorem ErV.kit (T : ErV K D) : KitX K (.ref x) (.ref D) (fun h => ∃ ox od, InstAt h x ox D od) where
  ty := fun _ _ _ ⟨_, _, I⟩ => I.type
  it := fun _ _ X _ => by
    obtain ⟨cd, hc, _⟩ := any_some T.hd
    unfold clsIn at hc
    split at hc
    · rename_i e
      exact fun A' Q' E' s' k q => by
        unfold isType loadHead
        exact wpAny_bind (wpAny_loadPart (k _ _ (X _ _ e)) (wpAny_pure q))
    · cases hc
  ne := fun h tp dd its n sl X htp => by
    obtain ⟨cd, hc, _⟩ := any_some T.hd
    refine Bool.eq_false_iff.mpr fun q => ?_
    obtain rfl : D = tp := Value.ref.inj (beq_iff_eq.mp q)
    unfold clsIn at hc
    split at hc
    · rename_i e
      cases (X _ _ e).symm.trans htp
    · cases hc
  ca := fun X ⟨_, _, I⟩ k => T.cls X I k
end
section
variable {X : Cx} {η : En} {L : Lg} {Q : QV} {a C D : Addr} {d : Option Addr} {c : V} {e : Expr} {pos : Pos} {n : Str}
/-- the error at a, in the heap -/
theorem exc_inst {P : Program} {w : World} {H : Hp} {h : Heap} (hok : HOk P w H h) (e : H a = some (excH a (.ref C) none)) : ∃ oe, PySem.W.InstAt h a oe C none := by
  obtain ⟨oe, vs, h1, h2, h3⟩ := excH_at hok e
  exact ⟨oe, h1, h2.1, by unfold PySem.W.notCls; rw [h3] <;> rfl, by rw [h2.2]; trivial⟩
theorem exc_instD {P : Program} {w : World} {H : Hp} {h : Heap} {dd : Addr} {fs : List (Str × V)} (hok : HOk P w H h) (e : H a = some (excH a (.ref C) (some dd))) (ed : H dd = some (.xd fs)) :
    ∃ (oe od : Obj) (mA : Str → Option Value), PySem.W.InstAt h a oe C (some od) ∧ (∀ name, PySem.W.lookIn name od = some (mA name)) ∧ ∀ f, RelO (fs.lookup f) (mA f) := by
  obtain ⟨oe, vs, h1, h2, h3⟩ := excH_at hok e
  obtain ⟨mA, hns, hr⟩ := (show ObjOk P w H h dd (.xd fs) from hok dd _ ed)
  obtain ⟨od, ho, hl⟩ := lookIn_ns hns
  exact ⟨oe, od, mA, ⟨h1, h2.1, by unfold PySem.W.notCls; rw [h3] <;> rfl, by rw [h2.2]; exact ho⟩, hl, hr⟩
/-- isinstance of an error -/
theorem gc_isE {cv : Value} {b : Bool} {dd : Addr} {fs : List (Str × V)} (T : ErV X.K C) (m : (a, excH a (.ref C) (some dd)) ∈ L) (md : (dd, HO.xd fs) ∈ L) (kc : ClsV c cv) (k : PySem.W.kitOne X.K (.ref C) cv = some b) (q : Q (.bl b) L) : GC X (.builtin "isinstance") [.ref a, c] L Q := fun pins s σ H us hH I r => by
  cases r with
  | cons rx rr =>
    cases rr with
    | cons rt rr =>
      cases rr
      obtain rfl : _ = Value.ref a := rx
      have ec := kc.eq rt
      subst ec
      obtain ⟨oe, od, mA, J, _⟩ := exc_instD I.hok (hH.get m) (hH.get md)
      exact PySem.W.kia_one T.kit I.kIn ⟨_, _, J⟩ k (fun z => nomatch z) fun tk => ⟨.bl b, H, I.kept (t' := tk) fun _ _ z => z, rfl, L, hH, q⟩
/-- the same where it has no dict -/
theorem gc_isE0 {cv : Value} {b : Bool} (T : ErV X.K C) (m : (a, excH a (.ref C) none) ∈ L) (kc : ClsV c cv) (k : PySem.W.kitOne X.K (.ref C) cv = some b) (q : Q (.bl b) L) : GC X (.builtin "isinstance") [.ref a, c] L Q := fun pins s σ H us hH I r => by
  cases r with
  | cons rx rr =>
    cases rr with
    | cons rt rr =>
      cases rr
      obtain rfl : _ = Value.ref a := rx
      have ec := kc.eq rt
      subst ec
      obtain ⟨oe, J⟩ := exc_inst I.hok (hH.get m)
      exact PySem.W.kia_one T.kit I.kIn ⟨_, _, J⟩ k (fun z => nomatch z) fun tk => ⟨.bl b, H, I.kept (t' := tk) fun _ _ z => z, rfl, L, hH, q⟩
/-- a field of an error -/
def GAt (X : Cx) (n : Str) (x : V) (L : Lg) (Q : QV) : Prop := ∀ pins s σ H u (ex : Bool), Has H L → Inv X pins σ H s → RelV x u → wpAny (model X.prog X.w) X.A (getAttr u n ex) (EP X pins σ (up Q)) X.xe s
theorem gat_exc {dd : Addr} {fs : List (Str × V)} {v : V} (T : ErV X.K C) (hno : PySem.W.findIn X.K (.ref C) n = some none) (m : (a, excH a (.ref C) (some dd)) ∈ L) (md : (dd, HO.xd fs) ∈ L) (l : fs.lookup n = some v) (q : Q v L) : GAt X n (.ref a) L Q := fun pins s σ H u ex hH I r => by
  obtain rfl : u = Value.ref a := r
  obtain ⟨oe, od, mA, J, hl, hr⟩ := exc_instD I.hok (hH.get m) (hH.get md)
  obtain ⟨u, hu, ru⟩ := RelO.some_of (v := v) (o := mA n) (by rw [← l]; exact hr n)
  exact HandSPX.exc_get I.kIn J T.ga T.gt T.ex (PySem.W.findObj_own T.hd hno rfl (by rw [hl, hu])) (handed_of ru) ⟨v, H, I.tok _, ru, L, hH, q⟩
theorem ge_attr (h : GE X e η L fun x L1 => GAt X n x L1 Q) (hb : attributeBase e n X.env (eval e X.env) = eval e X.env := by rfl) : GE X (.Attribute e n pos) η L Q := fun hN H hH pins s I =>
  attr_of hb (thn (h hN H hH pins s I) fun u s1 ⟨x, H1, I1, r1, L1, k1, q1⟩ => q1 pins s1 _ H1 u _ k1 I1 r1)
end
end G

set_option Elab.async false
set_option linter.all false
set_option maxRecDepth 100000
set_option maxHeartbeats 4000000
/-! repr. -/
namespace G
open PySem PySem.Spec PyProof.Rows L2
/-- v is the value d, as repr reads it -/
def Rd (L : Lg) (v : V) (d : PyData) : Prop := ∀ (X : Cx) (pins : List (Addr × Obj)) (σ : L2.St) (H : Hp) (s : Shared) (u : Value), Has H L → Inv X pins σ H s → RelV v u → ∃ as, Reads s.heap u d as ∧ (d.hasDict = true → sysModules ∉ as)
section
variable {L : Lg} {v : V} {d : PyData} {p : Addr} {x : Str} {i : Int}
theorem rd_dl (h : Dl L v d) (n : d.hasDict = false) : Rd L v d := fun X pins σ H s u hH I r => by
  obtain ⟨as, q⟩ := Dp.reads I d v u (h X.K H hH) r
  exact ⟨as, q, PyData.noDict_hsm n⟩
theorem rd_non : Rd L .non .none := rd_dl dl_non (by simp only [PyData.hasDict])
theorem rd_bl {b : Bool} : Rd L (.bl b) (.bool b) := rd_dl dl_bl (by simp only [PyData.hasDict])
theorem rd_int : Rd L (.int i) (.int i) := rd_dl dl_int (by simp only [PyData.hasDict])
theorem rd_str : Rd L (.str x) (.str x) := rd_dl dl_str (by simp only [PyData.hasDict])
theorem rd_ints {ns : List Int} (m : (p, HO.lst (ns.map V.int)) ∈ L) : Rd L (.ref p) (.list (ns.map PyData.int)) := rd_dl (dl_lst m dls_ints) (by
  have key : ∀ l : List Int, PyData.hasDictAll (l.map PyData.int) = false := fun l => by
    induction l with
    | nil => rfl
    | cons a l ih =>
      rw [List.map_cons, PyData.hasDictAll, PyData.hasDict, Bool.false_or]
      exact ih
  rw [PyData.hasDict]
  exact key ns)
theorem rd_dict0 (m : (p, HO.dK []) ∈ L) : Rd L (.ref p) (.dict []) := fun X pins σ H s u hH I r => by
  obtain rfl : u = Value.ref p := r
  obtain ⟨_, ne, vs, kv, o, es, ep, h1, h2, h3, _, h4, _⟩ := dk_of I.hok (hH.get m)
  cases kv
  have e0 : es.toList = [] := by
    generalize es.toList = l at h4
    cases h4
    rfl
  refine ⟨p :: [] ++ [], Reads.dict h1 h2.1 h3 (by rw [e0]; exact ReadsAll.nil) (by rw [e0]; exact ReadsAll.nil), fun _ z => ?_⟩
  have z' : sysModules = p := by simpa using z
  rw [← z'] at ne
  exact absurd ne (by decide)
theorem rd_dict1 {w : V} {e : PyData} (m : (p, HO.dK [(.inr x, w)]) ∈ L) (hw : ∀ (h : Heap) (u : Value), RelV w u → Reads h u e []) : Rd L (.ref p) (.dict [(.str x, e)]) := fun X pins σ H s u hH I r => by
  obtain rfl : u = Value.ref p := r
  obtain ⟨_, ne, vs, kv, o, es, ep, h1, h2, h3, _, h4, _⟩ := dk_of I.hok (hH.get m)
  have one : ∃ q, vs = [q] ∧ q.1 = Sum.inr x ∧ RelV w q.2 := by
    cases kv with
    | cons a t =>
      cases t
      exact ⟨_, rfl, a.1.symm, a.2⟩
  obtain ⟨q, rfl, ek, ev⟩ := one
  refine ⟨p :: [] ++ [], Reads.dict h1 h2.1 h3 ?_ ?_, fun _ z => ?_⟩
  · generalize es.toList = l at h4
    cases h4 with
    | cons hk he ht =>
      cases ht
      rw [ek] at hk
      rcases keyIs_shape (show keyIs (Sum.inr x) _ = true from hk) with ⟨i, t, e1, e2⟩ | ⟨y, t, e1, e2⟩
      · cases e1
      · cases e1
        exact ReadsAll.cons (e2 ▸ Reads.str x t) ReadsAll.nil
  · generalize es.toList = l at h4
    cases h4 with
    | cons hk he ht =>
      cases ht
      exact ReadsAll.cons (hw _ _ (Eq.mpr (congrArg (RelV w) he) ev)) ReadsAll.nil
  · have z' : sysModules = p := by simpa using z
    rw [← z'] at ne
    exact absurd ne (by decide)
end
section
variable {X : Cx} {L : Lg} {Q : QV} {v : V} {d : PyData} {k : Nat}
theorem gc_repr (hr : RoomG k X.A) (r : Rd L v d) (s : d.showable = true) (dp : d.depth ≤ 60) (sz : d.shown.length ≤ sizeLine) (q : Q (.str d.shown) L) : GC X (.builtin "repr") [v] L Q := fun pins s' σ H us hH I rv => by
  cases rv with
  | cons ru rr =>
    cases rr
    obtain ⟨as, rd, ns⟩ := r X pins σ H s' _ hH I ru
    have fin : ∀ tk, EP X pins σ (up Q) (.str d.shown tk) { s' with toks := s'.toks + 1 } := fun tk => ⟨.str d.shown, H, I.tok _, ⟨tk, rfl⟩, L, hH, q⟩
    have hu : X.A.units + (d.depth + 1) < cLine := by
      have := hr.toRoom.un
      omega
    cases rd with
    | none =>
      rw [PyData.shown] at fin
      exact P.repr_of_none (fin _)
    | bool b =>
      rw [PyData.shown] at fin
      exact P.repr_of_bool (fin _)
    | int i t =>
      rw [PyData.shown] at fin
      rw [PyData.showable] at s
      exact P.repr_of_int (of_decide_eq_true s) (fin _)
    | str x t =>
      rw [PyData.shown] at fin sz
      exact P.repr_of_str (fin _) sz
    | list h1 h2 h3 h4 => exact repr_of_reads' (.list h1 h2 h3 h4) s ns hr.gd hu (fun _ _ e => e) (fun h' u tk kp => ⟨.str _, H, I.kept (t' := tk) kp, ⟨u, rfl⟩, L, hH, q⟩) sz
    | tuple h1 h2 h3 h4 => exact repr_of_reads' (.tuple h1 h2 h3 h4) s ns hr.gd hu (fun _ _ e => e) (fun h' u tk kp => ⟨.str _, H, I.kept (t' := tk) kp, ⟨u, rfl⟩, L, hH, q⟩) sz
    | dict h1 h2 h3 h4 h5 => exact repr_of_reads' (.dict h1 h2 h3 h4 h5) s ns hr.gd hu (fun _ _ e => e) (fun h' u tk kp => ⟨.str _, H, I.kept (t' := tk) kp, ⟨u, rfl⟩, L, hH, q⟩) sz
end
end G

set_option Elab.async false
set_option linter.all false
set_option maxRecDepth 100000
set_option maxHeartbeats 4000000
/-! Lambdas without parameters, handed to a def that calls them. -/
namespace G
open PySem PySem.Spec PyProof.Rows L2
theorem among_left {pos : Pos} {cv : Value} (l r : List Value) (h : LamX.TabS = LamX.TabS) (t : TriplesOk l) (e : codeAmong pos l = some cv) : codeAmong pos (l ++ r) = some cv := by
  fun_induction TriplesOk l with
  | case1 => simp [codeAmong] at e
  | case2 a t0 b u x rest ih =>
    simp only [List.cons_append, codeAmong] at e ⊢
    split at e
    · rename_i q
      rw [if_pos q]
      exact e
    · rename_i q
      rw [if_neg q]
      exact ih t e
  | case3 l h1 h2 => exact t.elim
section
variable {X : Cx} {pins : List (Addr × Obj)} {σ : L2.St} {H : Hp} {s : Shared}
/-- a lambda is made; what stands in the table from now on -/
theorem lam_made {c P : Addr} {params : Arguments} {body : Expr} {scope : Scope} {pos : Pos} {E : Value → Shared → Prop} {Q : Value → Shared → Prop} (I : Inv X pins σ H s) (TB : LamX.TabB X.base X.mg c P) (hcode : X.env.code = .ref c)
    (hT : LamX.TabS H P (X.env.qual ++ "<lambda>")) (hdef : defaultsOf params X.env = ([], [])) (hfree : ∀ y ∈ scope.names, y.2 = .free → ∃ c, X.env.cells.lookup y.1 = some c)
    (h : ∀ (f c' : Addr) (pm ctv : Value) (H1 : Hp) (s' : Shared) (ps : Array Value), Inv X pins σ H1 s' → (∀ b o, b ≠ P → H b = some o → H1 b = some o) → H1 P = some (.tbl ps) → TriplesOk ps.toList → codeAmong pos ps.toList = some (.ref c') → LamX.TabS H1 P (X.env.qual ++ "<lambda>") →
      s'.heap.get? f = some (PySem.W.kla_obj "<lambda>" (X.env.qual ++ "<lambda>") params body scope (cloFrom X.env.cells scope.names []) pm c' ctv) → H1 f = none → f ∉ frs X.stack → Q (.ref f) s') :
    wpAny (model X.prog X.w) X.A (eval (.Lambda params body scope pos) X.env) Q E s := by
  obtain ⟨ps, hP, ht, ha⟩ := hT
  have bP : s.heap.BuiltinsAt X.mg P := TB.bm.keeps I.bk
  have hP' : s.heap.get? P = some { cls := .none, data := .fields ps } := I.hok P _ hP
  have nofr : ∀ f, s.heap.objs.size ≤ f → f ∉ frs X.stack := fun f hf z => by
    rcases List.mem_cons.mp (I.stkSub _ z) with e | e
    · have h1 := I.lt
      rw [← e] at h1
      exact Nat.lt_irrefl _ (Nat.lt_of_lt_of_le h1 hf)
    · exact I.nofs hf e
  refine PySem.W.kla_eval hdef ?_
  cases hc : codeAmong pos ps.toList with
  | some cv =>
    obtain ⟨c', e, hco⟩ := ha pos cv hc
    subst e
    exact PySem.W.kla_makeFunctionHit (mg := X.mg) (c := c) (P := P) (ps := ps) (closure_ok hfree) I.ok.glob (I.mod.glob.keeps I.bk) hcode (TB.code.keeps I.bk) hP' ht hc bP fun ctv h' tk hx hsz =>
      h h'.objs.size c' _ ctv H _ ps (I.kept (t' := tk) fun b o e => Heap.get?_push_of_some _ (hx b o e)) (fun _ _ _ e => e) hP ht hc ⟨ps, hP, ht, ha⟩ (Heap.get?_push_size _ rfl) (I.hok.fresh hsz) (nofr _ hsz)
  | none =>
    refine PySem.W.kla_makeFunction (mg := X.mg) (c := c) (P := P) (ps := ps) (closure_ok hfree) I.ok.glob (I.mod.glob.keeps I.bk) hcode (TB.code.keeps I.bk) hP' ht hc TB.gP bP fun c' ctv h' tk hx hge hlt hrec htb => ?_
    obtain ⟨c2, oc, vs, t, e2, hoc, hd, hv⟩ := hrec
    cases e2
    have hsz : s.heap.objs.size ≤ h'.objs.size := Nat.le_trans hge (Nat.le_of_lt hlt)
    have nC : H c' = none := I.hok.fresh hge
    have I1 := LamX.inv_table (t' := tk) (more := #[rawInt pos.line, rawInt pos.col, .ref c']) (h' := h'.push (PySem.W.kla_obj "<lambda>" (X.env.qual ++ "<lambda>") params body scope (cloFrom X.env.cells scope.names []) ((X.mg "__name__").getD .none) c' ctv)) I hP
      (fun b o hb e => Heap.get?_push_of_some _ (hx b o hb e)) (Heap.get?_push_of_some _ htb) hge ⟨oc, vs, t, Heap.get?_push_of_some _ hoc, hd, hv⟩
    have grow : ∀ b o, b ≠ P → H b = some o → upd (upd H P (.tbl (ps ++ #[rawInt pos.line, rawInt pos.col, .ref c']))) c' (LamX.CodeO c' (X.env.qual ++ "<lambda>")) b = some o := fun b o n e => by
      rw [upd_ne (ne_of_none e nC), upd_ne n]
      exact e
    have eL : (ps ++ #[rawInt pos.line, rawInt pos.col, .ref c']).toList = ps.toList ++ [rawInt pos.line, rawInt pos.col, .ref c'] := by simp
    have hP1 : upd (upd H P (.tbl (ps ++ #[rawInt pos.line, rawInt pos.col, .ref c']))) c' (LamX.CodeO c' (X.env.qual ++ "<lambda>")) P = some (.tbl (ps ++ #[rawInt pos.line, rawInt pos.col, .ref c'])) := by rw [upd_ne (ne_of_none hP nC), upd_same]
    have ht1 : TriplesOk (ps ++ #[rawInt pos.line, rawInt pos.col, .ref c']).toList := by
      rw [eL]
      exact PySem.TriplesOk_snoc _ _ _ _ ht
    refine h h'.objs.size c' _ ctv _ _ _ I1 grow hP1 ht1 (by rw [eL]; exact codeAmong_snoc _ ht hc) ⟨_, hP1, ht1, fun p' cv hcv => ?_⟩ (Heap.get?_push_size _ rfl) ?_ (nofr _ hsz)
    · rw [eL] at hcv
      rcases LamX.among_app _ ht hcv with z | z
      · obtain ⟨c0, e1, e2⟩ := ha p' cv z
        exact ⟨c0, e1, grow _ _ (fun z => LamX.codeO_ne ps (Option.some.inj (e2.symm.trans (z ▸ hP)))) e2⟩
      · exact ⟨c', z, upd_same⟩
    · have n1 : h'.objs.size ≠ c' := Nat.ne_of_gt hlt
      have n2 : h'.objs.size ≠ P := Nat.ne_of_gt (Nat.lt_of_lt_of_le (Heap.lt_size hP') hsz)
      rw [upd_ne n1, upd_ne n2]
      exact I.hok.fresh hsz
/-- the ledger behind the making -/
theorem has_made {L : Lg} {P : Addr} {q : Str} {H1 : Hp} (hH : Has H L) (m : (P, tabM q) ∈ L) (g : ∀ b o, b ≠ P → H b = some o → H1 b = some o) (t : LamX.TabS H1 P q) : Has H1 L := by
  refine ⟨hH.1, fun e he => ?_⟩
  obtain ⟨ps, hP, _⟩ := holds_tab (hH.2 _ m)
  by_cases z : e.1 = P
  · have ee : e = (P, tabM q) := by
      have key : ∀ (M : Lg), (M.map (·.1)).Nodup → e ∈ M → (P, tabM q) ∈ M → e = (P, tabM q) := fun M nd h1 h2 => by
        induction M with
        | nil => cases h1
        | cons a M ih =>
          rw [List.map_cons] at nd
          obtain ⟨n1, n2⟩ := List.nodup_cons.mp nd
          rcases List.mem_cons.mp h1 with r1 | r1
          · rcases List.mem_cons.mp h2 with r2 | r2
            · rw [r1, r2]
            · exact absurd (List.mem_map.mpr ⟨_, r2, by rw [← r1]; exact z.symm⟩) n1
          · rcases List.mem_cons.mp h2 with r2 | r2
            · exact absurd (List.mem_map.mpr ⟨_, r1, by rw [← r2]; exact z⟩) n1
            · exact ih n2 r1 r2
      exact key L hH.1 he m
    rw [ee]
    exact holds_tab' t
  · have h1 := hH.2 e he
    obtain ⟨a, o⟩ := e
    cases o with
    | tbl m =>
      obtain ⟨r, em, ps2, e1, t2, t3⟩ := h1
      refine ⟨r, em, ps2, g _ _ z e1, t2, fun pos cv hc => ?_⟩
      obtain ⟨c0, e2, e3⟩ := t3 pos cv hc
      exact ⟨c0, e2, g _ _ (fun y => LamX.codeO_ne ps (Option.some.inj (e3.symm.trans (y ▸ hP)))) e3⟩
    | _ => exact g _ _ z h1
end
/-- the body of a lambda, wherever it is called with the names η of the def that made it -/
def LamOk (X : Cx) (scope : Scope) (body : Expr) (η : En) (k : Nat) (L : Lg) (A : QV) (E : XL) : Prop :=
  ∀ (A0 : Around) (outer : List Env) (s : Shared) (H : Hp) (Ex : XK) (f c' : Addr), RoomG k (LamX.lamCx X A0 outer s H Ex scope f c').A → Tk (LamX.lamCx X A0 outer s H Ex scope f c') (fun c d _ L' => E c d L') → GE (LamX.lamCx X A0 outer s H Ex scope f c') body η L A
/-- what a def's body may use of the lambda that it got as its parameter a: it may call it in a try where the ledger is L -/
def Act (Z : Cx) (a : Str) (f : Addr) (L : Lg) (A : QV) (E : XL) : Prop :=
  ∀ (pn : List (Addr × Obj)) (xe : Value → Shared → Prop) (W : XW) (θ : En) (p1 p2 : Pos), Tk (trX Z pn xe) W → (∀ c d L', E c d L' → W c d θ L') → At a (.ref f) θ → GE (trX Z pn xe) (.Call (.Name a p1) [] [] p2) θ L A
section
variable {X : Cx} {η : En} {L : Lg} {Q : QV} {j k : Nat} {x a : Str} {st : Stmt} {Ng : List Str} {params : Arguments} {body : Expr} {scope : Scope} {p lpos pos : Pos} {c P : Addr} {A : QV} {E : XL}
/-- x(lambda: body), x a def that calls what it got -/
theorem ge_lamcall (F : Df X.K X.mg x st) (S : FnScope Ng [a] (defScope st)) (hb : ∀ (kV doc pm : Value) (an : Option Addr) (cdv ct : Value) (us : List Value), us.length = [a].length → bindArgs (PySem.W.fnOf x x (defArgs st) (defBody st) (defScope st) .none kV doc pm an cdv ct) ⟨us, []⟩ = pure ([a].zip us))
    (hl : 1 ≤ Ng.length) (TB : LamX.TabB X.base X.mg c P) (hcode : X.env.code = .ref c) (mT : (P, tabM (X.env.qual ++ "<lambda>")) ∈ L) (hr : RoomG (k + 2) X.A)
    (hS : LamX.LamS X.env.scope scope) (lam : LamOk X scope body η k L A E)
    (heard : ∀ (Z : Cx) (g f : Addr) (cdv : Value) (s : Shared) (H : Hp) (E0 : XK), Z = cx0 X.prog X.w X.K X.mg X.base Ng x (defScope st) g cdv X.A X.stack s H E0 → Z.N.Nodup → RoomG (k + 1) Z.A → Act Z a f L A E → GSs Z (defBody st) (bodyD Q) (begun Ng [.ref f]) L)
    (hdef : defaultsOf params X.env = ([], []) := by rfl) (hbind : ∀ (q : Str) (cl : List (Str × Addr)) (pm cv ctv : Value), bindArgs (PySem.W.kla_fn "<lambda>" q params body scope cl pm cv ctv) ⟨[], []⟩ = pure [] := by intros; rfl) (hg : Gl X x := by rfl)
    (hdb : (x == ("__debug__" : Str)) = false := by decide) (hd : (a == ("__debug__" : Str)) = false := by decide) (hcd : (a == ("__classdict__" : Str)) = false := by decide) :
    GE X (.Call (.Name x p) [.Lambda params body scope lpos] [] pos) η L Q := fun hN H hH pins s I => by
  obtain ⟨g, fd, hm, F⟩ := F
  obtain ⟨oc, od, kV, doc, pm, an, cdv, ct, osl, rfl, lk, hcg⟩ := F.ex
  refine wpAny_Call_Name_kw (ld_glob I hg hm ?_ hdb)
  refine PySem.W.callWith_K (h₀ := X.base) I.ok.mod.kin F.kp ?_ (by rfl) (by rfl)
  show wpAny _ _ (spliced ((false, eval (.Lambda params body scope lpos) X.env) :: backTo pos (starEach [] X.env))) _ _ s
  refine Calls.spliced_cons (lam_made I TB hcode (holds_tab (hH.2 _ mT)) hdef (hS.has I.ok) fun f c' pm' ctv H1 s1 ps I1 gr hP1 ht1 hc1 T1 hf hfn hfr => ?_)
  have hH1 := has_made hH mT gr T1
  refine Calls.spliced_nil ⟨I1.kIn, ?_⟩
  have rc : codeAny (model X.prog X.w) X.A (.call (.ref g) ⟨[.ref f], []⟩) (CR CX0 X.stack X.prog X.w H1 s1 (up Q) fun _ _ _ => False) s1 := by
    refine LamX.run_ofS (CX := CX0) (N := Ng) (ps := [a]) (us := [.ref f]) (vs := [.ref f]) lk hcg S hr.toRoom I1.env0 (.of_eq (hb kV doc pm an cdv ct [.ref f] rfl)) (.cons rfl .nil) rfl fun hr2 => ?_
    let Z : Cx := cx0 X.prog X.w X.K X.mg X.base Ng x (defScope st) g cdv X.A X.stack s1 H1 (fun _ _ _ => False)
    have act : Act Z a f L A E := fun pn xe W θ p1 p2 tk hW hat hNθ HZ hHZ pinsZ sZ IZ => by
      obtain ⟨i, i1, i2⟩ := hat.idx
      have va : Vis (trX Z pn xe).env.scope a := (S.par a (List.mem_singleton.mpr rfl)).elim .inl fun z => .inr (.inl z)
      refine wpAny_Call_Name_kw (thn ((pe_var (X := trX Z pn xe) (pos := p1) (i := i) (by rw [hNθ]; exact i1) va hd hcd).run pinsZ sZ (vals θ) HZ (fun v H2 => v = .ref f ∧ H2 = HZ) IZ ⟨.ref f, i2, rfl, rfl⟩) fun u s2 ⟨v, H2, I2, r2, q2⟩ => ?_)
      obtain ⟨ev, eH⟩ := q2
      subst ev
      rw [eH] at I2
      obtain rfl : u = Value.ref f := r2
      have un : Un (frs X.stack) [] H1 HZ s1.heap s2.heap := I2.base
      have of2 : s2.heap.get? f = some (PySem.W.kla_obj "<lambda>" (X.env.qual ++ "<lambda>") params body scope (cloFrom X.env.cells scope.names []) pm' c' ctv) := un.keep f _ hf hfn hfr (fun z => nomatch (show f ∈ ([] : List Addr) from z))
      refine PySem.W.callWith_F0 ⟨_, _, _, _, of2⟩ ?_
      -- the code object still stands
      obtain ⟨more, hP2⟩ := un.tbls P ps hP1
      obtain ⟨ps2, hP3, ht3, ha3⟩ := holds_tab (hHZ.2 _ mT)
      have eps : ps2 = ps ++ more := by
        have z := hP3.symm.trans hP2
        exact HO.tbl.inj (Option.some.inj z)
      obtain ⟨c2, e2, hco⟩ := ha3 lpos (.ref c') (by rw [eps, Array.toList_append]; exact among_left _ _ rfl ht1 hc1)
      cases e2
      obtain ⟨⟨oc2, vs2, t2, hoc, hdc, hvc⟩, _, _⟩ := I2.hok c' _ hco
      have rcl : codeAny (model X.prog X.w) (trX Z pn xe).A (.call (.ref f) ⟨[], []⟩) (CR (L2.CX X.prog X.w) (trX Z pn xe).stack X.prog X.w HZ s2 (up A) (upX E)) s2 := by
        refine PySem.W.kla_callFunE hr2.depth of2 rfl hS.co hS.gen rfl ⟨c', oc2, vs2, t2, rfl, hoc, hdc, hvc⟩ ?_
        rw [hbind]
        refine wpAny_pure (wpAny_newFunctionEnv (fun y hy => (hS.own y hy).2) (fun y hy => absurd hy (by simp)) (fun h₁ hns hsb => ⟨I2.nolimit.fresh _ hsb, ?_⟩) hS.kind)
        show codeAny _ _ (.expr body (LamX.lamEnv X scope s2.heap.objs.size f c')) _ _
        have kp : ∀ b o, s2.heap.get? b = some o → h₁.get? b = some o := fun b o e => hsb.extBut b o (Nat.ne_of_lt (Heap.lt_size e)) (Heap.get?_push_of_some _ e)
        have J := LamX.lam_start2 (tk := s2.toks + ([] : List (Str × Value)).length) (E := upX E) (f := f) (c' := c') I1 hS I2.env0 hr2.hd un hns kp
        have rb : RoomG k ((trX Z pn xe).A.deeper (LamX.lamEnv X scope s2.heap.objs.size f c')) := ⟨hr2.deeper _, guard_deeper (guard_deeper hr.gd)⟩
        have tkb : Tk (LamX.lamCx X (trX Z pn xe).A (trX Z pn xe).stack s2 HZ (upX E) scope f c') (fun c d _ L' => E c d L') := (takes_of rfl rfl rfl rfl).imp fun c d σ H' ⟨η', L', _, _, h', z⟩ => ⟨L', h', z⟩
        refine PySem.W.kla_codeExpr (wpAny_mono (lam (trX Z pn xe).A (trX Z pn xe).stack s2 HZ (upX E) f c' rb tkb hN HZ hHZ [] _ J) (fun v s' hq => ?_) fun e s' hq => hq)
        obtain ⟨w', H', J', rv, q⟩ := hq
        exact ⟨w', H', J'.os, J'.bare, J'.base, J'.hok, rv, q⟩
      refine wpAny_call (codeAny_mono rcl fun r s' hq => ?_)
      cases r with
      | error e => exact tk e s' (XE.of_call (E := upX E) I2 (fun cls d H' ⟨L', h', z⟩ => ⟨θ, L', hNθ, rfl, h', hW _ _ _ z⟩) hq)
      | ok fl =>
        cases fl with
        | ret u => exact I2.after hq
        | next => exact False.elim hq
        | brk => exact False.elim hq
        | cont => exact False.elim hq
    exact ⟨WSs _ (defBody st), PSs.nox pss_W, body_end (X := Z) (vs := [.ref f]) hl (fun v L' H' h' q => ⟨L', h', q⟩) hH1 (heard Z g f cdv s1 H1 _ rfl S.nd ⟨hr2, guard_deeper hr.gd⟩ act)⟩
  refine wpAny_call (codeAny_mono rc fun r s2 hq => ?_)
  cases r with
  | error e => exact (show False from hq).elim
  | ok fl =>
    cases fl with
    | ret u => exact I1.after hq
    | next => exact False.elim hq
    | brk => exact False.elim hq
    | cont => exact False.elim hq
end
end G

set_option Elab.async false
set_option linter.all false
set_option maxRecDepth 100000
set_option maxHeartbeats 4000000
/-! The classes of the top; calls by keywords and by local names. -/
namespace G
open PySem PySem.Spec PyProof.Rows L2 NdefX
def clsBody : Stmt → List Stmt
  | .ClassDef _ _ _ b _ _ _ _ _ _ _ => b
  | _ => []
def clsAt (c : Stmt) (j : Nat) : Stmt := (clsBody c).getD j (.Pass ⟨0, 0, 0, 0⟩)
/-- an own error class, as its user wants it -/
structure ErrT (P : Program) (w : World) (K : PySem.W.Frag) (mg : Str → Option Value) (base : Heap) (x : Str) (C : Addr) (ns : List Str) : Prop where
  gC : mg x = some (.ref C)
  ck : ErrC P w K mg base x C ns
  ev : ErV K C
  no : ∀ n ∈ ns, PySem.W.findIn K (.ref C) n = some none
section
variable {P : Program} {w : World} {K : PySem.W.Frag} {mg : Str → Option Value} {base : Heap} {x q : Str} {st : Stmt} {C fI c cc : Addr} {n m : Str}
variable {nm qn : Str} {N : Addr} {bs bm : List Value} {sn : List Str} {sub : List Value} {ab : Bool} {col : Option Bool} {dd : Option Addr} {k0 k1 k2 k3 k5 : Option Value} {oc kV doc pm ct cl ccl : Value} {od an cld cdd : Option Addr} {osl csl ccs : Array (Option Value)} {vs : Array Value} {fl : Str} {tf : Tok} {cd : ClassData}
/-- what the written part says of an own error class with its own __init__ over ValueError's -/
structure ErrFacts (P : Program) (K : PySem.W.Frag) (x q : Str) (st : Stmt) (C fI c cc : Addr) (nm qn : Str) (N : Addr) (bs bm : List Value) (sn : List Str) (sub : List Value) (ab : Bool) (col : Option Bool) (dd : Option Addr) (k0 k1 k2 k3 k5 : Option Value) (oc kV doc pm ct cl ccl : Value) (od an cld cdd : Option Addr) (osl csl ccs : Array (Option Value)) (vs : Array Value) (fl : Str) (tf : Tok) (cd : ClassData) : Prop where
  a1 : PySem.W.nsIn K mainGlobals x = some (some (.ref C))
  a2 : K.lookup C = some (excClassObj nm qn C N bs bm true sn sub ab col dd k0 k1 k2 k3 k5 "ValueError.__new__")
  a3 : PySem.HandSPX.refsVE bm = true
  a4 : PySem.W.findIn K (.ref C) "__setattr__" = some (some (.builtin "object.__setattr__"))
  a5 : PySem.W.subIn K (.ref C) (.type "BaseException") = some true
  a6 : PySem.W.typeIn K (.ref C) = some (.type "type")
  a7 : PySem.W.keepIn K (.ref C) = true
  a8 : PySem.W.findIn K (.ref C) "__init__" = some (some (.ref fI))
  a9 : PySem.W.typeIn K (.ref fI) = some (.type "function")
  b1 : PySem.W.ks_superIn K C C "__init__" = some (some (.builtin "ValueError.__init__"))
  b2 : PySem.W.mroIn K C (.ref C) = some true
  b3 : PySem.W.subIn K (.ref C) (.type "ValueError") = some true
  b4 : K.lookup fI = some ⟨oc, od, .func (PySem.W.fnX "__init__" q (defArgs st) (defBody st) (defScope st) [("__class__", cc)] .none kV doc pm an (.ref c) ct), osl⟩
  b5 : PySem.W.codeIn K (.ref c) q = true
  b6 : K.lookup cc = some ⟨cl, cld, .cell (some (.ref C)), csl⟩
  b7 : K.lookup c = some ⟨ccl, cdd, .fields vs, ccs⟩
  b8 : vs[2]? = some (.str fl tf)
  b9 : (P.main.file == fl) = true
  c1 : PySem.W.clsIn K C = some cd
  c2 : PySem.W.findIn K (.ref C) "__getattribute__" = some (some (.builtin "BaseException.__getattribute__"))
  c3 : PySem.W.findIn K (.ref C) "__getattr__" = some none
  c4 : PySem.W.hasDictIn K C = true
  c5 : PySem.W.findIn K (.ref C) "__class__" = some (some (.builtin "object.__class__"))
  c6 : PySem.W.mroIn K C (.type "object") = some true
section
variable (F : ErrFacts P K x q st C fI c cc nm qn N bs bm sn sub ab col dd k0 k1 k2 k3 k5 oc kV doc pm ct cl ccl od an cld cdd osl csl ccs vs fl tf cd)
include F
theorem ErrFacts.sup (top : (P.main.scope.names.lookup ("super" : Str)).isSome = false) : SupF P K "__init__" q st fI c cc C (PySem.W.fnX "__init__" q (defArgs st) (defBody st) (defScope st) [("__class__", cc)] .none kV doc pm an (.ref c) ct) :=
  ⟨⟨oc, od, kV, doc, pm, ct, an, osl, rfl, F.b4⟩, F.b5, ⟨cl, cld, csl, F.b6⟩, ⟨ccl, cdd, vs, ccs, fl, tf, F.b7, F.b8, F.b9⟩, ⟨cd, F.c1⟩, top⟩
theorem ErrFacts.errK {ns : List Str} {h : Heap} (X : K.In h) (G : h.Ns mainGlobals mg) (op : PySem.W.nsIn K cStatics "thirdparty.any" = some none) (su : mg "super" = none) (no : ∀ n ∈ ns, PySem.W.findIn K (.ref C) n = some none) : ErrK K mg x C fI ns :=
  ⟨PySem.W.mg_of X G F.a1, ⟨⟨_, _, _, _, _, _, _, _, _, _, _, _, _, _, _, F.a2, F.a3⟩, F.a4, F.a5, F.a6, F.a7⟩, F.a8, F.a9, no, F.b1, F.b2, F.b3, op, su⟩
theorem ErrFacts.errV (sp : PySem.W.specialIn K (.builtin "object.__class__") "__get__" = some (some (.builtin "getset_descriptor.__get__"))) (tk : PySem.W.takesIn K (.builtin "object.__class__") = some true) : ErV K C := ⟨F.c2, F.c3, F.a5, F.c4, F.c5, sp, tk, F.c6⟩
end
/-- the top's own words, needed for every error class -/
structure ErrAll (P : Program) (K : PySem.W.Frag) (mg : Str → Option Value) : Prop where
  top : (P.main.scope.names.lookup ("super" : Str)).isSome = false
  op : PySem.W.nsIn K cStatics "thirdparty.any" = some none
  su : mg "super" = none
  sp : PySem.W.specialIn K (.builtin "object.__class__") "__get__" = some (some (.builtin "getset_descriptor.__get__"))
  tk : PySem.W.takesIn K (.builtin "object.__class__") = some true
section
variable {p0 p1 p2 p3 p4 p5 p6 q0 q1 q2 q3 r0 r1 r2 r3 : Pos} {pa0 : Arg}
/-- a class of one field: def __init__(self, n): super().__init__(n); self.n = n -/
theorem err_mk1 {h : Heap} (n : Str) (X : K.In h) (G : h.Ns mainGlobals mg) (A : ErrAll P K mg) (F : ErrFacts P K x q st C fI c cc nm qn N bs bm sn sub ab col dd k0 k1 k2 k3 k5 oc kV doc pm ct cl ccl od an cld cdd osl csl ccs vs fl tf cd) (no : PySem.W.findIn K (.ref C) n = some none)
    (S : NScope ["self", n, "__class__"] ["self", n] ["__class__"] (defScope st))
    (eb : defBody st = [.Expr (.Call (.Attribute (.Call (.Name "super" p0) [] [] p1) "__init__" p2) [.Name n p3] [] p4) p5, .Assign [.Attribute (.Name "self" q0) n q1] (.Name n q2) q3])
    (hp : ((defArgs st).posonlyargs ++ (defArgs st).args).head? = some pa0) (h0 : pa0.arg = "self") (hks : (defScope st).names.lookup ("super" : Str) = some .globalImplicit)
    (hint : ∀ L, interactive (envF (nfS "__init__" q st cc c) fI L) = false)
    (hsw1 : ∀ L, swapsWith (.Call (.Attribute (.Call (.Name "super" p0) [] [] p1) "__init__" p2) [.Name n p3] [] p4) none p5.line (envF (nfS "__init__" q st cc c) fI L) = pure false)
    (hev : ∀ L, ∃ pl : Sem Bool, eval (.Call (.Attribute (.Call (.Name "super" p0) [] [] p1) "__init__" p2) [.Name n p3] [] p4) (envF (nfS "__init__" q st cc c) fI L) = (do
      let ov ← attributeBase (.Call (.Name "super" p0) [] [] p1) "__init__" (envF (nfS "__init__" q st cc c) fI L) (eval (.Call (.Name "super" p0) [] [] p1) (envF (nfS "__init__" q st cc c) fI L))
      standAt p2.atName
      let (ff, first) ← holding [ov] (getMethod ov "__init__" pl)
      callWith p4 ff first (backTo p4 (starEach [.Name n p3] (envF (nfS "__init__" q st cc c) fI L))) []))
    (hsw2 : ∀ L, swapsWith (.Name n q2) (some (.Attribute (.Name "self" q0) n q1)) q3.line (envF (nfS "__init__" q st cc c) fI L) = pure false) (hdb : (n == ("__debug__" : Str)) = false) (hcd : (n == ("__classdict__" : Str)) = false)
    (hb : ∀ us : List Value, us.length = 2 → bindArgs (PySem.W.fnX "__init__" q (defArgs st) (defBody st) (defScope st) [("__class__", cc)] .none kV doc pm an (.ref c) ct) ⟨us, []⟩ = pure ((["self", n] : List Str).zip us)) : ErrT P w K mg base x C [n] := by
  have N1 : ∀ m ∈ [n], PySem.W.findIn K (.ref C) m = some none := fun m hm => by
    rw [List.mem_singleton.mp hm]
    exact no
  have EK := F.errK (ns := [n]) X G A.op A.su N1
  exact ⟨EK.gC, ⟨fI, _, EK, err1_ok (F.sup A.top) EK S eb hp h0 hks hint hsw1 hev hsw2 hdb hcd, .all fun us hl => hb us hl⟩, F.errV A.sp A.tk, N1⟩
/-- a class of two fields -/
theorem err_mk2 {h : Heap} (n m : Str) (X : K.In h) (G : h.Ns mainGlobals mg) (A : ErrAll P K mg) (F : ErrFacts P K x q st C fI c cc nm qn N bs bm sn sub ab col dd k0 k1 k2 k3 k5 oc kV doc pm ct cl ccl od an cld cdd osl csl ccs vs fl tf cd) (no : PySem.W.findIn K (.ref C) n = some none) (no2 : PySem.W.findIn K (.ref C) m = some none)
    (S : NScope ["self", n, m, "__class__"] ["self", n, m] ["__class__"] (defScope st))
    (eb : defBody st = [.Expr (.Call (.Attribute (.Call (.Name "super" p0) [] [] p1) "__init__" p2) [.Name n p3, .Name m p6] [] p4) p5, .Assign [.Attribute (.Name "self" q0) n q1] (.Name n q2) q3, .Assign [.Attribute (.Name "self" r0) m r1] (.Name m r2) r3])
    (hp : ((defArgs st).posonlyargs ++ (defArgs st).args).head? = some pa0) (h0 : pa0.arg = "self") (hks : (defScope st).names.lookup ("super" : Str) = some .globalImplicit)
    (hint : ∀ L, interactive (envF (nfS "__init__" q st cc c) fI L) = false)
    (hsw1 : ∀ L, swapsWith (.Call (.Attribute (.Call (.Name "super" p0) [] [] p1) "__init__" p2) [.Name n p3, .Name m p6] [] p4) none p5.line (envF (nfS "__init__" q st cc c) fI L) = pure false)
    (hev : ∀ L, ∃ pl : Sem Bool, eval (.Call (.Attribute (.Call (.Name "super" p0) [] [] p1) "__init__" p2) [.Name n p3, .Name m p6] [] p4) (envF (nfS "__init__" q st cc c) fI L) = (do
      let ov ← attributeBase (.Call (.Name "super" p0) [] [] p1) "__init__" (envF (nfS "__init__" q st cc c) fI L) (eval (.Call (.Name "super" p0) [] [] p1) (envF (nfS "__init__" q st cc c) fI L))
      standAt p2.atName
      let (ff, first) ← holding [ov] (getMethod ov "__init__" pl)
      callWith p4 ff first (backTo p4 (starEach [.Name n p3, .Name m p6] (envF (nfS "__init__" q st cc c) fI L))) []))
    (hsw2 : ∀ L, swapsWith (.Name n q2) (some (.Attribute (.Name "self" q0) n q1)) q3.line (envF (nfS "__init__" q st cc c) fI L) = pure false) (hsw3 : ∀ L, swapsWith (.Name m r2) (some (.Attribute (.Name "self" r0) m r1)) r3.line (envF (nfS "__init__" q st cc c) fI L) = pure false)
    (hdb : (n == ("__debug__" : Str)) = false) (hcd : (n == ("__classdict__" : Str)) = false) (mdb : (m == ("__debug__" : Str)) = false) (mcd : (m == ("__classdict__" : Str)) = false)
    (hb : ∀ us : List Value, us.length = 3 → bindArgs (PySem.W.fnX "__init__" q (defArgs st) (defBody st) (defScope st) [("__class__", cc)] .none kV doc pm an (.ref c) ct) ⟨us, []⟩ = pure ((["self", n, m] : List Str).zip us)) : ErrT P w K mg base x C [n, m] := by
  have N1 : ∀ y ∈ [n, m], PySem.W.findIn K (.ref C) y = some none := fun y hy => by
    rcases List.mem_cons.mp hy with rfl | hy
    · exact no
    · rw [List.mem_singleton.mp hy]
      exact no2
  have EK := F.errK (ns := [n, m]) X G A.op A.su N1
  exact ⟨EK.gC, ⟨fI, _, EK, err2_ok (F.sup A.top) EK S eb hp h0 hks hint hsw1 hev hsw2 hsw3 hdb hcd mdb mcd, .all fun us hl => hb us hl⟩, F.errV A.sp A.tk, N1⟩
end
end
/-! ### calls -/
section
variable {X : Cx} {η : En} {L : Lg} {Q : QV} {El : XL} {CX : CXT} {x : Str} {j k : Nat} {sp : SpL} {e : Expr} {es : List Expr} {kws : List Keyword} {pos p : Pos} {W : XW}
/-- the values of keywords, one behind another -/
def GK (X : Cx) (kws : List Keyword) (η : En) (L : Lg) (Q : List V → Lg → Prop) : Prop := match kws with
  | [] => Q [] L
  | k :: r => GE X k.value η L fun v L1 => GK X r η L1 fun vs L2 => Q (v :: vs) L2
theorem gk_nil {Q : List V → Lg → Prop} (q : Q [] L) : GK X [] η L Q := q
theorem gk_cons {k : Keyword} {Q : List V → Lg → Prop} (h : GE X k.value η L fun v L1 => GK X kws η L1 fun vs L2 => Q (v :: vs) L2) : GK X (k :: kws) η L Q := h
theorem GK.run {Q : List V → Lg → Prop} : ∀ {kws : List Keyword} {L : Lg} {Q : List V → Lg → Prop}, GK X kws η L Q → X.N = names η → ∀ (pos : Pos) (pins : List (Addr × Obj)) (s : Shared) (H : Hp), Has H L → Inv X pins (vals η) H s →
    wpAny (model X.prog X.w) X.A (evalAll ((backToKw pos (keywordEach kws X.env)).map (·.2))) (fun us s' => ∃ vs H', Inv X pins (vals η) H' s' ∧ Vals vs us ∧ ∃ L', Has H' L' ∧ Q vs L') X.xe s
  | [], L, Q, h, hN, pos, pins, s, H, hH, I => wpAny_evalAll_nil ⟨[], H, I, .nil, L, hH, h⟩
  | ⟨nm, e, kp⟩ :: r, L, Q, h, hN, pos, pins, s, H, hH, I => by
    show wpAny _ _ (evalAll ((do let v ← eval e X.env; standAt pos; pure v) :: (backToKw pos (keywordEach r X.env)).map (·.2))) _ _ s
    refine wpAny_evalAll_cons (wpAny_bind (thn (h hN H hH pins s I) fun u s1 ⟨x, H1, I1, r1, L1, h1, q1⟩ => wpAny_bind (wpAny_standAt (wpAny_pure ?_))))
    exact thn (GK.run (Q := Q) q1 hN pos pins s1 H1 h1 I1) fun us s2 ⟨xs, H2, I2, r2, L2, h2, q2⟩ => ⟨x :: xs, H2, I2, .cons r1 r2, L2, h2, q2⟩
/-- what is at f, called with values that keep φ -/
def GF (X : Cx) (η : En) (f : Addr) (args : List Value → Args) (φ : List V → Lg → Prop) (Q : QV) : Prop :=
  ∀ (pins : List (Addr × Obj)) (s : Shared) (H : Hp) (us : List Value) (vs : List V) (L : Lg), Has H L → Inv X pins (vals η) H s → Vals vs us → φ vs L → wpAny (model X.prog X.w) X.A (call (.ref f) (args us).pos (args us).kw) (EP X pins (vals η) (up Q)) X.xe s
theorem gf_of {f : Addr} {args : List Value → Args} (F : RunG X.prog X.w X.K X.mg X.base CX k f args (toSp sp)) (hr : RoomG j X.A) (hx : Passes CX X (upX El)) (hjk : k ≤ j := by decide) : GF X η f args (fun vs L => sp vs L Q El) Q := fun _ _ _ _ _ _ hH I r h => run_G F (hr.mono hjk) hx I r (up_sp hH h)
theorem gf_ofX {f : Addr} {args : List Value → Args} (F : RunG X.prog X.w X.K X.mg X.base (L2.CX X.prog X.w) k f args (toSp sp)) (hN : X.N = names η) (hr : RoomG j X.A) (tk : Tk X W) (hjk : k ≤ j := by decide) : GF X η f args (fun vs L => sp vs L Q fun c d L' => W c d η L') Q := fun _ _ _ _ _ _ hH I r h => run_x F (hr.mono hjk) tk hN hH I r h
/-- f(.., k = v, ..) -/
theorem ge_kw {n : Nat} {ks : List Str} {f : Addr} {φ : List V → Lg → Prop} (hm : X.mg x = some (.ref f)) (hk : PySem.W.keepIn X.K (.ref f) = true) (F : X.N = names η → GF X η f (argsK n ks) φ Q) (h : GA X (e :: es) η L fun vs L1 => GK X kws η L1 fun ws L2 => vs.length = n ∧ φ (vs ++ ws) L2)
    (hks : (backToKw pos (keywordEach kws X.env)).filterMap (·.1) = ks := by rfl) (hall : (backToKw pos (keywordEach kws X.env)).all (·.1.isSome) = true := by rfl) (hg : Gl X x := by rfl) (hd : (x == ("__debug__" : Str)) = false := by decide)
    (he : starEach (e :: es) X.env = (false, eval e X.env) :: starEach es X.env := by rfl) (hpl : ((backTo pos (starEach (e :: es) X.env)).any (·.1) || (backToKw pos (keywordEach kws X.env)).any (·.1.isNone)) = false := by rfl) : GE X (.Call (.Name x p) (e :: es) kws pos) η L Q := fun hN H hH pins s I => by
  refine wpAny_Call_Name_kw (ld_glob I hg hm ?_ hd)
  refine PySem.W.callWith_KW (h₀ := X.base) I.ok.mod.kin hk hall (thn (h hN H hH pos pins s I) fun us s1 ⟨vs, H1, I1, r1, L1, h1, q1⟩ => ?_) hpl he
  refine thn (GK.run (Q := fun _ _ => True) q1 hN pos pins s1 H1 h1 I1) fun ws s2 ⟨zs, H2, I2, r2, L2, h2, ln, q2⟩ => ⟨I2.kIn, ?_⟩
  have l1 : us.length = n := r1.length.symm.trans ln
  have z := F hN pins s2 H2 (us ++ ws) (vs ++ zs) L2 h2 I2 (r1.append r2) q2
  have e1 : (us ++ ws).take n = us := by rw [← l1]; exact List.take_left
  have e2 : (us ++ ws).drop n = ws := by rw [← l1]; exact List.drop_left
  rw [hks]
  show wpAny _ _ (call (.ref f) us (ks.zip ws)) _ _ _
  have z' : wpAny (model X.prog X.w) X.A (call (.ref f) ((us ++ ws).take n) (ks.zip ((us ++ ws).drop n))) (EP X pins (vals η) (up Q)) X.xe s2 := z
  rw [e1, e2] at z'
  exact z'
theorem ge_kw0 {ks : List Str} {f : Addr} {φ : List V → Lg → Prop} (hm : X.mg x = some (.ref f)) (hk : PySem.W.keepIn X.K (.ref f) = true) (F : X.N = names η → GF X η f (argsK 0 ks) φ Q) (h : GK X kws η L φ)
    (hks : (backToKw pos (keywordEach kws X.env)).filterMap (·.1) = ks := by rfl) (hall : (backToKw pos (keywordEach kws X.env)).all (·.1.isSome) = true := by rfl) (hg : Gl X x := by rfl) (hd : (x == ("__debug__" : Str)) = false := by decide)
    (hpl : ((backTo pos (starEach [] X.env)).any (·.1) || (backToKw pos (keywordEach kws X.env)).any (·.1.isNone)) = false := by rfl) : GE X (.Call (.Name x p) [] kws pos) η L Q := fun hN H hH pins s I => by
  refine wpAny_Call_Name_kw (ld_glob I hg hm ?_ hd)
  refine PySem.W.callWith_KW0 (h₀ := X.base) I.ok.mod.kin hk hall (thn (GK.run (Q := fun _ _ => True) h hN pos pins s H hH I) fun ws s2 ⟨zs, H2, I2, r2, L2, h2, q2⟩ => ⟨I2.kIn, ?_⟩) hpl
  rw [hks]
  exact F hN pins s2 H2 ws zs L2 h2 I2 r2 q2
/-- a def by its name, as a value -/
theorem gv_def {f : Addr} (hm : X.mg x = some (.ref f)) (q : Q (.ref f) L) (hg : Gl X x := by rfl) (hd : (x == ("__debug__" : Str)) = false := by decide) : GE X (.Name x pos) η L Q := ge_con (pe_glob (v := .ref f) hg hm rfl hd) q
/-- a local name that holds a def, called -/
theorem ge_callL {f : Addr} {φ : List V → Lg → Prop} (hat : At x (.ref f) η) (hk : PySem.W.keepIn X.K (.ref f) = true) (F : X.N = names η → GF X η f argsP φ Q) (h : GA X (e :: es) η L φ) (hv : Vis X.env.scope x := by first | exact Or.inl rfl | exact Or.inr (Or.inl rfl) | exact Or.inr (Or.inr rfl))
    (hd : (x == ("__debug__" : Str)) = false := by decide) (hcd : (x == ("__classdict__" : Str)) = false := by decide) (he : starEach (e :: es) X.env = (false, eval e X.env) :: starEach es X.env := by rfl) (hpl : (backTo pos (starEach es X.env)).any (·.1) = false := by rfl) : GE X (.Call (.Name x p) (e :: es) [] pos) η L Q := fun hN H hH pins s I => by
  obtain ⟨i, h1, h2⟩ := hat.idx
  refine wpAny_Call_Name_kw (thn ((pe_var (pos := p) (i := i) (by rw [hN]; exact h1) hv hd hcd).run pins s (vals η) H (fun v H1 => v = .ref f ∧ H1 = H) I ⟨.ref f, h2, rfl, rfl⟩) fun u s1 ⟨v, H1, I1, r1, q1⟩ => ?_)
  obtain ⟨rfl, rfl⟩ := q1
  cases r1
  exact PySem.W.callWith_K (h₀ := X.base) I1.ok.mod.kin hk (thn (h hN H1 hH pos pins s1 I1) fun us s2 ⟨vs, H2, I2, r, L2, h2, q⟩ => ⟨I2.kIn, F hN pins s2 H2 us vs L2 h2 I2 r q⟩) he hpl
theorem ge_callL0 {f : Addr} {φ : List V → Lg → Prop} (hat : At x (.ref f) η) (hk : PySem.W.keepIn X.K (.ref f) = true) (F : X.N = names η → GF X η f argsP φ Q) (h : φ [] L) (hv : Vis X.env.scope x := by first | exact Or.inl rfl | exact Or.inr (Or.inl rfl) | exact Or.inr (Or.inr rfl))
    (hd : (x == ("__debug__" : Str)) = false := by decide) (hcd : (x == ("__classdict__" : Str)) = false := by decide) : GE X (.Call (.Name x p) [] [] pos) η L Q := fun hN H hH pins s I => by
  obtain ⟨i, h1, h2⟩ := hat.idx
  refine wpAny_Call_Name_kw (thn ((pe_var (pos := p) (i := i) (by rw [hN]; exact h1) hv hd hcd).run pins s (vals η) H (fun v H1 => v = .ref f ∧ H1 = H) I ⟨.ref f, h2, rfl, rfl⟩) fun u s1 ⟨v, H1, I1, r1, q1⟩ => ?_)
  obtain ⟨rfl, rfl⟩ := q1
  cases r1
  exact PySem.W.callWith_K0 I1.kIn hk (F hN pins s1 H1 [] [] L hH I1 .nil h)
end
/-- a maker's table, from what the written part holds -/
theorem tab_mk {K : PySem.W.Frag} {x n q : Str} {f c P : Addr} {oc kV doc pm ct e : Value} {od an dd : Option Addr} {osl sl : Array (Option Value)} {vs : Array Value} {a : Arguments} {b : List Stmt} {sc : Scope} (h1 : PySem.W.nsIn K mainGlobals x = some (some (.ref f)))
    (h2 : K.lookup f = some ⟨oc, od, .func (PySem.W.fnOf n q a b sc .none kV doc pm an (.ref c) ct), osl⟩) (h3 : K.lookup c = some ⟨e, dd, .fields vs, sl⟩) (h4 : vs[11]? = some (.ref P)) : PySem.W.tabIn K x = some (c, P) := by
  unfold PySem.W.tabIn
  rw [h1]
  simp only [h2]
  show (match K.lookup c with | some ⟨_, _, .fields vs, _⟩ => (match (vs[11]? : Option Value) with | some (.ref P) => some (c, P) | _ => none) | _ => none) = _
  simp only [h3, h4]
section
variable {X : Cx} {η : En} {L : Lg} {Q : QV} {pos : Pos}
theorem gv_ValueError (B : Bi X.mg) (q : Q (.ty "ValueError") L) (hg : Gl X "ValueError" := by rfl) : GE X (.Name "ValueError" pos) η L Q := ge_tyName B.ValueError bt_ValueError q hg (by decide) (by decide)
theorem gv_LookupError (B : Bi X.mg) (q : Q (.ty "LookupError") L) (hg : Gl X "LookupError" := by rfl) : GE X (.Name "LookupError" pos) η L Q := ge_tyName B.LookupError bt_LookupError q hg (by decide) (by decide)
/-- {} -/
theorem ge_dict0 (h : ∀ p, Q (.ref p) ((p, .dK []) :: L)) : GE X (.Dict [] [] pos) η L Q := fun _ H hH => WE.of pe_dnewK fun p hp => ⟨_, hH.new hp, h p⟩
theorem gb_repr {e : Expr} {p : Pos} {k : Nat} (B : Bi X.mg) (hr : RoomG k X.A) (h : GE X e η L fun v L1 => ∃ d, Rd L1 v d ∧ d.showable = true ∧ d.depth ≤ 60 ∧ d.shown.length ≤ sizeLine ∧ Q (.str d.shown) L1) (hg : Gl X "repr" := by rfl) (hs : starEach [e] X.env = (false, eval e X.env) :: starEach [] X.env := by rfl) :
    GE X (.Call (.Name "repr" p) [e] [] pos) η L Q :=
  ge_B B.repr (by decide +kernel) (ga_cons (h.imp fun v L1 ⟨d, r, s, dp, z, q⟩ => ga_nil (gc_repr hr r s dp z q)) hs) hg (by decide) (by decide) hs rfl
end
end G

set_option Elab.async false
set_option linter.all false
set_option maxRecDepth 100000
set_option maxHeartbeats 4000000
/-! More operators; how long a repr is. -/
namespace G
open PySem PySem.Spec PyProof.Rows L2
section
variable {X : Cx} {η : En} {L : Lg} {Q : QV} {p q : Addr} {xs ys : List V} {i k : Int}
theorem go_cat (m1 : (p, HO.lst xs) ∈ L) (m2 : (q, HO.lst ys) ∈ L) (z : xs.length + ys.length ≤ sizeLine) (h : ∀ r, Q (.ref r) ((r, .lst (xs ++ ys)) :: L)) : GOp X (binaryOp .Add) (.ref p) (.ref q) L Q := GOp.of op_cat fun H hH => ⟨p, q, xs, ys, rfl, rfl, hH.get m1, hH.get m2, z, fun r hr => ⟨_, hH.new hr, h r⟩⟩
theorem go_rep (m1 : (p, HO.lst xs) ∈ L) (k0 : -(2 ^ 63) ≤ k) (k1 : k < 2 ^ 63) (z : xs.length * k.toNat ≤ sizeLine) (h : ∀ r, Q (.ref r) ((r, .lst (List.replicate k.toNat xs).flatten) :: L)) : GOp X (binaryOp .Mult) (.ref p) (.int k) L Q := GOp.of op_rep fun H hH => ⟨p, k, xs, rfl, rfl, hH.get m1, k0, k1, z, fun r hr => ⟨_, hH.new hr, h r⟩⟩
theorem go_isB {a b : Bool} (h : Q (.bl (decide (a = b))) L) : GOp X (compareOp .Is) (.bl a) (.bl b) L Q := GOp.of op_isBl fun H hH => ⟨a, b, rfl, rfl, L, hH, h⟩
theorem gc_minL {ns : List Int} (hc : X.calm = true) (m : (p, HO.lst (ns.map V.int)) ∈ L) (h0 : 0 < ns.length) (h : ∀ r, r ∈ ns → (∀ y ∈ ns, r ≤ y) → Q (.int r) L) : GC X (.builtin "min") [.ref p] L Q := GC.of (cr_min hc) fun H hH => ⟨p, ns, rfl, sql hH m, h0, fun r a b => ⟨L, hH, h r a b⟩⟩
/-- lists of ints compared -/
theorem go_eqI {j : Nat} {ns ms : List Int} (hr : RoomG j X.A) (m1 : (p, HO.lst (ns.map V.int)) ∈ L) (m2 : (q, HO.lst (ms.map V.int)) ∈ L) (h : Q (.bl (decide (ns = ms))) L) : GOp X (compareOp .Eq) (.ref p) (.ref q) L Q :=
  go_eqD hr.toRoom (dl_lst m1 dls_ints) (dl_lst m2 dls_ints) (shapedL _) (shapedL _) (by rw [eqvL]; exact h)
theorem go_neI {j : Nat} {ns ms : List Int} (hr : RoomG j X.A) (m1 : (p, HO.lst (ns.map V.int)) ∈ L) (m2 : (q, HO.lst (ms.map V.int)) ∈ L) (h : Q (.bl (!decide (ns = ms))) L) : GOp X (compareOp .NotEq) (.ref p) (.ref q) L Q :=
  go_neD hr.toRoom (dl_lst m1 dls_ints) (dl_lst m2 dls_ints) (shapedL _) (shapedL _) (by rw [eqvL]; exact h)
end
/-- a datum that repr shows, within n signs and k levels -/
structure Sh (d : PyData) (n k : Nat) : Prop where
  s : d.showable = true
  dp : d.depth ≤ k
  l : d.shown.length ≤ n
theorem sh_non : Sh .none 4 0 := ⟨by rw [PyData.showable], by rw [PyData.depth]; exact Nat.le_refl _, by rw [PyData.shown]; decide⟩
theorem sh_bl {b : Bool} : Sh (.bool b) 5 0 := ⟨by rw [PyData.showable], by rw [PyData.depth]; exact Nat.le_refl _, by rw [PyData.shown]; cases b <;> decide⟩
theorem log_lt {i : Int} (h : i.natAbs < 2 ^ 1920) : i.natAbs.log2 < 1920 := by
  by_cases z : i.natAbs = 0
  · rw [z]
    decide
  · exact (Nat.log2_lt z).mpr h
theorem sh_int {i : Int} (h : i.natAbs < 2 ^ 1920) : Sh (.int i) 1921 0 := ⟨by rw [PyData.showable]; exact decide_eq_true (log_lt h), by rw [PyData.depth]; exact Nat.le_refl _, by rw [PyData.shown]; exact int_text_len_1921 (log_lt h)⟩
theorem showAll_of {n k : Nat} : ∀ {xs : List PyData}, (∀ x ∈ xs, Sh x n k) → PyData.showableAll xs = true
  | [], _ => by rw [PyData.showableAll]
  | x :: xs, h => by
    rw [PyData.showableAll, (h x (List.mem_cons_self ..)).s, Bool.true_and]
    exact showAll_of fun y hy => h y (List.mem_cons_of_mem _ hy)
theorem depthAll_of {n k : Nat} : ∀ {xs : List PyData}, (∀ x ∈ xs, Sh x n k) → PyData.depthAll xs ≤ k
  | [], _ => by simp [PyData.depthAll]
  | x :: xs, h => by
    have a := (h x (List.mem_cons_self ..)).dp
    have b := depthAll_of (xs := xs) fun y hy => h y (List.mem_cons_of_mem _ hy)
    simp only [PyData.depthAll]
    omega
theorem lenAll_of {n k : Nat} : ∀ {xs : List PyData}, (∀ x ∈ xs, Sh x n k) → ((PyData.shownAll xs).map (·.length)).sum ≤ n * xs.length ∧ (PyData.shownAll xs).length = xs.length
  | [], _ => by simp [PyData.shownAll]
  | x :: xs, h => by
    have a := (h x (List.mem_cons_self ..)).l
    have b := lenAll_of (xs := xs) fun y hy => h y (List.mem_cons_of_mem _ hy)
    rw [PyData.shownAll]
    simp only [List.map_cons, List.sum_cons, List.length_cons, Nat.mul_succ]
    omega
theorem sh_list {n k m : Nat} {xs : List PyData} (h : ∀ x ∈ xs, Sh x n k) (hm : xs.length ≤ m) : Sh (.list xs) (n * m + 2 * m + 3) (k + 1) := by
  have a := lenAll_of h
  have b := listText_len_le (PyData.shownAll xs)
  have c : n * xs.length ≤ n * m := Nat.mul_le_mul_left _ hm
  refine ⟨by rw [PyData.showable]; exact showAll_of h, by rw [PyData.depth]; exact Nat.succ_le_succ (depthAll_of h), by rw [PyData.shown]; omega⟩
theorem Sh.up {d : PyData} {n k n' k' : Nat} (h : Sh d n k) (a : n ≤ n') (b : k ≤ k') : Sh d n' k' := ⟨h.s, Nat.le_trans h.dp b, Nat.le_trans h.l a⟩
theorem sh_ints {ns : List Int} {m : Nat} (h : ∀ i ∈ ns, i.natAbs < 2 ^ 1920) (hm : ns.length ≤ m) : Sh (.list (ns.map PyData.int)) (1921 * m + 2 * m + 3) 1 := sh_list (k := 0) (fun x hx => by
  obtain ⟨i, hi, rfl⟩ := List.mem_map.mp hx
  exact sh_int (h i hi)) (by rw [List.length_map]; exact hm)
section
variable {X : Cx} {η : En} {L : Lg} {Q : QV} {e : Expr} {p pos : Pos} {k n m : Nat}
/-- repr(e), by the datum's measure -/
theorem gb_reprS (B : Bi X.mg) (hr : RoomG k X.A) (h : GE X e η L fun v L1 => ∃ d n m, Rd L1 v d ∧ Sh d n m ∧ m ≤ 60 ∧ n ≤ sizeLine ∧ Q (.str d.shown) L1) (hg : Gl X "repr" := by rfl) (hs : starEach [e] X.env = (false, eval e X.env) :: starEach [] X.env := by rfl) :
    GE X (.Call (.Name "repr" p) [e] [] pos) η L Q := gb_repr B hr (h.imp fun v L1 ⟨d, n, m, r, s, a, b, q⟩ => ⟨d, r, s.s, Nat.le_trans s.dp a, Nat.le_trans s.l b, q⟩) hg hs
theorem szL (h : n ≤ 16777216) : n ≤ sizeLine := by
  rw [sizeLine_eq]
  exact h
end
/-! ### comprehensions whose parts leave all as it is -/
theorem range_more {p : Nat → Bool} {g : Nat → V} {i : Nat} : ((List.range (i + 1)).filter p).map g = ((List.range i).filter p).map g ++ (if p i = true then [g i] else []) := by
  rw [List.range_succ, List.filter_append, List.map_append]
  congr 1
  by_cases h : p i = true
  · rw [if_pos h, List.filter_cons_of_pos h]
    rfl
  · rw [if_neg h, List.filter_cons_of_neg h]
    rfl
theorem GTs.sub {X : Cx} {ifs : List Expr} {η : En} {L M : Lg} {Q : Bool → Lg → Prop} (s : Sub M L) (h : GTs X ifs η M fun b M1 => ∀ M2, Sub M1 M2 → Q b M2) : GTs X ifs η L Q := by
  match ifs, h with
  | [], h => exact h _ s
  | [c], h => exact GT.sub s (h.imp fun b M1 q => q _ .refl)
section
variable {X : Cx} {η : En} {L : Lg} {elt iter tg : Expr} {ifs : List Expr} {scope : Scope} {pos p1 p2 p3 : Pos} {x y : Str} {f : V → En} {Q : QV}
/-- what such a comprehension is shown of; st: how an item is stored -/
structure PureC (X : Cx) (scope : Scope) (ifs : List Expr) (elt : Expr) (S : Src) (L : Lg) (st : V → Lg → (En → Lg → Prop) → Prop) (p : Nat → Bool) (g : Nat → V) : Prop where
  n : S.n ≤ 1000000
  kp : ∀ M, (∀ e ∈ L, e ∈ M) → S.keep M
  tn : ∀ i x E D acc M, i < S.n → S.item i x E → ((E ++ M).map (·.1)).Nodup → Sub ((D, .lst acc) :: L) M → st x (E ++ M) fun θ M' => AllBlk X scope fun B => GTs B ifs θ M' fun b M1 => b = p i ∧ Sub ((D, .lst acc) :: L) M1 ∧ (b = true → AllBlk X scope fun B => GE B elt θ M1 fun z M2 => z = g i ∧ Sub ((D, .lst acc) :: L) M2)
theorem GE.undrp {e : Expr} (h : GE X e η L (drp Q)) : GE X e η L Q := fun hN H hH => (h hN H hH).mono fun v H' ⟨M, hM, N, s, q⟩ => ⟨N, s H' hM, q⟩
theorem GS.undrp {st : Stmt} {D : GD} (h : GS X st { D with nx := fun θ M => ∃ N, Sub N M ∧ D.nx θ N } η L) : GS X st D η L := fun hN H hH =>
  (h hN H hH).mono (fun σ H' ⟨θ, M, n1, es, hM, N, s, q⟩ => ⟨θ, N, n1, es, s H' hM, q⟩) (fun _ _ z => z) (fun _ _ z => z) fun _ _ z => z
theorem filter_le {p : Nat → Bool} {g : Nat → V} {i : Nat} : (((List.range i).filter p).map g).length ≤ i := by
  rw [List.length_map]
  exact Nat.le_trans (List.length_filter_le _ _) (by rw [List.length_range]; exact Nat.le_refl _)
theorem PureC.lc {S : Src} {st : V → Lg → (En → Lg → Prop) → Prop} {p : Nat → Bool} {g : Nat → V} (h : PureC X scope ifs elt S L st p g) (mono : ∀ v M (k k' : En → Lg → Prop), (∀ θ M', k θ M' → k' θ M') → st v M k → st v M k') (D : Addr)
    (q : Q (.ref D) ((D, .lst (((List.range S.n).filter p).map g)) :: L)) : ∃ Pv, LcS X scope ifs elt S D L st Pv (drp Q) := by
  refine ⟨fun i M => Sub ((D, .lst (((List.range i).filter p).map g)) :: L) M, Sub.refl, fun i M _ nd s => h.kp M fun e m => (s.to nd).2 e (List.mem_cons_of_mem _ m), fun i x E M hi it nd s => ?_, fun M s => ⟨_, s, q⟩⟩
  refine mono x (E ++ M) _ _ (fun θ M' k => ?_) (h.tn i x E D _ M hi it nd s)
  intro s1 H1 C1 cl1 fp1
  have k1 := k s1 H1 C1 cl1 fp1
  have more := range_more (p := p) (g := g) (i := i)
  have key : ∀ b M1, (b = p i ∧ Sub ((D, .lst (((List.range i).filter p).map g)) :: L) M1 ∧ (b = true → AllBlk X scope fun B => GE B elt θ M1 fun z M2 => z = g i ∧ Sub ((D, .lst (((List.range i).filter p).map g)) :: L) M2)) →
      if b = true then AllBlk X scope fun B => GE B elt θ M1 fun y M2 => ∃ acc M3, (D, HO.lst acc) ∈ M2 ∧ acc.length < sizeLine ∧ Swap D (.lst (acc ++ [y])) M2 M3 ∧ Sub ((D, .lst (((List.range (i + 1)).filter p).map g)) :: L) M3 else Sub ((D, .lst (((List.range (i + 1)).filter p).map g)) :: L) M1 := fun b M1 ⟨eb, sb, hb⟩ => by
    cases b with
    | true =>
      rw [if_pos rfl]
      intro s2 H2 C2 cl2 fp2
      refine GE.nd ((hb rfl s2 H2 C2 cl2 fp2).imp fun y M2 ⟨ey, s3⟩ nd => ?_)
      have m2 := (s3.to nd).2 _ List.mem_cons_self
      obtain ⟨M3, sw⟩ := Swap.ex (o := .lst (((List.range i).filter p).map g ++ [y])) (u := .lst (((List.range i).filter p).map g)) rfl m2
      refine ⟨_, M3, m2, ?_, sw, ?_⟩
      · have := filter_le (p := p) (g := g) (i := i)
        have := h.n
        rw [sizeLine_eq]
        omega
      · rw [more, if_pos eb.symm, ← ey]
        exact s3.swap sw
    | false =>
      rw [if_neg Bool.false_ne_true, more, if_neg (by rw [← eb]; exact Bool.false_ne_true), List.append_nil]
      exact sb
  match ifs, k1 with
  | [], k1 => exact key _ _ k1
  | [c], k1 => exact k1.imp fun b M1 z => key b M1 z
theorem GI.imp {Q Q' : Src → Lg → Prop} (h : GI X tg iter η L Q) (m : ∀ S L1, Q S L1 → Q' S L1) : GI X tg iter η L Q' := fun hN H hH pins s I =>
  wpAny_mono (h hN H hH pins s I) (fun v s1 z => wpAny_mono z (fun itv s2 ⟨it, fp, tn, J, H1, ev, I2, T, t0, f2, L1, S, k1, ok, q⟩ => ⟨it, fp, tn, J, H1, ev, I2, T, t0, f2, L1, S, k1, ok, m S L1 q⟩) fun _ _ z => z) fun _ _ z => z
/-- what is shown of a pure comprehension: R what holds of the new list -/
def PureL (X : Cx) (scope : Scope) (ifs : List Expr) (elt : Expr) (st : V → Lg → (En → Lg → Prop) → Prop) (R : V → Lg → Prop) (S : Src) (L1 : Lg) : Prop := ∃ p g, PureC X scope ifs elt S L1 st p g ∧ ∀ D, R (.ref D) ((D, .lst (((List.range S.n).filter p).map g)) :: L1)
abbrev stOne (f : V → En) : V → Lg → (En → Lg → Prop) → Prop := fun v M k => k (f v) M
abbrev stTwo (g : V → V → En) : V → Lg → (En → Lg → Prop) → Prop := fun v M k => ∃ p a b, v = .ref p ∧ (p, HO.tup [a, b]) ∈ M ∧ k (g a b) M
theorem monoOne {f : V → En} : ∀ v M (k k' : En → Lg → Prop), (∀ θ M', k θ M' → k' θ M') → stOne f v M k → stOne f v M k' := fun _ _ _ _ m z => m _ _ z
theorem monoTwo {g : V → V → En} : ∀ v M (k k' : En → Lg → Prop), (∀ θ M', k θ M' → k' θ M') → stTwo g v M k → stTwo g v M k' := fun _ _ _ _ m ⟨p, a, b, e, h, z⟩ => ⟨p, a, b, e, h, m _ _ z⟩
/-- [elt for x in iter if ..], all parts pure -/
theorem ge_lcP (P : PutF x η f) (h : GI X (.Name x p1) iter η L (PureL X scope ifs elt (stOne f) Q)) (hb : blkC X.N X.env.scope scope [(x, X.N.idxOf x)] = true) (hlx : LocB X scope x := by exact fun _ _ _ _ _ => ⟨.inl rfl, .inr rfl⟩)
    (hN : X.N.Nodup := by assumption) (hc : X.calm = true := by rfl) (hs : ∀ z, foldedSetIterable iter X.env z = pure z := by intro _; rfl) : GE X (.ListComp elt [⟨.Name x p1, iter, ifs, 0⟩] scope pos) η L Q :=
  GE.undrp (ge_lc1 P (h.imp fun S L1 ⟨p, g, pc, q⟩ D => pc.lc monoOne D (q D)) hb hlx hN hc hs)
theorem ge_lcP2 {g : V → V → En} {kt : Nat} {pt : Pos} (P : PutF x η f) (R : ∀ v, PutF y (f v) (g v)) (h : GI X (.Tuple [.Name x p1, .Name y p2] kt pt) iter η L (PureL X scope ifs elt (stTwo g) Q)) (hxy : x ≠ y) (hb : blkC X.N X.env.scope scope [(x, X.N.idxOf x), (y, X.N.idxOf y)] = true) (hlx : LocB X scope x := by exact fun _ _ _ _ _ => ⟨.inl rfl, .inr rfl⟩) (hly : LocB X scope y := by exact fun _ _ _ _ _ => ⟨.inl rfl, .inr rfl⟩)
    (hN : X.N.Nodup := by assumption) (hc : X.calm = true := by rfl) (hs : ∀ z, foldedSetIterable iter X.env z = pure z := by intro _; rfl) : GE X (.ListComp elt [⟨.Tuple [.Name x p1, .Name y p2] kt pt, iter, ifs, 0⟩] scope pos) η L Q :=
  GE.undrp (ge_lc2 P R (h.imp fun S L1 ⟨p, g, pc, q⟩ D => pc.lc monoTwo D (q D)) hxy hb hlx hly hN hc hs)
theorem gs_lcP {D : GD} {fy : V → En} {py : Pos} (Py : PutF y η fy) (P : PutF x η f) (h : GI X (.Name x p1) iter η L (PureL X scope ifs elt (stOne f) fun v M => D.nx (fy v) M)) (hb : blkC X.N X.env.scope scope [(x, X.N.idxOf x)] = true) (hlx : LocB X scope x := by exact fun _ _ _ _ _ => ⟨.inl rfl, .inr rfl⟩)
    (hyl : X.env.scope.names.lookup y = some .local := by rfl) (hsw : swapsWith (.ListComp elt [⟨.Name x p1, iter, ifs, 0⟩] scope pos) (some (.Name y py)) p3.line X.env = pure true := by rfl)
    (hN : X.N.Nodup := by assumption) (hc : X.calm = true := by rfl) (hs : ∀ z, foldedSetIterable iter X.env z = pure z := by intro _; rfl) : GS X (.Assign [.Name y py] (.ListComp elt [⟨.Name x p1, iter, ifs, 0⟩] scope pos) p3) D η L :=
  GS.undrp (gs_lc1 Py P (h.imp fun S L1 ⟨p, g, pc, q⟩ d => pc.lc (Q := fun v M => D.nx (fy v) M) monoOne d (q d)) hb hlx hyl hsw hN hc hs)
theorem gs_lcP2 {D : GD} {fy : V → En} {z : Str} {pz : Pos} {g : V → V → En} {kt : Nat} {pt : Pos} (Pz : PutF z η fy) (P : PutF x η f) (R : ∀ v, PutF y (f v) (g v)) (h : GI X (.Tuple [.Name x p1, .Name y p2] kt pt) iter η L (PureL X scope ifs elt (stTwo g) fun v M => D.nx (fy v) M)) (hxy : x ≠ y) (hb : blkC X.N X.env.scope scope [(x, X.N.idxOf x), (y, X.N.idxOf y)] = true) (hlx : LocB X scope x := by exact fun _ _ _ _ _ => ⟨.inl rfl, .inr rfl⟩) (hly : LocB X scope y := by exact fun _ _ _ _ _ => ⟨.inl rfl, .inr rfl⟩)
    (hzl : X.env.scope.names.lookup z = some .local := by rfl) (hsw : swapsWith (.ListComp elt [⟨.Tuple [.Name x p1, .Name y p2] kt pt, iter, ifs, 0⟩] scope pos) (some (.Name z pz)) p3.line X.env = pure true := by rfl)
    (hN : X.N.Nodup := by assumption) (hc : X.calm = true := by rfl) (hs : ∀ z, foldedSetIterable iter X.env z = pure z := by intro _; rfl) : GS X (.Assign [.Name z pz] (.ListComp elt [⟨.Tuple [.Name x p1, .Name y p2] kt pt, iter, ifs, 0⟩] scope pos) p3) D η L :=
  GS.undrp (gs_lc2 Pz P R (h.imp fun S L1 ⟨p, g, pc, q⟩ d => pc.lc (Q := fun v M => D.nx (fy v) M) monoTwo d (q d)) hxy hb hlx hly hzl hsw hN hc hs)
end
theorem filter_ints {ns : List Int} {t : Int → Bool} {g : Nat → V} {p : Nat → Bool} (hp : ∀ i n, ns[i]? = some n → p i = t n ∧ g i = .int n) : ((List.range ns.length).filter p).map g = (ns.filter t).map V.int := by
  have key : ∀ k, k ≤ ns.length → ((List.range k).filter p).map g = ((ns.take k).filter t).map V.int := fun k => by
    induction k with
    | zero => intro _; rfl
    | succ k ih =>
      intro hk
      have e : ns[k]? = some ns[k] := List.getElem?_eq_getElem (by omega)
      obtain ⟨a, b⟩ := hp k _ e
      rw [range_more, ih (by omega), List.take_succ, e, List.filter_append, List.map_append, a, b]
      congr 1
      by_cases h : t ns[k] = true
      · rw [if_pos h]
        show _ = (List.filter t [ns[k]]).map V.int
        rw [List.filter_cons_of_pos h]
        rfl
      · rw [if_neg h]
        show _ = (List.filter t [ns[k]]).map V.int
        rw [List.filter_cons_of_neg h]
        rfl
  have z := key ns.length (Nat.le_refl _)
  rw [List.take_length] at z
  exact z
theorem filter_list {xs : List V} {t : V → Bool} {g : V → V} {p : Nat → Bool} {h : Nat → V} (hp : ∀ i v, xs[i]? = some v → p i = t v ∧ h i = g v) : ((List.range xs.length).filter p).map h = (xs.filter t).map g := by
  have key : ∀ k, k ≤ xs.length → ((List.range k).filter p).map h = ((xs.take k).filter t).map g := fun k => by
    induction k with
    | zero => intro _; rfl
    | succ k ih =>
      intro hk
      have e : xs[k]? = some xs[k] := List.getElem?_eq_getElem (by omega)
      obtain ⟨a, b⟩ := hp k _ e
      rw [range_more, ih (by omega), List.take_succ, e, List.filter_append, List.map_append, a, b]
      congr 1
      by_cases z : t xs[k] = true
      · rw [if_pos z]
        show _ = (List.filter t [xs[k]]).map g
        rw [List.filter_cons_of_pos z]
        rfl
      · rw [if_neg z]
        show _ = (List.filter t [xs[k]]).map g
        rw [List.filter_cons_of_neg z]
        rfl
  have z := key xs.length (Nat.le_refl _)
  rw [List.take_length] at z
  exact z
section
variable {X : Cx} {L : Lg} {elt : Expr} {ifs : List Expr} {scope : Scope} {f : V → En} {R : V → Lg → Prop} {q : Addr} {xs : List V} {t : V → Bool} {g : V → V}
/-- a pure comprehension's turn: the test, then the element -/
abbrev TurnP (X : Cx) (scope : Scope) (ifs : List Expr) (elt : Expr) (L : Lg) (θ : En) (b0 : Bool) (z0 : V) : Prop := ∀ D acc, AllBlk X scope fun B => GTs B ifs θ ((D, .lst acc) :: L) fun b M1 => b = b0 ∧ Sub ((D, .lst acc) :: L) M1 ∧ (b = true → AllBlk X scope fun B => GE B elt θ M1 fun z M2 => z = z0 ∧ Sub ((D, .lst acc) :: L) M2)
theorem turnP_use {st : V → Lg → (En → Lg → Prop) → Prop} {θ : En} {b0 : Bool} {z0 : V} (h : TurnP X scope ifs elt L θ b0 z0) {D : Addr} {acc : List V} {M : Lg} (s : Sub ((D, .lst acc) :: L) M) :
    AllBlk X scope fun B => GTs B ifs θ M fun b M1 => b = b0 ∧ Sub ((D, .lst acc) :: L) M1 ∧ (b = true → AllBlk X scope fun B => GE B elt θ M1 fun z M2 => z = z0 ∧ Sub ((D, .lst acc) :: L) M2) := fun s1 H1 C1 cl1 fp1 => by
  refine GTs.sub s ?_
  have k := h D acc s1 H1 C1 cl1 fp1
  have key : ∀ b M1, (b = b0 ∧ Sub ((D, .lst acc) :: L) M1 ∧ (b = true → AllBlk X scope fun B => GE B elt θ M1 fun z M2 => z = z0 ∧ Sub ((D, .lst acc) :: L) M2)) → ∀ M2, Sub M1 M2 → b = b0 ∧ Sub ((D, .lst acc) :: L) M2 ∧ (b = true → AllBlk X scope fun B => GE B elt θ M2 fun z M2 => z = z0 ∧ Sub ((D, .lst acc) :: L) M2) :=
    fun b M1 ⟨e, s1, k⟩ M2 s2 => ⟨e, s1.trans s2, fun hb s3 H3 C3 cl3 fp3 => GE.sub s2 (k hb s3 H3 C3 cl3 fp3)⟩
  match ifs, k with
  | [], k => exact key _ _ k
  | [c], k => exact k.imp key
/-- over a list -/
theorem pure_list (mq : (q, HO.lst xs) ∈ L) (hl : xs.length ≤ 1000000) (ht : ∀ v ∈ xs, TurnP X scope ifs elt L (f v) (t v) (g v)) (r : ∀ D, R (.ref D) ((D, .lst ((xs.filter t).map g)) :: L)) : PureL X scope ifs elt (stOne f) R ⟨xs.length, KeepL q xs, itemAt xs⟩ L := by
  refine ⟨fun i => t (xs[i]?.getD .non), fun i => g (xs[i]?.getD .non), ⟨hl, fun M h => h _ mq, fun i x E D acc M hi ⟨hx, hE⟩ _ s => ?_⟩, fun D => ?_⟩
  · subst hE
    have e : xs[i]?.getD .non = x := by rw [hx] <;> rfl
    rw [e]
    exact turnP_use (st := stOne f) (ht x (List.mem_of_getElem? hx)) s
  · have z := filter_list (xs := xs) (t := t) (g := g) (p := fun i => t (xs[i]?.getD .non)) (h := fun i => g (xs[i]?.getD .non)) fun i v e => by
      rw [e]
      exact ⟨rfl, rfl⟩
    show R (.ref D) ((D, .lst (((List.range xs.length).filter _).map _)) :: L)
    rw [z]
    exact r D
/-- over the numbers of a range -/
theorem pure_fn {n : Nat} {h : Nat → V} {p : Nat → Bool} {g : Nat → V} (hl : n ≤ 1000000) (ht : ∀ i, i < n → TurnP X scope ifs elt L (f (h i)) (p i) (g i)) (r : ∀ D, R (.ref D) ((D, .lst (((List.range n).filter p).map g)) :: L)) : PureL X scope ifs elt (stOne f) R ⟨n, fun _ => True, itemFn h⟩ L := by
  refine ⟨p, g, ⟨hl, fun _ _ => True.intro, fun i x E D acc M hi ⟨hx, hE⟩ _ s => ?_⟩, r⟩
  subst hE hx
  exact turnP_use (st := stOne f) (ht i hi) s
end
/-- a list of ints filtered and mapped -/
theorem ints_filter {ns : List Int} {t : V → Bool} {g : V → V} {t' : Int → Bool} {g' : Int → Int} (ht : ∀ n ∈ ns, t (.int n) = t' n) (hg : ∀ n ∈ ns, g (.int n) = .int (g' n)) : ((ns.map V.int).filter t).map g = ((ns.filter t').map g').map V.int := by
  induction ns with
  | nil => rfl
  | cons n ns ih =>
    have ih := ih (fun m hm => ht m (List.mem_cons_of_mem _ hm)) (fun m hm => hg m (List.mem_cons_of_mem _ hm))
    have a := ht n (List.mem_cons_self ..)
    have b := hg n (List.mem_cons_self ..)
    rw [List.map_cons]
    by_cases z : t' n = true
    · rw [List.filter_cons_of_pos (by rw [a]; exact z), List.filter_cons_of_pos z, List.map_cons, List.map_cons, List.map_cons, b, ih]
    · rw [List.filter_cons_of_neg (by rw [a]; exact z), List.filter_cons_of_neg z, ih]
end G

set_option Elab.async false
set_option linter.all false
set_option maxRecDepth 100000
set_option maxHeartbeats 4000000
/-! The pen of the laws: numbers drawn. -/
namespace G
open PySem PySem.Spec PyProof.Rows L2
abbrev penO (c : Addr) (n m : Int) : HO := .lst [.ref c, .int n, .int m]
abbrev celO (ns : List Int) : HO := .lst (ns.map V.int)
def spDraw : SpL := fun vs L Q _ => ∃ (p c : Addr) (ns : List Int) (n m many : Int) (R : Lg), vs = [.ref p, .int many] ∧ Sub ((p, penO c n m) :: (c, celO ns) :: R) L ∧ ns.length ≤ 63 ∧ 0 < many ∧ many < 2 ^ 64 ∧ 0 ≤ n ∧ n ≤ 100000 ∧ 0 ≤ m ∧
  ∀ d n' m', 0 ≤ d → d < many → 0 ≤ n' → n' ≤ n + 1 → 0 ≤ m' → Q (.int d) ((p, penO c n' m') :: (c, celO ns) :: R)
theorem cut63 {ns : List Int} : ∃ ms : List Int, ms.length ≤ 63 ∧ cutV (ns.map V.int) none (some 63) = ms.map V.int := by
  refine ⟨ns.take 63, by rw [List.length_take]; omega, ?_⟩
  unfold cutV
  have e1 : HT.sIx (ns.map V.int).length 0 none = 0 := rfl
  have e2 : HT.sIx (ns.map V.int).length (ns.map V.int).length (some 63) = min 63 (ns.map V.int).length := HT.sIx_nat _ _ 63
  rw [e1, e2, List.drop_zero, Nat.sub_zero, List.map_take, ← List.take_take, List.take_length]
/-- a list, one of which is drawn -/
def spPick : SpL := fun vs L Q _ => ∃ (p c q : Addr) (ns : List Int) (xs : List V) (n m : Int) (R : Lg), vs = [.ref p, .ref q] ∧ Sub ((p, penO c n m) :: (c, celO ns) :: R) L ∧ (q, HO.lst xs) ∈ R ∧ ns.length ≤ 63 ∧ 0 < xs.length ∧ xs.length < 1000 ∧ 0 ≤ n ∧ n ≤ 100000 ∧ 0 ≤ m ∧
  ∀ (k : Nat) (x : V) n' m', xs[k]? = some x → 0 ≤ n' → n' ≤ n + 1 → 0 ≤ m' → Q x ((p, penO c n' m') :: (c, celO ns) :: R)
/-- a part of a law: it draws at most k times and tells True -/
def spRight (k : Int) : SpL := fun vs L Q _ => ∃ (p c : Addr) (ns : List Int) (n m : Int) (R : Lg), vs = [.ref p] ∧ Sub ((p, penO c n m) :: (c, celO ns) :: R) L ∧ ns.length ≤ 63 ∧ 0 ≤ n ∧ n + k ≤ 100000 ∧ 0 ≤ m ∧
  ∀ n' m', 0 ≤ n' → n' ≤ n + k → 0 ≤ m' → Q (.bl true) ((p, penO c n' m') :: (c, celO ns) :: R)
theorem gts_nil {X : Cx} {η : En} {L : Lg} {Q : Bool → Lg → Prop} (q : Q true L) : GTs X [] η L Q := q
theorem tk0 {X : Cx} : Tk X (fun _ _ _ _ => False) := (L2.takes0 (X := X)).imp fun _ _ _ _ ⟨_, _, _, _, _, z⟩ => z.elim
theorem rdSub {L M : Lg} {v : V} {d : PyData} (s : Sub M L) (h : Rd M v d) : Rd L v d := fun X pins σ H s' u hH I r => h X pins σ H s' u (s H hH) I r
section
variable {a b c d e f g h i j : Addr × HO} {R : Lg}
theorem rot3 : Sub (c :: a :: b :: R) (a :: b :: c :: R) := Sub.perm (List.perm_middle (l₁ := [a, b]) (l₂ := R) (a := c)).symm
theorem rot3' : Sub (a :: b :: c :: R) (c :: a :: b :: R) := Sub.perm (List.perm_middle (l₁ := [a, b]) (l₂ := R) (a := c))
end
section
variable {X : Cx} {L : Lg} {elt : Expr} {scope : Scope} {f : V → En} {h : Nat → V} {N : Nat} {Q : QV} {p c D : Addr} {ns : List Int} {n m k : Int} {R : Lg}
/-- [.. draws .. for .. in range(..)]: each turn draws at most k times and gives an int of which P holds -/
theorem lc_draws (P : Int → Prop) (hN : N ≤ 100000) (hL : Sub ((p, penO c n m) :: (c, celO ns) :: R) L) (n0 : 0 ≤ n) (m0 : 0 ≤ m) (k0 : 0 ≤ k) (nk : n + k * N ≤ 100000 - k)
    (turn : ∀ i, i < N → ∀ n m R', 0 ≤ n → n + k ≤ 100000 → 0 ≤ m → AllBlk X scope fun B => GE B elt (f (h i)) ((p, penO c n m) :: (c, celO ns) :: R') fun v M' => ∃ j n' m', v = .int j ∧ P j ∧ 0 ≤ n' ∧ n' ≤ n + k ∧ 0 ≤ m' ∧ Sub ((p, penO c n' m') :: (c, celO ns) :: R') M')
    (q : ∀ (D : Addr) (js : List Int) (n' m' : Int), js.length = N → (∀ j ∈ js, P j) → 0 ≤ n' → n' ≤ n + k * N → 0 ≤ m' → Q (.ref D) ((D, .lst (js.map V.int)) :: (p, penO c n' m') :: (c, celO ns) :: R)) :
    ∃ Pv, LcS X scope [] elt ⟨N, fun _ => True, itemFn h⟩ D L (fun v M k => k (f v) M) Pv (drp Q) := by
  refine ⟨fun i M => ∃ js n' m', Sub ((p, penO c n' m') :: (c, celO ns) :: (D, .lst (js.map V.int)) :: R) M ∧ js.length = i ∧ (∀ j ∈ js, P j) ∧ 0 ≤ n' ∧ n' ≤ n + k * i ∧ 0 ≤ m', ⟨[], n, m, ?_, rfl, fun _ z => absurd z (List.not_mem_nil), n0, by omega, m0⟩, fun _ _ _ _ _ => True.intro, ?_, ?_⟩
  · exact rot3'.trans (Sub.cons hL)
  · rintro i x E M hi ⟨rfl, rfl⟩ _ ⟨js, n1, m1, sb, hl, hP, a0, a1, a2⟩
    dsimp only at hi
    intro s1 H1 C1 cl1 fp1
    refine gts_nil ?_
    dsimp only
    refine ite_t ?_
    intro s2 H2 C2 cl2 fp2
    have ki : k * ((i : Nat) : Int) + k ≤ k * (N : Int) := by
      have := Int.mul_le_mul_of_nonneg_left (show ((i : Nat) : Int) + 1 ≤ (N : Int) by omega) k0
      rw [Int.mul_add, Int.mul_one] at this
      exact this
    refine GE.sub sb (GE.nd ((turn i hi n1 m1 _ a0 (by omega) a2 s2 H2 C2 cl2 fp2).imp fun v M' ⟨j, n', m', ev, pj, b0, b1, b2, s3⟩ nd => ?_))
    subst ev
    have s4 : Sub ((D, .lst (js.map V.int)) :: (p, penO c n' m') :: (c, celO ns) :: R) M' := rot3.trans s3
    have m2 := (s4.to nd).2 _ List.mem_cons_self
    obtain ⟨M3, sw⟩ := Swap.ex (o := .lst (js.map V.int ++ [V.int j])) (u := .lst (js.map V.int)) rfl m2
    refine ⟨_, M3, m2, ?_, sw, js ++ [j], n', m', ?_, by rw [List.length_append, hl]; rfl, fun y hy => ?_, b0, ?_, b2⟩
    · rw [List.length_map, hl, sizeLine_eq]
      omega
    · have z := rot3'.trans (s4.swap sw)
      rw [List.map_append]
      exact z
    · rcases List.mem_append.mp hy with hy | hy
      · exact hP y hy
      · rw [List.mem_singleton.mp hy]
        exact pj
    · rw [Int.natCast_add, Int.mul_add]
      show n' ≤ n + (k * (i : Int) + k * 1)
      omega
  · rintro M ⟨js, n', m', sb, hl, hP, a0, a1, a2⟩
    exact ⟨_, rot3.trans sb, q D js n' m' hl hP a0 a1 a2⟩
end
section
variable {X : Cx} {η : En} {L : Lg} {elt iter : Expr} {ifs : List Expr} {scope : Scope} {pos p1 p3 : Pos} {x y : Str} {f : V → En} {Q : QV}
theorem ge_lcD (P : PutF x η f) (h : GI X (.Name x p1) iter η L fun S L1 => ∀ D, ∃ Pv, LcS X scope ifs elt S D L1 (fun v M k => k (f v) M) Pv (drp Q)) (hb : blkC X.N X.env.scope scope [(x, X.N.idxOf x)] = true) (hlx : LocB X scope x := by exact fun _ _ _ _ _ => ⟨.inl rfl, .inr rfl⟩)
    (hN : X.N.Nodup := by assumption) (hc : X.calm = true := by rfl) (hs : ∀ z, foldedSetIterable iter X.env z = pure z := by intro _; rfl) : GE X (.ListComp elt [⟨.Name x p1, iter, ifs, 0⟩] scope pos) η L Q := GE.undrp (ge_lc1 P h hb hlx hN hc hs)
theorem gs_lcD {D : GD} {fy : V → En} {py : Pos} (Py : PutF y η fy) (P : PutF x η f) (h : GI X (.Name x p1) iter η L fun S L1 => ∀ d, ∃ Pv, LcS X scope ifs elt S d L1 (fun v M k => k (f v) M) Pv (drp fun v M => D.nx (fy v) M)) (hb : blkC X.N X.env.scope scope [(x, X.N.idxOf x)] = true) (hlx : LocB X scope x := by exact fun _ _ _ _ _ => ⟨.inl rfl, .inr rfl⟩)
    (hyl : X.env.scope.names.lookup y = some .local := by rfl) (hsw : swapsWith (.ListComp elt [⟨.Name x p1, iter, ifs, 0⟩] scope pos) (some (.Name y py)) p3.line X.env = pure true := by rfl)
    (hN : X.N.Nodup := by assumption) (hc : X.calm = true := by rfl) (hs : ∀ z, foldedSetIterable iter X.env z = pure z := by intro _; rfl) : GS X (.Assign [.Name y py] (.ListComp elt [⟨.Name x p1, iter, ifs, 0⟩] scope pos) p3) D η L := GS.undrp (gs_lc1 Py P h hb hlx hyl hsw hN hc hs)
end
section
variable {X : Cx} {L : Lg} {Q : QV} {a b : Str} {i j : Int}
/-- texts that are the same -/
theorem go_eqS (e : a = b) (h : Q (.bl true) L) : GOp X (compareOp .Eq) (.str a) (.str b) L Q := go_eqV rfl (by rw [e, decide_eq_true rfl]; exact h)
theorem go_neS (e : a = b) (h : Q (.bl false) L) : GOp X (compareOp .NotEq) (.str a) (.str b) L Q := go_neV rfl (by rw [e, decide_eq_true rfl]; exact h)
theorem go_eqE (e : i = j) (h : Q (.bl true) L) : GOp X (compareOp .Eq) (.int i) (.int j) L Q := go_eq (by rw [decide_eq_true e]; exact h)
theorem go_neE (e : i = j) (h : Q (.bl false) L) : GOp X (compareOp .NotEq) (.int i) (.int j) L Q := go_ne (by rw [decide_eq_true e]; exact h)
end
/-- a list of ints mapped -/
def intF (g : Int → Int) : V → V
  | .int n => .int (g n)
  | v => v
theorem ints_mapV {ns : List Int} {g : Int → Int} : ((ns.map V.int).filter fun _ => true).map (intF g) = (ns.map g).map V.int := by
  rw [List.filter_eq_self.mpr fun _ _ => rfl, List.map_map, List.map_map]
  rfl
end G

set_option Elab.async false
set_option linter.all false
set_option maxRecDepth 100000
set_option maxHeartbeats 4000000
/-! Defs of which the code object is known (makers of lambdas); bad values that are told. -/
namespace G
open PySem PySem.Spec PyProof.Rows L2
/-- the def x, and its code object -/
def DfC (K : PySem.W.Frag) (mg : Str → Option Value) (x : Str) (st : Stmt) (c : Addr) : Prop :=
  ∃ (f : Addr) (oc : Value) (od : Option Addr) (kV doc pm : Value) (an : Option Addr) (ct : Value) (osl : Array (Option Value)), mg x = some (.ref f) ∧
    K.lookup f = some ⟨oc, od, .func (PySem.W.fnOf x x (defArgs st) (defBody st) (defScope st) .none kV doc pm an (.ref c) ct), osl⟩ ∧ PySem.W.codeIn K (.ref c) x = true ∧ PySem.W.keepIn K (.ref f) = true
section
variable {P : Program} {w : World} {K : PySem.W.Frag} {mg : Str → Option Value} {base : Heap}
abbrev BodyC (P : Program) (w : World) (K : PySem.W.Frag) (mg : Str → Option Value) (base : Heap) (N : List Str) (q : Str) (st : Stmt) (k : Nat) (c : Addr) (sp : SpL) : Prop :=
  ∀ (X : Cx) (f : Addr) (A : Around) (outer : List Env) (s : Shared) (H : Hp) (E0 : XK) (L : Lg) (vs : List V) (Q : QV) (E : XL), X = cx0 P w K mg base N q (defScope st) f (.ref c) A outer s H E0 → X.N.Nodup → RoomG k X.A → sp vs L Q E → GSs X (defBody st) (bodyD Q) (begun N vs) L
theorem fn_plainC {x : Str} {st : Stmt} {N ps : List Str} {k : Nat} {c : Addr} {sp : SpL} (F : DfC K mg x st c) (S : FnScope N ps (defScope st))
    (hb : ∀ (kV doc pm : Value) (an : Option Addr) (cdv ct : Value) (us : List Value), us.length = ps.length → bindArgs (PySem.W.fnOf x x (defArgs st) (defBody st) (defScope st) .none kV doc pm an cdv ct) ⟨us, []⟩ = pure (ps.zip us))
    (hl : ps.length ≤ N.length) (len : ∀ vs L Q E, sp vs L Q E → vs.length = ps.length) (body : BodyC P w K mg base N x st k c sp) : Fn P w K mg base CX0 x (k + 1) sp := by
  obtain ⟨f, oc, od, kV, doc, pm, an, ct, osl, hm, lk, hcd, kp⟩ := F
  refine ⟨f, hm, kp, ?_⟩
  intro A outer s H us vs Q E hr e0 r hsp
  obtain ⟨L, Ql, El, hH, h, hq, _⟩ := hsp
  have hn : vs.length = ps.length := len _ L Ql El h
  have hlv : vs.length ≤ N.length := by
    rw [hn]
    exact hl
  exact LamX.run_ofS (CX := CX0) lk hcd S hr.toRoom e0 (.of_eq (hb kV doc pm an (.ref c) ct us (by rw [← r.length]; exact hn))) r hn fun hr2 =>
    ⟨WSs _ (defBody st), PSs.nox pss_W, body_end (X := cx0 P w K mg base N x (defScope st) f (.ref c) A outer s H E) hlv hq hH (body _ f A outer s H E L vs Ql El rfl S.nd ⟨hr2, guard_deeper hr.gd⟩ h)⟩
end
/-- two entries behind others -/
theorem rotL {a b : Addr × HO} {R : Lg} (l : Lg) : Sub (a :: b :: (l ++ R)) (l ++ (a :: b :: R)) := Sub.perm (by
  refine List.Perm.trans (l₂ := a :: (l ++ (b :: R))) (.cons a ?_) ?_
  · exact List.perm_middle.symm
  · exact List.perm_middle.symm)
theorem rot42 {a b c d e f : Addr × HO} {R : Lg} : Sub (a :: b :: c :: d :: e :: f :: R) (c :: d :: e :: f :: a :: b :: R) := rotL [_, _, _, _]
theorem rot22 {a b c d : Addr × HO} {R : Lg} : Sub (a :: b :: c :: d :: R) (c :: d :: a :: b :: R) := rotL [_, _]
theorem rot12 {a b c : Addr × HO} {R : Lg} : Sub (a :: b :: c :: R) (c :: a :: b :: R) := rotL [_]
theorem rot32 {a b c d e : Addr × HO} {R : Lg} : Sub (a :: b :: c :: d :: e :: R) (c :: d :: e :: a :: b :: R) := rotL [_, _, _]
/-- a part of a law that makes lambdas: its table stands in the ledger -/
def spRightM (P : Addr) (q : Str) (k : Int) : SpL := fun vs L Q _ => ∃ (p c : Addr) (ns : List Int) (n m : Int) (R : Lg), vs = [.ref p] ∧ Sub ((p, penO c n m) :: (c, celO ns) :: R) L ∧ (P, tabM q) ∈ R ∧ ns.length ≤ 63 ∧ 0 ≤ n ∧ n + k ≤ 100000 ∧ 0 ≤ m ∧
  ∀ n' m', 0 ≤ n' → n' ≤ n + k → 0 ≤ m' → Q (.bl true) ((p, penO c n' m') :: (c, celO ns) :: R)
section
variable {X : Cx} {L : Lg} {Q : QV} {p q : Addr}
theorem go_isT {a b : Bool} (e : a = b) (h : Q (.bl true) L) : GOp X (compareOp .Is) (.bl a) (.bl b) L Q := go_isB (by rw [e, decide_eq_true rfl]; exact h)
/-! lists of texts -/
theorem dls_strs : ∀ {ss : List Str}, Dls L (ss.map V.str) (ss.map PyData.str)
  | [] => dls_nil
  | _ :: _ => dls_cons dl_str dls_strs
theorem depthStrs : ∀ ns : List Str, PyData.depthAll (ns.map PyData.str) = 0
  | [] => by simp [PyData.depthAll]
  | n :: r => by
    have e := depthStrs r
    simp [PyData.depthAll, PyData.depth, e]
theorem layStrs : ∀ ns : List Str, (∀ s ∈ ns, PyData.strOk s = true) → PyData.canLayAll0 (ns.map PyData.str) = true
  | [], _ => by simp [PyData.canLayAll0]
  | n :: r, h => by
    have e := layStrs r fun s hs => h s (List.mem_cons_of_mem _ hs)
    have k := h n (List.mem_cons_self ..)
    simp [PyData.canLayAll0, PyData.canLay0, e, k]
theorem shapedS {ns : List Str} (h : ∀ s ∈ ns, PyData.strOk s = true) : SeqAt.shaped (.list (ns.map PyData.str)) = true := by
  have a := depthStrs ns
  have b := layStrs ns h
  simp [SeqAt.shaped, PyData.canLay0, PyData.depth, a, b]
theorem eqvStrs : ∀ ns ms : List Str, PyData.eqvAll (ns.map PyData.str) (ms.map PyData.str) = decide (ns = ms)
  | [], [] => by simp [PyData.eqvAll]
  | [], m :: r => by simp [PyData.eqvAll]
  | n :: r, [] => by simp [PyData.eqvAll]
  | n :: r, m :: q => by
    have e := eqvStrs r q
    simp [PyData.eqvAll, PyData.eqv, e]
    by_cases h : n = m <;> by_cases k : r = q <;> simp [h, k]
theorem eqvLS (ns ms : List Str) : PyData.eqv (.list (ns.map PyData.str)) (.list (ms.map PyData.str)) = decide (ns = ms) := by
  rw [← eqvStrs]
  simp [PyData.eqv]
theorem go_eqLS {j : Nat} {xs ys : List V} {ns ms : List Str} (hr : RoomG j X.A) (m1 : (p, HO.lst xs) ∈ L) (m2 : (q, HO.lst ys) ∈ L) (e1 : xs = ns.map V.str) (e2 : ys = ms.map V.str) (s1 : ∀ s ∈ ns, PyData.strOk s = true) (s2 : ∀ s ∈ ms, PyData.strOk s = true) (h : Q (.bl (decide (ns = ms))) L) : GOp X (compareOp .Eq) (.ref p) (.ref q) L Q := by
  subst e1
  subst e2
  exact go_eqD hr.toRoom (dl_lst m1 dls_strs) (dl_lst m2 dls_strs) (shapedS s1) (shapedS s2) (by rw [eqvLS]; exact h)
theorem go_neLS {j : Nat} {xs ys : List V} {ns ms : List Str} (hr : RoomG j X.A) (m1 : (p, HO.lst xs) ∈ L) (m2 : (q, HO.lst ys) ∈ L) (e1 : xs = ns.map V.str) (e2 : ys = ms.map V.str) (s1 : ∀ s ∈ ns, PyData.strOk s = true) (s2 : ∀ s ∈ ms, PyData.strOk s = true) (h : Q (.bl (!decide (ns = ms))) L) : GOp X (compareOp .NotEq) (.ref p) (.ref q) L Q := by
  subst e1
  subst e2
  exact go_neD hr.toRoom (dl_lst m1 dls_strs) (dl_lst m2 dls_strs) (shapedS s1) (shapedS s2) (by rw [eqvLS]; exact h)
theorem go_eqLI {j : Nat} {xs ys : List V} {ns ms : List Int} (hr : RoomG j X.A) (m1 : (p, HO.lst xs) ∈ L) (m2 : (q, HO.lst ys) ∈ L) (e1 : xs = ns.map V.int) (e2 : ys = ms.map V.int) (h : Q (.bl (decide (ns = ms))) L) : GOp X (compareOp .Eq) (.ref p) (.ref q) L Q := by
  subst e1
  subst e2
  exact go_eqI hr m1 m2 h
theorem go_neLI {j : Nat} {xs ys : List V} {ns ms : List Int} (hr : RoomG j X.A) (m1 : (p, HO.lst xs) ∈ L) (m2 : (q, HO.lst ys) ∈ L) (e1 : xs = ns.map V.int) (e2 : ys = ms.map V.int) (h : Q (.bl (!decide (ns = ms))) L) : GOp X (compareOp .NotEq) (.ref p) (.ref q) L Q := by
  subst e1
  subst e2
  exact go_neI hr m1 m2 h
end
/-- a value that is shown, and of which the kind is known -/
structure Odd (L : Lg) (v : V) (d : PyData) : Prop where
  kd : ∃ T, Knd L v T
  rd : Rd L v d
  s : d.showable = true
  dp : d.depth ≤ 60
  sz : d.shown.length ≤ 100000
  ok : PyData.strOk d.shown = true
theorem Odd.drop {L : Lg} {v : V} {d : PyData} {a : Addr × HO} (h : Odd L v d) : Odd (a :: L) v d := by
  obtain ⟨T, k⟩ := h.kd
  exact ⟨⟨T, k.sub fun e m => memS m⟩, rdSub Sub.drop h.rd, h.s, h.dp, h.sz, h.ok⟩
theorem Odd.app {L : Lg} {v : V} {d : PyData} : ∀ (l : Lg), Odd L v d → Odd (l ++ L) v d
  | [], h => h
  | a :: l, h => (Odd.app l h).drop
theorem rd_tup1 {L : Lg} {p : Addr} {i : Int} (m : (p, HO.tup [.int i]) ∈ L) : Rd L (.ref p) (.tuple [.int i]) := rd_dl (dl_tup m (dls_ints (ns := [i]))) (by simp [PyData.hasDict, PyData.hasDictAll])
section
variable {X : Cx} {L : Lg} {Q : QV} {η : En} {e : Expr} {p pos : Pos} {k : Nat}
/-- repr of such a value -/
theorem gb_reprO (B : Bi X.mg) (hr : RoomG k X.A) (h : GE X e η L fun v L1 => ∃ d, Odd L1 v d ∧ Q (.str d.shown) L1) (hg : Gl X "repr" := by rfl) (hs : starEach [e] X.env = (false, eval e X.env) :: starEach [] X.env := by rfl) :
    GE X (.Call (.Name "repr" p) [e] [] pos) η L Q := gb_repr B hr (h.imp fun v L1 ⟨d, o, q⟩ => ⟨d, o.rd, o.s, o.dp, Nat.le_trans o.sz (szL (by decide)), q⟩) hg hs
end
section
variable {X : Cx} {L : Lg} {Q : QV} {p q : Addr} {xs ys ws : List V} {ds : List PyData} {j : Nat}
/-- two lists that are the same datum -/
theorem go_eqSame (hr : RoomG j X.A) (m1 : (p, HO.lst xs) ∈ L) (m2 : (q, HO.lst ys) ∈ L) (e1 : xs = ws) (e2 : ys = ws) (h1 : Dls L ws ds) (s : SeqAt.shaped (.list ds) = true) (e : PyData.eqv (.list ds) (.list ds) = true) (h : Q (.bl true) L) : GOp X (compareOp .Eq) (.ref p) (.ref q) L Q := by
  subst e1
  subst e2
  exact go_eqD hr.toRoom (dl_lst m1 h1) (dl_lst m2 h1) s s (by rw [e]; exact h)
theorem go_neSame (hr : RoomG j X.A) (m1 : (p, HO.lst xs) ∈ L) (m2 : (q, HO.lst ys) ∈ L) (e1 : xs = ws) (e2 : ys = ws) (h1 : Dls L ws ds) (s : SeqAt.shaped (.list ds) = true) (e : PyData.eqv (.list ds) (.list ds) = true) (h : Q (.bl false) L) : GOp X (compareOp .NotEq) (.ref p) (.ref q) L Q := by
  subst e1
  subst e2
  exact go_neD hr.toRoom (dl_lst m1 h1) (dl_lst m2 h1) s s (by rw [e]; exact h)
end
theorem GG.sub {X : Cx} {tg : Expr} {v : V} {η : En} {L M : Lg} {Q : En → Lg → Prop} (s : Sub M L) (h : GG X tg v η M Q) : GG X tg v η L Q := fun hN H hH => h hN H (s H hH)
end G

set_option Elab.async false
set_option linter.all false
set_option maxRecDepth 100000
set_option maxHeartbeats 4000000
/-! Own classes: instances made, their fields read and stored, methods, properties. -/
namespace G
open PySem PySem.Spec PyProof.Rows L2
theorem RoomG.make {k : Nat} {A : Around} (r : RoomG (k + 1) A) (C : Addr) (us : List Value) (kw : List (Str × Value)) : RoomG k (A.under (.builtin "type.__call__" ⟨.ref C :: us, kw⟩)) := ⟨r.toRoom.make C us kw, r.gd⟩
section
variable {X : Cx} {CX : CXT} {k : Nat} {C f : Addr} {sp : Sp} {E : XK} {args : List Value → Args}
/-- C(..): a new instance and its dict, then __init__ -/
theorem run_makeG {pins : List (Addr × Obj)} {σ : L2.St} {H : Hp} {s : Shared} {Q : VK} {us : List Value} {vs : List V} {ps : List Value} {kw : List (Str × Value)} (M : Mk X.K C f) (F : RunG X.prog X.w X.K X.mg X.base CX k f args sp) (hr : RoomG (k + 1) X.A) (hx : PassesAt CX X σ E) (I : Inv X pins σ H s) (r : Vals vs us)
    (ha : ∀ y : Value, args (y :: us) = ⟨y :: ps, kw⟩)
    (h : ∀ x dx, H x = none → H dx = none → dx ≠ x → sp (.ref x :: vs) (upd (upd H dx (.own x)) x (.ins C dx [])) (fun v H2 => v = .non ∧ Q (.ref x) H2) E) : wpAny (model X.prog X.w) X.A (call (.ref C) ps kw) (EP X pins σ Q) X.xe s := by
  have hq := h (s.heap.objs.size + 1) s.heap.objs.size (I.hok.fresh (Nat.le_succ _)) (I.hok.fresh (Nat.le_refl _)) (Nat.ne_of_lt (Nat.lt_succ_self _))
  have I2 := Inv.made (C := C) I
  have z := F _ X.stack _ _ (.ref (s.heap.objs.size + 1) :: us) (.ref (s.heap.objs.size + 1) :: vs) _ E (hr.make C ps kw) (I2.env0.make C ps kw) (.cons rfl r) hq
  rw [ha] at z
  refine wpAny_call (make_map (f := f) I.kIn M.makes M.init (beq_iff_eq.mp M.fn) (codeAny_mono z fun r s' hq' => ?_))
  cases r with
  | error e => exact hx pins _ _ e s' I2 hq'
  | ok fl =>
    cases fl with
    | ret u =>
      obtain ⟨v, H', I3, rv, ev, q3⟩ := I2.after hq'
      subst ev
      exact ⟨rv, ⟨V.ref (s.heap.objs.size + 1), H', I3, rfl, q3⟩⟩
    | next => exact False.elim hq'
    | brk => exact False.elim hq'
    | cont => exact False.elim hq'
end
section
variable {X : Cx} {CX : CXT} {j k : Nat} {C f g p : Addr} {sp : SpL} {El : XL} {args argsI : List Value → Args} {η : En} {L : Lg} {Q : QV} {W : XW} {x n m : Str} {e o value : Expr} {es : List Expr} {D : GD} {pos pos' p1 : Pos} {a dx : Addr} {fs : List (Str × V)} {v y : V} {u : Value}
/-- what __init__ is shown at the new instance -/
abbrev InitSp (C : Addr) (sp : SpL) (Q : QV) (El : XL) : List V → Lg → Prop := fun vs L => ∀ x dx, sp (.ref x :: vs) ((x, .ins C dx []) :: (dx, .own x) :: L) (fun v L' => v = .non ∧ Q (.ref x) L') El
theorem init_sp {H : Hp} {vs : List V} {E : XK} (hH : Has H L) (h : InitSp C sp Q El vs L) (he : ∀ c d L' H', Has H' L' → El c d L' → E c d H') : ∀ x dx, H x = none → H dx = none → dx ≠ x → toSp sp (.ref x :: vs) (upd (upd H dx (.own x)) x (.ins C dx [])) (fun v H2 => v = .non ∧ up Q (.ref x) H2) E := fun x dx hx hdx ne =>
  ⟨_, _, El, (hH.new hdx).new (by rw [upd_ne (Ne.symm ne)]; exact hx), h x dx, fun v L' H' h' q => ⟨q.1, L', h', q.2⟩, he⟩
theorem gf_make (M : Mk X.K C f) (F : RunG X.prog X.w X.K X.mg X.base CX k f argsI (toSp sp)) (ha : ∀ y us, argsI (y :: us) = ⟨y :: (args us).pos, (args us).kw⟩) (hr : RoomG j X.A) (hx : Passes CX X (upX El)) (hjk : k + 1 ≤ j := by decide) : GF X η C args (InitSp C sp Q El) Q := fun pins s H us vs L hH I r h =>
  run_makeG M F (hr.mono hjk) (fun pins => hx pins _) I r (fun y => ha y us) (init_sp hH h fun c d L' H' h' q => ⟨L', h', q⟩)
theorem gf_makeX (M : Mk X.K C f) (F : RunG X.prog X.w X.K X.mg X.base (L2.CX X.prog X.w) k f argsI (toSp sp)) (ha : ∀ y us, argsI (y :: us) = ⟨y :: (args us).pos, (args us).kw⟩) (hN : X.N = names η) (hr : RoomG j X.A) (tk : Tk X W) (hjk : k + 1 ≤ j := by decide) : GF X η C args (InitSp C sp Q fun c d L' => W c d η L') Q := fun pins s H us vs L hH I r h =>
  run_makeG (E := fun c d H' => upW X W c d (vals η) H') M F (hr.mono hjk) (passAt tk (vals η)) I r (fun y => ha y us) (init_sp hH h fun c d L' H' h' q => ⟨η, L', hN, rfl, h', q⟩)
/-- x(..), x a global that holds a thing of which GF tells -/
theorem ge_callF {φ : List V → Lg → Prop} (hm : X.mg x = some (.ref f)) (hk : PySem.W.keepIn X.K (.ref f) = true) (F : X.N = names η → GF X η f argsP φ Q) (h : GA X (e :: es) η L φ) (hg : Gl X x := by rfl) (hd : (x == ("__debug__" : Str)) = false := by decide)
    (he : starEach (e :: es) X.env = (false, eval e X.env) :: starEach es X.env := by rfl) (hpl : (backTo pos (starEach es X.env)).any (·.1) = false := by rfl) : GE X (.Call (.Name x p1) (e :: es) [] pos) η L Q := fun hN H hH pins s I => by
  refine wpAny_Call_Name_kw (ld_glob I hg hm ?_ hd)
  refine PySem.W.callWith_K (h₀ := X.base) I.ok.mod.kin hk ?_ he hpl
  exact thn (h hN H hH pos pins s I) fun us s1 ⟨vs, H1, J, r, L1, h1, q⟩ => ⟨J.kIn, F hN pins s1 H1 us vs L1 h1 J r q⟩
theorem ge_callF0 {φ : List V → Lg → Prop} (hm : X.mg x = some (.ref f)) (hk : PySem.W.keepIn X.K (.ref f) = true) (F : X.N = names η → GF X η f argsP φ Q) (h : φ [] L) (hg : Gl X x := by rfl) (hd : (x == ("__debug__" : Str)) = false := by decide) : GE X (.Call (.Name x p1) [] [] pos) η L Q := fun hN H hH pins s I => by
  refine wpAny_Call_Name_kw (ld_glob I hg hm ?_ hd)
  exact PySem.W.callWith_K0 I.kIn hk (F hN pins s H [] [] L hH I .nil h)
/-! fields -/
theorem gat_fld (c : Cls X.K C) (no : NoAttr X.K C n) (mm : (a, HO.ins C dx fs) ∈ L) (l : fs.lookup n = some v) (q : Q v L) : GAt X n (.ref a) L Q := fun pins s σ H u ex hH I r => by
  obtain rfl : u = Value.ref a := r
  exact getattr_ok I (hH.get mm) c no l fun u' s' I' ru => ⟨v, H, I', ru, L, hH, q⟩
theorem gat_con (c : Cls X.K C) (k : Con X.K C n v u) (mm : (a, HO.ins C dx fs) ∈ L) (l : fs.lookup n = none) (q : Q v L) : GAt X n (.ref a) L Q := fun pins s σ H u' ex hH I r => by
  obtain rfl : u' = Value.ref a := r
  exact getcon_ok I (hH.get mm) c k l fun s' I' => ⟨v, H, I', k.rel, L, hH, q⟩
theorem gs_fld (h : GE X value η L fun y L1 => GE X o η L1 fun x L2 => ∃ a C dx fs M, x = .ref a ∧ (a, HO.ins C dx fs) ∈ L2 ∧ Cls X.K C ∧ NoAttr X.K C n ∧ fs.length < 1000 ∧ Swap a (.ins C dx (putF n y fs)) L2 M ∧ D.nx η M)
    (hs : swapsWith value (some (.Attribute o n pos')) pos.line X.env = pure false := by rfl) : GS X (.Assign [.Attribute o n pos'] value pos) D η L := fun hN H hH =>
  WS.of (ps_fld pe_W pe_W hs) (h.then hN hH fun y L1 H1 h1 q => q.then hN h1 fun x L2 H2 h2 ⟨a, C, dx, fs, M, ex, mm, c, no, l, sw, q2⟩ => ⟨a, C, dx, fs, ex, h2.get mm, c, no, l, η, M, hN, rfl, h2.swap sw, q2⟩)
/-- o.m(..) -/
theorem ge_meth {pl : Sem Bool} (F : RunG X.prog X.w X.K X.mg X.base CX k g argsP (toSp sp)) (hm : Meth X.K C m g) (c : Cls X.K C) (hr : RoomG j X.A) (hx : Passes CX X (upX El)) (h : GE X o η L fun x L1 => ∃ a dx fs, x = .ref a ∧ (a, HO.ins C dx fs) ∈ L1 ∧ fs.lookup m = none ∧ GA X (e :: es) η L1 fun vs L2 => sp (.ref a :: vs) L2 Q El) (hjk : k ≤ j := by decide)
    (hst : starEach (e :: es) X.env = (false, eval e X.env) :: starEach es X.env := by rfl) (hpl : (backTo pos (starEach es X.env)).any (·.1) = false := by rfl)
    (ht : eval (.Call (.Attribute o m pos') (e :: es) [] pos) X.env = (do
      let ov ← eval o X.env
      standAt pos'.atName
      let (f, first) ← holding [ov] (getMethod ov m pl)
      callWith pos f first (backTo pos (starEach (e :: es) X.env)) (backToKw pos (keywordEach [] X.env))) := by rfl) : GE X (.Call (.Attribute o m pos') (e :: es) [] pos) η L Q := fun hN H hH pins s I => by
  refine PySem.W.methodCall_KW (pl := pl) (thn (h hN H hH pins s I) fun u s1 ⟨x, H1, I1, rx, L1, h1, a, dx, fs, ex, ea, l, q⟩ => ?_) ht
  subst ex
  obtain rfl : u = Value.ref a := rx
  refine getmeth_ok I1 (h1.get ea) c hm l ?_
  refine PySem.W.callWith_K (first := [.ref a]) (h₀ := X.base) I.ok.mod.kin hm.kp (thn (q hN H1 h1 pos pins s1 I1) fun us s2 ⟨vs, H2, I2, r, L2, h2, q2⟩ => ⟨I2.kIn, ?_⟩) hst hpl
  exact run_G (args := argsP) (us := .ref a :: us) (vs := .ref a :: vs) F (hr.mono hjk) hx I2 (.cons rfl r) (up_sp h2 q2)
end
end G

set_option Elab.async false
set_option linter.all false
set_option maxRecDepth 100000
set_option maxHeartbeats 4000000
/-! super().__init__(..) over a def of an own class; methods that say super(). -/
namespace G
open PySem PySem.Spec PyProof.Rows L2 NdefX
/-- what the written part says of super().n at an instance of C, from the class D -/
structure SupM (K : PySem.W.Frag) (mg : Str → Option Value) (C D : Addr) (n : Str) (g : Addr) : Prop where
  sm : PySem.W.ks_superIn K C D n = some (some (.ref g))
  tg : PySem.W.typeIn K (.ref g) = some (.type "function")
  fi : PySem.W.fnIn K g = true
  cls : ∃ cd, PySem.W.clsIn K C = some cd
  sub : PySem.W.mroIn K C (.ref D) = some true
  op : PySem.W.nsIn K cStatics "thirdparty.any" = some none
  su : mg "super" = none
section
variable {X : Cx} {CX : CXT} {B rest : List Stmt} {D : GD} {η : En} {L : Lg} {H : Hp} {x q n : Str} {st : Stmt} {f c cc D0 C a dx g : Addr} {fd : FuncData} {ar : Arg} {fs : List (Str × V)} {sp : SpL} {El : XL} {j k : Nat} {e : Expr} {es : List Expr} {p0 p1 p2 p3 p4 : Pos} {pl : Sem Bool}
theorem at_supi (F : SupF X.prog X.K x q st f c cc D0 fd) (T : SupM X.K X.mg C D0 n g) (hfu : X.env.func = some f) (hco : X.env.code = .ref c) (hcl : X.env.cells.lookup ("__class__" : Str) = some cc) (hp : (fd.params.posonlyargs ++ fd.params.args).head? = some ar)
    (hks : X.env.kindOf "super" = some .globalImplicit) (hkc : X.env.kindOf "__class__" = some .free) (hka : X.env.kindOf ar.arg = some .local)
    (R : RunG X.prog X.w X.K X.mg X.base CX k g argsP (toSp sp)) (hr : RoomG j X.A) (hx : Passes CX X (upX El)) (hN : X.N = names η) (hH : Has H L) (hat : At ar.arg (.ref a) η) (mm : (a, HO.ins C dx fs) ∈ L)
    (h : ∀ u, GA X (e :: es) η ((u, .met g a) :: L) fun vs L1 => (u, HO.met g a) ∈ L1 ∧ sp (.ref a :: vs) L1 (fun _ L2 => GSs X rest D η L2) El) (hjk : k ≤ j := by decide)
    (hn : (n == ("__class__" : Str)) = false := by decide) (he : starEach (e :: es) X.env = (false, eval e X.env) :: starEach es X.env := by rfl) (hpl : (backTo p3 (starEach es X.env)).any (·.1) = false := by rfl) (hint : interactive X.env = false := by rfl)
    (hsw : swapsWith (.Call (.Attribute (.Call (.Name "super" p0) [] [] p1) n p2) (e :: es) [] p3) none p4.line X.env = pure false := by rfl)
    (hev : eval (.Call (.Attribute (.Call (.Name "super" p0) [] [] p1) n p2) (e :: es) [] p3) X.env = (do
      let ov ← attributeBase (.Call (.Name "super" p0) [] [] p1) n X.env (eval (.Call (.Name "super" p0) [] [] p1) X.env)
      standAt p2.atName
      let (ff, first) ← holding [ov] (getMethod ov n pl)
      callWith p3 ff first (backTo p3 (starEach (e :: es) X.env)) []) := by rfl) :
    AtSs X B (.Expr (.Call (.Attribute (.Call (.Name "super" p0) [] [] p1) n p2) (e :: es) [] p3) p4 :: rest) (D.ends X) (vals η) H := fun pins s I => by
  obtain ⟨oc, od, kV, doc, pm, ct, an, osl, efd, lk⟩ := F.ex
  obtain ⟨ccl, cdd, vs, ccs, fl, tf, lc, hvs, hfile⟩ := F.file
  obtain ⟨cl, cld, csl, hcell⟩ := F.cell
  obtain ⟨cdD, hD⟩ := F.cls
  obtain ⟨mb, hb1, hb2⟩ := I.mod.blt
  obtain ⟨oD, hD1, hD2⟩ : ∃ oD, s.heap.get? D0 = some oD ∧ oD.data = .cls cdD := by
    unfold PySem.W.clsIn at hD
    split at hD
    · rename_i c' d' cd' sl' ho
      cases hD
      exact ⟨_, I.kIn _ _ ho, rfl⟩
    · cases hD
  obtain ⟨cdC, hcC⟩ := T.cls
  obtain ⟨i, hi, hs⟩ := hat.idx
  obtain ⟨mA, O, _, _, _, _⟩ := ins_get I.hok (hH.get mm)
  obtain ⟨oda, IA, _⟩ := O.look
  have xC : a ≠ C := PySem.W.ks_ne I.kIn IA hcC
  refine _root_.PySem.ks_wpAt_execs_cons (_root_.PySem.ks_wpAt_Expr_any (_root_.PySem.ks_wpAt_MethodCall (pl := pl) (_root_.PySem.ks_wpAt_super_base hks hkc hn hfu (I.kIn _ _ lk) rfl hp hco (I.kIn _ _ lc) rfl hvs hfile F.top ?_) hev) hint hsw)
  refine PySem.W.ks_loadName_global I.ok.kind hks (Calls.loadGlobal_builtin (by rw [I.ok.glob]; exact I.mod.glob.keeps I.bk) T.su (by rw [I.ok.blt]; exact hb1.keeps I.bk) ((hb2 _ (by decide)).trans (by decide +kernel)) ⟨rfl, ?_⟩)
  refine wpAny_loadName_free I.ok.kind hkc hcl ⟨_, I.kIn _ _ hcell, rfl⟩ ?_
  obtain ⟨m, hns, hl⟩ := id I.loc
  obtain ⟨u, r, qq⟩ := hl i _ _ (by rw [hN]; exact hi) hs (.inl hka)
  obtain rfl : u = Value.ref a := r
  rcases qq with ⟨_, em⟩ | ⟨kk, _⟩
  · refine wpAny_loadName_local I.ok.kind hka hns em ?_
    obtain ⟨hp', g', d, t, os⟩ := s
    refine _root_.PySem.ks_wpAny_isType_cls hD1 hD2 ⟨rfl, ?_⟩
    refine _root_.PySem.ks_wpAny_call_super hD1 hD2 IA.at_ IA.cls (fun c e => ?_) (PySem.W.looks_mroIn I.kIn T.sub) (fun h' eS kS => ?_)
    · have := IA.no
      unfold PySem.W.notCls at this
      rw [e] at this
      exact Bool.noConfusion this
    have J1 : Inv X pins (vals η) H ⟨h', g', d, t, os⟩ := I.kept (t' := t) kS
    have sm' := T.sm
    unfold PySem.W.ks_superIn at sm'
    rw [hcC] at sm'
    obtain ⟨of, hof, hofc⟩ : ∃ of, h'.get? g = some of ∧ of.cls = .type "function" := by
      have ht' : (X.K.lookup g).map (·.cls) = some (.type "function") := T.tg
      cases z : X.K.lookup g with
      | none => rw [z] at ht'; cases ht'
      | some of => rw [z] at ht'; exact ⟨of, J1.kIn _ _ z, Option.some.inj ht'⟩
    refine _root_.PySem.ks_wpAny_getMethod_super eS (PySem.W.looks_opaque J1.kIn T.op) ((PySem.W.looks_clsIn J1.kIn hcC).andThen .now) rfl J1.kIn sm' hof hofc xC hn ?_
    have nu : H h'.objs.size = none := J1.hok.fresh (Nat.le_refl _)
    have J2 : Inv X pins (vals η) (upd H h'.objs.size (.met g a)) ⟨h'.push { cls := .type "method", data := .fields #[.ref g, .ref a] }, g', d, t + 1, os⟩ :=
      J1.laid (t' := t + 1) (a := h'.objs.size) (fun b o z => Heap.get?_push_of_some _ z) (Nat.le_refl _) (Heap.get?_push_size _ rfl)
    show wpAny _ _ (callWith p3 (Value.ref h'.objs.size) [] (backTo p3 (starEach (e :: es) X.env)) []) _ _ _
    have hpa := h h'.objs.size hN _ (hH.new nu) p3 pins _ J2
    rw [he] at hpa ⊢
    refine callwith_met (X := X) (g := g) (a := a) (by show ((false || (backTo p3 (starEach es X.env)).any (·.1)) || false) = false; rw [hpl]; rfl) T.fi (Calls.evalArgs_plain (thn hpa fun us s1 ⟨vs', H1, J3, r1, L1, h1, e1, qk⟩ => ?_))
    refine ⟨met_P J3 (h1.get e1), ?_⟩
    show wpAny _ _ (call (Value.ref h'.objs.size) us) _ _ _
    refine wpAny_call (call_met J3 (h1.get e1) (codeAny_mono (R _ X.stack s1 H1 (.ref a :: us) (.ref a :: vs') (up fun _ L2 => GSs X rest D η L2) (upX El) (hr.mono hjk) J3.env0 (.cons rfl r1) (up_sp h1 qk)) fun r s' hq => ?_))
    cases r with
    | error e => exact hx pins _ H1 _ e s' J3 hq
    | ok fl =>
      cases fl with
      | ret w =>
        obtain ⟨v, H', J4, rv, L2, h2, qf⟩ := J3.after hq
        exact AtSs.any (qf hN H' h2) pins s' J4
      | next => exact hq.elim
      | brk => exact hq.elim
      | cont => exact hq.elim
  · rcases kk with kk | kk
    · have z := kk.symm.trans hka
      cases z
    · have z := kk.symm.trans hka
      cases z
end
/-- the slots of a method that says super(), when it begins -/
def begunF (N : List Str) (vs : List V) : En := N.zip (startF N vs [none])
abbrev cxS (CX : CXT) (P : Program) (w : World) (K : PySem.W.Frag) (mg : Str → Option Value) (base : Heap) (N : List Str) (x q : Str) (st : Stmt) (cc c f : Addr) (A : Around) (outer : List Env) (s : Shared) (H : Hp) (E0 : XK) : Cx := ncx CX P w K mg base N (nfS x q st cc c) f A outer s H E0
section
variable {CX : CXT} {P : Program} {w : World} {K : PySem.W.Frag} {mg : Str → Option Value} {base : Heap} {N ps : List Str} {x q : Str} {st : Stmt} {f c cc D : Addr} {fd : FuncData} {k : Nat} {sp : SpL}
/-- such a method keeps a promise over ledgers -/
theorem run_sup (F : SupF P K x q st f c cc D fd) (S : NScope N ps ["__class__"] (defScope st)) (args : List Value → Args) (pmV : List V → List V) (pmU : List Value → List Value) (hpm : ∀ vs us, Vals vs us → Vals (pmV vs) (pmU us))
    (hb : ∀ (kV doc pm ct : Value) (an : Option Addr) (us : List Value), (pmU us).length = ps.length → bindArgs (PySem.W.fnX x q (defArgs st) (defBody st) (defScope st) [("__class__", cc)] .none kV doc pm an (.ref c) ct) (args us) = pure (ps.zip (pmU us)))
    (len : ∀ vs L Q E, sp vs L Q E → vs.length = ps.length) (hl : ∀ vs : List V, vs.length = ps.length → (startF N vs [none]).length = N.length)
    (body : ∀ (X : Cx) (A : Around) (outer : List Env) (s : Shared) (H : Hp) (E0 : XK) (L : Lg) (vs : List V) (Q : QV) (E : XL), X = cxS CX P w K mg base N x q st cc c f A outer s H E0 → (∀ c d L' H', Has H' L' → E c d L' → E0 c d H') → X.N.Nodup → RoomG k X.A → sp vs L Q E → Has H L → X.N = names (begunF N vs) → AtSs X (defBody st) (defBody st) ((bodyD Q).ends X) (vals (begunF N vs)) H) :
    RunG P w K mg base CX (k + 1) f args (fun vs => toSp sp (pmV vs)) := by
  intro A outer s H us vs Q E hr e0 r hsp
  obtain ⟨oc, od, kV, doc, pm, ct, an, osl, rfl, lk⟩ := F.ex
  obtain ⟨L, Ql, El, hH, h, hq, he⟩ := hsp
  have hn : (pmV vs).length = ps.length := len _ L Ql El h
  have r2 := hpm vs us r
  have KX : K.In s.heap := e0.mod.kin.keeps fun b o e => (e0.bs b o e).1
  have lim : s.heap.NoLimit := e0.mod.nolimit.keeps fun b o e => (e0.bs b o e).1
  have hbb := hb kV doc pm ct an us (by rw [← r2.length]; exact hn)
  refine _root_.PySem.ks_codeAny_call_defAt (body := defBody st) hr.depth (KX _ _ lk) rfl lim (PySem.W.codeRec_of KX F.cd) rfl (.of_eq hbb) S.nocell (fun ⟨n, _⟩ hy => S.par n (List.of_mem_zip hy).1) (fun h₁ hns kp => ?_) S.co S.gen S.kind
  have I : Inv (ncx CX P w K mg base N (nfS x q st cc c) f A outer s H E) [] (startF N (pmV vs) [none]) H { s with heap := h₁, toks := s.toks + (ps.zip (pmU us)).length } := inv_startN S hr.hd e0 hn r2 (F.cells e0) hns kp
  have ev : vals (begunF N (pmV vs)) = startF N (pmV vs) [none] := List.map_snd_zip (Nat.le_of_eq (hl _ hn))
  have en : N = names (begunF N (pmV vs)) := (List.map_fst_zip (Nat.le_of_eq (hl _ hn).symm)).symm
  have b := body _ A outer s H E L (pmV vs) Ql El rfl he S.nd ⟨hr.toRoom.deeper _, guard_deeper hr.gd⟩ h hH en [] _ (by rw [ev]; exact I)
  refine _root_.PySem.wpAt_mono b (fun fl s' hs => ?_) fun e s' hs => hs
  have fin : ∀ {σ' : L2.St} {H' : Hp} {v : V} {u : Value}, Inv (ncx CX P w K mg base N (nfS x q st cc c) f A outer s H E) [] σ' H' s' → L2.RelV v u → Q v H' → CE outer P w H s Q u s' := fun {σ' H' v u} J rv qq => ⟨v, H', J.os, J.bare, J.base, J.hok, rv, qq⟩
  cases fl with
  | ret u =>
    obtain ⟨v, σ', H', J, rv, M, hM, N', sb, q⟩ := hs
    exact fin J rv (hq _ N' H' (sb _ hM) q)
  | next =>
    obtain ⟨σ', H', J, θ, M, _, _, hM, N', sb, q⟩ := hs
    exact fin (v := V.non) (u := Value.none) J rfl (hq _ N' H' (sb _ hM) q)
  | brk =>
    obtain ⟨σ', H', J, θ, M, _, _, hM, z⟩ := hs
    exact z.elim
  | cont =>
    obtain ⟨σ', H', J, θ, M, _, _, hM, z⟩ := hs
    exact z.elim
end
end G

set_option Elab.async false
set_option linter.all false
set_option maxRecDepth 100000
set_option maxHeartbeats 4000000
/-! == and != of instances by their own __eq__; isinstance of instances. -/
namespace PySem.W
open PySem PySem.Calls PyProof.Rows
section
variable {prog : Program} {w : World} {A : Around} {E : Value → Shared → Prop} {s : Shared} {K : Frag} {x C L f : Addr} {h₀ : Heap} {m : Str → Option Value} {ox : Obj} {od : Option Obj} {b tb : Value}
theorem g_ifBound {M : Model} {args : List Value} {Q : Option Value → Shared → Prop} (X : K.In s.heap) (I : InstAt s.heap x ox C od) (hs : findIn K (.ref C) "__ne__" = some (some (.builtin "object.__ne__")))
    (h : wpAny M A (call (.builtin "object.__ne__") (.ref x :: args)) (fun v => Q (some v)) E s) : wpAny M A (callSpecialIfBound? (.ref x) "__ne__" args) Q E s := by
  simp only [callSpecialIfBound?, bindSpecialIfBound?]
  refine wpAny_holding (wpAny_bind (wpAny_bind (wpAny_bind (I.type.here ((looks_findIn X hs).here ?_)))))
  simp only [F.cmp_object.ne.bind]
  refine wpAny_bind (wpAny_askSetting (wpAny_ite ?_))
  have fin : wpAny M A (call (.builtin "object.__ne__") ([.ref x] ++ args) >>= fun v => pure (some v)) Q E s := wpAny_bind (wpAny_mono h (fun v s' h' => wpAny_pure h') fun _ _ h' => h')
  split
  · exact wpAny_bind (wpAny_pure (wpAny_pure (by exact fin)))
  · exact wpAny_tryCatch (wpAny_bind (wpAny_pure (wpAny_pure (by exact fin))))
theorem g_ne {Q : Value → Shared → Prop} (hu : A.units + 1 < cLine) (X : K.In s.heap) (I : InstAt s.heap x ox C od) (hb : Looks (model prog w) s.heap (typeOf b) tb) (hn : notFirst K C tb = true)
    (hne : findIn K (.ref C) "__ne__" = some (some (.builtin "object.__ne__"))) (heq : findIn K (.ref C) "__eq__" = some (some (.ref f))) (hf : isFn K (.ref f) = true) (ho : mroIn K C (.type "object") = some true)
    (h : wpAny (model prog w) A.in1 (call (.ref f) [.ref x, b]) (fun v s' => ∃ r, v = .bool r ∧ Q (.bool (!r)) s') E s) : wpAny (model prog w) A (richCompare .NotEq (.ref x) b) Q E s := by
  have hu0 : A.units < cLine := Nat.lt_of_succ_lt hu
  have hu1 : A.in1.units < cLine := hu
  have entry : wpAny (model prog w) A.in1 (Builtin.«object.__ne__» ⟨[.ref x, b], []⟩) (fun fin s' => ∃ r, fin = .done (.ret (.bool r)) ∧ Q (.bool r) s') E s := by
    unfold Builtin.«object.__ne__»
    refine wpAny_bind (wpAny_of_eq (a := (.ref x, [b])) (by first | rfl | kernel_rfl) ?_)
    show wpAny _ _ (cRoomFor "comparison" [.ref x, b] >>= _) _ _ _
    refine wpAny_bind (wpAny_cRoomFor hu1 ?_)
    refine wpAny_bind (ifBound_K X I heq hf (wpAny_mono h (fun v s' hv => ?_) fun _ _ e => e))
    obtain ⟨r, rfl, q⟩ := hv
    show wpAny _ _ (truthy (.bool r) >>= _) _ _ _
    exact wpAny_bind (wpAny_pure (wpAny_pure ⟨_, rfl, q⟩))
  have one : wpAny (model prog w) A (tryCompare (.ref x) "__ne__" b) (fun r s' => ∃ v, r = some v ∧ Q v s') E s := by
    unfold tryCompare
    refine wpAny_bind (g_ifBound X I hne (wpAny_call (codeAny_call_builtin F.cmp_object.ne.plain F.cmpEntry_ne (@check_slot (model prog w) _ _ s "object.__ne__" "object" "__ne__" (.ref x) [b] [] _ F.cmpKind_ne F.cmpSplit_ne
      (I.type.andThen (looks_mroIn X ho)) (F.cmpArgs_ne _ _) ?_))))
    refine wpAny_mono entry (fun fin s' z => ?_) fun _ _ e => e
    obtain ⟨r, rfl, q⟩ := z
    exact wpAny_pure ⟨_, rfl, q⟩
  unfold richCompare
  simp only [oneThing_ref]
  refine wpAny_holding (wpAny_bind (wpAny_cRoomFor hu0 ?_))
  refine wpAny_bind (I.type.here (wpAny_bind (hb.here ?_)))
  split
  · rename_i q
    have e : subIn K tb (.ref C) = some false := by
      rcases Bool.or_eq_true_iff.mp hn with e | e
      · rw [beq_iff_eq.mp e] at q; simp at q
      · exact beq_iff_eq.mp e
    refine wpAny_bind ((looks_subIn X e).here ?_)
    simp only [Bool.false_eq_true, if_false]
    refine wpAny_bind (wpAny_mono one (fun r s' z => ?_) fun _ _ e => e)
    obtain ⟨v, rfl, hq⟩ := z
    exact wpAny_pure hq
  · refine wpAny_bind (wpAny_pure ?_)
    simp only [Bool.false_eq_true, if_false]
    refine wpAny_bind (wpAny_mono one (fun r s' z => ?_) fun _ _ e => e)
    obtain ⟨v, rfl, hq⟩ := z
    exact wpAny_pure hq
end
end PySem.W
namespace G
open PySem PySem.Spec PyProof.Rows L2
/-- a class with its own __eq__ -/
structure OwnEq (K : PySem.W.Frag) (C g : Addr) : Prop where
  at_ : PySem.W.findIn K (.ref C) "__eq__" = some (some (.ref g))
  fn : PySem.W.isFn K (.ref g) = true
  ne : PySem.W.findIn K (.ref C) "__ne__" = some (some (.builtin "object.__ne__"))
  ob : PySem.W.mroIn K C (.type "object") = some true
section
variable {X : Cx} {CX : CXT} {j k : Nat} {C C' g a b dx dy : Addr} {fs gs : List (Str × V)} {sp : SpL} {El : XL} {L : Lg} {Q : QV}
theorem ins_inst {pins : List (Addr × Obj)} {σ : L2.St} {H : Hp} {s : Shared} (I : Inv X pins σ H s) (hH : Has H L) (m : (a, HO.ins C dx fs) ∈ L) : ∃ o od, PySem.W.InstAt s.heap a o C (some od) := by
  obtain ⟨mA, O, _⟩ := ins_get I.hok (hH.get m)
  obtain ⟨od, J, _⟩ := O.look
  exact ⟨_, od, J⟩
theorem RoomG.in1 {k : Nat} {A : Around} (r : RoomG (k + 1) A) : RoomG k A.in1 := ⟨r.toRoom.in1, r.gd⟩
theorem go_eqM (T : OwnEq X.K C g) (F : RunG X.prog X.w X.K X.mg X.base CX k g argsP (toSp sp)) (hr : RoomG j X.A) (hx : Passes CX X (upX El)) (ma : (a, HO.ins C dx fs) ∈ L) (mb : (b, HO.ins C' dy gs) ∈ L) (hn : PySem.W.notFirst X.K C (.ref C') = true)
    (h : sp [.ref a, .ref b] L (fun v L' => ∃ r, v = .bl r ∧ Q (.bl r) L') El) (hjk : k ≤ j := by decide) : GOp X (compareOp .Eq) (.ref a) (.ref b) L Q := fun pins s σ H v u hH I rx ry => by
  obtain rfl : v = Value.ref a := rx
  obtain rfl : u = Value.ref b := ry
  obtain ⟨oa, da, J⟩ := ins_inst I hH ma
  obtain ⟨ob, db, J'⟩ := ins_inst I hH mb
  obtain ⟨m, hF⟩ := I.fr
  show wpAny (model X.prog X.w) X.A (richCompare .Eq (.ref a) (.ref b)) _ _ _
  refine PySem.W.cmp_K (op := .Eq) (tb := .ref C') hr.toRoom.units0 hF I.ok.mod.kin J J'.type hn T.at_ T.fn ?_
  refine wpAny_mono (run_G (args := argsP) (us := [.ref a, .ref b]) (vs := [.ref a, .ref b]) F (hr.mono hjk) hx I (.cons rfl (.cons rfl .nil)) (up_sp hH h)) (fun r s' z => ?_) fun _ _ z => z
  obtain ⟨v, H', I', rv, L', h', r0, ev, q⟩ := z
  subst ev
  obtain rfl : r = Value.bool r0 := rv
  exact ⟨.bl r0, H', I', rfl, L', h', q⟩
theorem go_neM (T : OwnEq X.K C g) (F : RunG X.prog X.w X.K X.mg X.base CX k g argsP (toSp sp)) (hr : RoomG j X.A) (hx : Passes CX X (upX El)) (ma : (a, HO.ins C dx fs) ∈ L) (mb : (b, HO.ins C' dy gs) ∈ L) (hn : PySem.W.notFirst X.K C (.ref C') = true)
    (h : sp [.ref a, .ref b] L (fun v L' => ∃ r, v = .bl r ∧ Q (.bl (!r)) L') El) (hjk : k + 1 ≤ j := by decide) : GOp X (compareOp .NotEq) (.ref a) (.ref b) L Q := fun pins s σ H v u hH I rx ry => by
  obtain rfl : v = Value.ref a := rx
  obtain rfl : u = Value.ref b := ry
  obtain ⟨oa, da, J⟩ := ins_inst I hH ma
  obtain ⟨ob, db, J'⟩ := ins_inst I hH mb
  show wpAny (model X.prog X.w) X.A (richCompare .NotEq (.ref a) (.ref b)) _ _ _
  have hu : X.A.units + 1 < cLine := by
    have := hr.toRoom.units
    omega
  refine PySem.W.g_ne (tb := .ref C') hu I.kIn J J'.type hn T.ne T.at_ T.fn T.ob ?_
  refine wpAny_call (codeAny_mono (F X.A.in1 X.stack s H [.ref a, .ref b] [.ref a, .ref b] _ _ (hr.mono hjk).in1 I.env0.in1 (.cons rfl (.cons rfl .nil)) (up_sp hH h)) fun r s' hq => ?_)
  cases r with
  | error e => exact hx pins σ H s e s' I hq
  | ok fl =>
    cases fl with
    | ret w =>
      obtain ⟨z, H', I', rz, L', h', r0, ez, q⟩ := I.after hq
      subst ez
      obtain rfl : w = Value.bool r0 := rz
      exact ⟨r0, rfl, .bl (!r0), H', I', rfl, L', h', q⟩
    | next => exact hq.elim
    | brk => exact hq.elim
    | cont => exact hq.elim
/-- isinstance of an instance -/
structure OwnT (K : PySem.W.Frag) (C : Addr) : Prop where
  g : PySem.W.plainGet K C "__class__" = true
  d : PySem.W.hasDictIn K C = true
  a : PySem.W.findIn K (.ref C) "__class__" = some (some (.builtin "object.__class__"))
  n : PySem.W.specialIn K (.builtin "object.__class__") "__get__" = some (some (.builtin "getset_descriptor.__get__"))
  t : PySem.W.takesIn K (.builtin "object.__class__") = some true
  m : PySem.W.mroIn K C (.type "object") = some true
theorem gc_isI {c : V} {cv : Value} {r : Bool} (T : OwnT X.K C) (ma : (a, HO.ins C dx fs) ∈ L) (kc : ClsV c cv) (k : PySem.W.kitOne X.K (.ref C) cv = some r) (q : Q (.bl r) L) : GC X (.builtin "isinstance") [.ref a, c] L Q := fun pins s σ H us hH I rr => by
  cases rr with
  | cons rx rr =>
    cases rr with
    | cons rt rr =>
      cases rr
      obtain rfl : _ = Value.ref a := rx
      have ec := kc.eq rt
      subst ec
      obtain ⟨oe, od, J⟩ := ins_inst I hH ma
      exact PySem.W.kia_one (PySem.W.kitx_own T.g T.d T.a T.n T.t T.m) I.kIn J k (fun z => nomatch z) fun tk => ⟨.bl r, H, I.kept (t' := tk) fun _ _ z => z, rfl, L, hH, q⟩
end
end G

set_option Elab.async false
set_option linter.all false
set_option maxRecDepth 100000
set_option maxHeartbeats 4000000
/-! Chains of comparisons, stars in displays, sorted, isinstance of tuples of classes. -/
namespace G
open PySem PySem.Spec PyProof.Rows L2
section
variable {X : Cx} {η : En} {L : Lg} {Q : QV} {a b c e : Expr} {es : List Expr} {op op' : CmpOp} {pos p p2 : Pos} {x : V} {q : Addr}
theorem ge_chain (h : GE X a η L fun x L1 => GE X b η L1 fun y L2 => GOp X (compareOp op) x y L2 fun z L3 => ∃ k, z = .bl k ∧ if k = true then GE X c η L3 fun w L4 => GOp X (compareOp op') y w L4 Q else Q (.bl false) L3)
    (hm : lastMarks [op, op'] [b, c] = false := by with_unfolding_all rfl) : GE X (.Compare a [op, op'] [b, c] pos) η L Q := fun hN H hH =>
  WE.of (pe_chain (r := fun x y H' Q' => ∀ pins s σ v u, Inv X pins σ H' s → RelV x v → RelV y u → wpAny (model X.prog X.w) X.A (compareOp op v u) (EP X pins σ Q') X.xe s)
    (r' := fun x y H' Q' => ∀ pins s σ v u, Inv X pins σ H' s → RelV x v → RelV y u → wpAny (model X.prog X.w) X.A (compareOp op' v u) (EP X pins σ Q') X.xe s)
    (fun pins s σ H' x y v u Q' I r1 r2 q => q pins s σ v u I r1 r2) (fun pins s σ H' x y v u Q' I r1 r2 q => q pins s σ v u I r1 r2) pe_W pe_W pe_W hm)
    (h.then hN hH fun x _ _ h1 q1 => q1.then hN h1 fun y _ _ h2 q2 => fun pins s σ v u I r1 r2 => by
      refine wpAny_mono (q2 pins s σ _ v u h2 I r1 r2) (fun z s' zz => ?_) fun _ _ z => z
      obtain ⟨zv, H3, I3, r3, L3, h3, k, ek, q3⟩ := zz
      refine ⟨zv, H3, I3, r3, k, ek, ?_⟩
      cases k with
      | true =>
        rw [if_pos rfl] at q3
        rw [if_pos rfl]
        exact q3.then hN h3 fun w L4 H4 h4 q4 => fun pins s σ v u I r1 r2 => q4 pins s σ _ v u h4 I r1 r2
      | false =>
        rw [if_neg Bool.false_ne_true] at q3
        rw [if_neg Bool.false_ne_true]
        exact ⟨L3, h3, q3⟩)
/-- *e among the values -/
theorem ga_star {Q : List V → Lg → Prop} (h : GE X e η L fun x L1 => ∃ p xs, x = .ref p ∧ ((p, HO.tup xs) ∈ L1 ∨ (p, HO.lst xs) ∈ L1) ∧ GA X es η L1 fun ys L2 => Q (xs ++ ys) L2) (hs : starEach (.Starred e p :: es) X.env = (true, eval e X.env) :: starEach es X.env := by rfl) : GA X (.Starred e p :: es) η L Q := fun hN H hH =>
  WA.of (StX.pa_star pe_W pa_W hs) (h.then hN hH fun x L1 H1 h1 ⟨p, xs, ex, m, q⟩ => ⟨p, xs, ex, m.imp (fun z => sqt h1 z) fun z => sql h1 z, q.then hN h1 fun _ L2 _ h2 q2 => ⟨L2, h2, q2⟩⟩)
theorem gc_sorted {ns : List Int} (m : (q, HO.lst (ns.map V.int)) ∈ L) (h : ∀ (ms : List Int) p, ms.Perm ns → ms.Pairwise (· ≤ ·) → Q (.ref p) ((p, .lst (ms.map V.int)) :: L)) : GC X (.builtin "sorted") [.ref q] L Q :=
  GC.of cr_sortedI fun H hH => ⟨q, ns, rfl, sql hH m, fun ms p hp hs hn => ⟨_, hH.new hn, h ms p hp hs⟩⟩
end
theorem bt_sorted : bootBuiltins "sorted" = some (.builtin "sorted") := by decide +kernel
/-- the answer of isinstance against several built-in classes -/
def kitAnyB (T : String) : List String → Option Bool
  | [] => some false
  | c :: r => match kitB T c with
    | some true => some true
    | some false => kitAnyB T r
    | none => none
theorem kitAny_of {K : PySem.W.Frag} {T : String} : ∀ {cs : List String} {b : Bool}, kitAnyB T cs = some b → PySem.W.kitAny K (.type T) (cs.map Value.type) = some b
  | [], b, h => h
  | c :: r, b, h => by
    unfold kitAnyB at h
    cases k : kitB T c with
    | none =>
      rw [k] at h
      cases h
    | some t =>
      rw [k] at h
      cases t with
      | true =>
        cases h
        exact kitAny_cons (kit_ty k) (fun z => nomatch z) fun _ => rfl
      | false => exact kitAny_cons (kit_ty k) (fun _ => kitAny_of h) fun z => nomatch z
section
variable {X : Cx} {η : En} {L : Lg} {Q : QV} {e : Expr} {es : List Expr} {pos p : Pos} {x : V} {q : Addr} {T : String} {cs : List String} {b : Bool} {y : Str} {v : V} {u : Value}
theorem gb_sorted (B : Bi X.mg) (h : GA X (e :: es) η L fun xs L1 => GC X (.builtin "sorted") xs L1 Q) (hg : Gl X "sorted" := by rfl) (he : starEach (e :: es) X.env = (false, eval e X.env) :: starEach es X.env := by rfl) (hpl : (backTo pos (starEach es X.env)).any (·.1) = false := by rfl) :
    GE X (.Call (.Name "sorted" p) (e :: es) [] pos) η L Q := ge_B B.sorted bt_sorted h hg (by decide) (by decide) he hpl
theorem paired_ty : ∀ {cs : List String}, Paired ClsV (cs.map V.ty) (cs.map Value.type)
  | [] => .nil
  | c :: _ => .cons (.ty c) paired_ty
theorem gc_isT (cs : List String) (k : Knd L x T) (m : (q, HO.tup (cs.map V.ty)) ∈ L) (e : kitAnyB T cs = some b) (h : Q (.bl b) L) : GC X (.builtin "isinstance") [x, .ref q] L Q :=
  GC.of call_isiT fun H hH => ⟨x, q, cs.map V.ty, .type T, cs.map Value.type, b, rfl, hH.get m, paired_ty, k.ty H hH, kitAny_of e, L, hH, h⟩
/-- a global that holds a plain value -/
theorem gv_con (hm : X.mg y = some u) (r : RelV v u) (q : Q v L) (hg : Gl X y := by rfl) (hd : (y == ("__debug__" : Str)) = false := by decide) : GE X (.Name y pos) η L Q := ge_con (pe_glob hg hm r hd) q
end
end G

set_option Elab.async false
set_option linter.all false
set_option maxRecDepth 100000
set_option maxHeartbeats 4000000
/-! enumerate of a tuple. -/
namespace PySem
open Sem (wp)
open AutoSeq1 (wpAny_loadPart')
theorem g_enum_newT (l : Addr) (items : Array Value) (n : Nat) (dct : Option Addr) (sl : Array (Option Value)) :
    Meets (Builtin.«enumerate.__new__» ⟨[.type "enumerate", .ref l], []⟩) (fun _ R s => s.heap.get? l = some { cls := .type "tuple", dict := dct, data := .seq items n, slots := sl } ∧
      R (.ok (.ret (.ref (s.heap.push { cls := .type "tuple_iterator", data := .fields #[.ref l, .int 0 0] }).objs.size)))
        { s with heap := (s.heap.push { cls := .type "tuple_iterator", data := .fields #[.ref l, .int 0 0] }).push { cls := .type "enumerate", data := .fields #[.none, .bool false, .ref s.heap.objs.size, rawInt 0, .none, .none] } }) :=
  .of_wp fun prog w A R s h => by
    obtain ⟨hp, g, d, tk, os⟩ := s; obtain ⟨hl, h⟩ := h
    have hsub := sub_enumerate
    have hL : Heap.IsTuple (Shared.heap ⟨hp, g, d, tk, os⟩) l items := ⟨_, hl, rfl, n, rfl⟩
    wp_walk using wpAny_loadPart' hl
    refine wpAny_stack_any fun st => wpAny_pure ?_
    split
    · rename_i c _ _ _ _ _
      cases (c == Value.type "enumerate")
      · wp_walk using wpAny_loadPart' hl, wpAny_pyIter_tuple hL
        exact ⟨_, rfl, h⟩
      · wp_walk using wpAny_loadPart' hl, wpAny_pyIter_tuple hL
        exact ⟨_, rfl, h⟩
    · wp_walk using wpAny_loadPart' hl, wpAny_pyIter_tuple hL
      exact ⟨_, rfl, h⟩
theorem g_call_enumT {prog : Program} {w : World} {A : Around} {E : Value → Shared → Prop} {s : Shared} {l : Addr} {items : Array Value} {Q : Value → Shared → Prop} (hL : s.heap.IsTuple l items)
    (h : ∀ h', IsEnum h' (s.heap.objs.size + 1) s.heap.objs.size 0 .none → h'.IsTupleIter s.heap.objs.size l 0 → h'.objs.size = s.heap.objs.size + 2 →
      (∀ b o, s.heap.get? b = some o → h'.get? b = some o) → Q (.ref (s.heap.objs.size + 1)) { s with heap := h' }) :
    wpAny (model prog w) A (call (.type "enumerate") [.ref l]) Q E s := by
  obtain ⟨⟨c, dct, dt, sl⟩, hl, hc, n, hd⟩ := hL
  replace hc : c = .type "tuple" := hc
  replace hd : dt = .seq items n := hd
  subst hc hd
  refine callType_new F.called_enumerate (by decide) (F.typeCall_enumerate_1 _) (F.newCall_enumerate_1 _) (fun obj => F.args_object_init_2 obj _) F.entry_enumerate_new
    (g_enum_newT l items n dct sl) ⟨hl, ?_⟩
  have hz : (s.heap.push { cls := .type "tuple_iterator", data := .fields #[.ref l, .int 0 0] }).objs.size = s.heap.objs.size + 1 := Heap.size_push ..
  show _ ∧ _
  rw [hz]
  have he : IsEnum ((s.heap.push { cls := .type "tuple_iterator", data := .fields #[.ref l, .int 0 0] }).push
      { cls := .type "enumerate", data := .fields #[.none, .bool false, .ref s.heap.objs.size, rawInt 0, .none, .none] }) (s.heap.objs.size + 1) s.heap.objs.size 0 .none := by
    have := Heap.get?_push_size (s.heap.push { cls := .type "tuple_iterator", data := .fields #[.ref l, .int 0 0] })
      (o := { cls := .type "enumerate", data := .fields #[.none, .bool false, .ref s.heap.objs.size, rawInt 0, .none, .none] }) rfl
    rw [hz] at this; exact this
  refine ⟨⟨_, he, rfl⟩, h _ he ⟨_, Heap.get?_push_of_some _ (Heap.get?_push_size _ rfl), rfl, rfl⟩ (by rw [Heap.size_push, hz]) fun b o x => Heap.get?_push_of_some _ (Heap.get?_push_of_some _ x)⟩
theorem g_enum_endT {prog : Program} {w : World} {A : Around} {E : Value → Shared → Prop} {s : Shared} {e it t : Addr} {i : Nat} {k : Int} {items : Array Value} {old : Value} {Q : Option Value → Shared → Prop} (hh : A.handled = none)
    (he : IsEnum s.heap e it k old) (hit : s.heap.IsTupleIter it t i) (ht : s.heap.IsTuple t items) (hx : items[i]? = none) (hQ : ∀ h', Heap.ExtBut it s.heap h' → Q none { s with heap := h' }) : wpAny (model prog w) A (pyNext (.ref e)) Q E s := by
  have hT : s.TypeIs (.ref e) "enumerate" := ⟨_, he, rfl⟩
  unfold pyNext
  refine wpAny_bind (wpAny_attempt (wpAny_callSpecial?_slot (name := Str.ofString "__next__") hT F.slot_enumerate_next
    (wpAny_call_entry F.slot_enumerate_next hT F.entry_enumerate_next ?_ (F.args_enumerate_next_1 _))))
  show wpAny _ _ (field (.ref e) 2 >>= _) _ _ _
  refine wpAny_bind (wpAny_field he rfl (x := .ref it) rfl ?_)
  refine wpAny_bind (wpAny_nextOf_tuple_end (A := A.in1) hh hit ht hx fun h' x he' hx' => ?_)
  obtain ⟨o, ho, hc⟩ := hx'
  refine wpAny_bind (wpAny_isInstance (T := "StopIteration") (b := true) ⟨o, ho, hc⟩ isSubtype_stop ?_)
  exact wpAny_pure (hQ _ he')
end PySem
namespace G
open PySem PySem.Spec PyProof.Rows L2
def IteT (K : PySem.W.Frag) (a : Addr) : It :=
  ⟨fun i H => ∃ (xs : List V) (x : V), SqT K H a xs ∧ xs[i]? = some x, fun i H v H' => ∃ T x, v = .ref T ∧ H T = none ∧ H' = upd H T (.tup [.int (i : Nat), x]) ∧ ∀ xs, SqT K H a xs → xs[i]? = some x, fun i H => ∃ xs : List V, SqT K H a xs ∧ xs.length ≤ i⟩
theorem cls_ne {h : Heap} {a b : Addr} {S T : String} (x : ∃ o, h.get? a = some o ∧ o.cls = .type S) (y : ∃ o, h.get? b = some o ∧ o.cls = .type T) (n : S ≠ T) : a ≠ b := fun e => by
  obtain ⟨o, h1, c1⟩ := x
  obtain ⟨o', h2, c2⟩ := y
  rw [e, h2] at h1
  cases h1
  rw [c1] at c2
  cases c2
  exact n rfl
theorem turn_enumT {P : Program} {w : World} {K : PySem.W.Frag} {elts : List Expr} {kk : Nat} {tpos : Pos} (a e it : Addr) :
    Turn P w K (.Tuple elts kk tpos) (IteT K a) [e, it] e (fun i h => (∃ old, IsEnum h e it ((i : Nat) : Int) old) ∧ h.IsTupleIter it a i ∧ e ≠ it) where
  mem := by simp
  obj := fun i h st b hb => by
    obtain ⟨⟨old, he⟩, ⟨o, ho, hc, hd⟩, _⟩ := st
    have e' : b = e ∨ b = it := by simpa using hb
    rcases e' with z | z
    · rw [z]; exact ⟨_, he, fun v q => nomatch q⟩
    · rw [z]; exact ⟨o, ho, fun v q => by rw [hd] at q; cases q⟩
  keep := fun i h h' st k => let ⟨⟨old, he⟩, hi, hne⟩ := st; ⟨⟨old, k e (by simp) _ he⟩, hi.at fun o q => k it (by simp) o q, hne⟩
  item := by
    intro X hP hw hK hc i pins s σ H E I hf st hg
    subst hP hw hK
    obtain ⟨⟨old, he⟩, hit, hne⟩ := st
    obtain ⟨xs, x, hq, hx⟩ := hg
    obtain ⟨its, rv, p, hz⟩ := I.tuple hq
    obtain ⟨u, hu, ru⟩ := rv.get hx
    have hel : e < s.heap.objs.size := Heap.lt_size he
    have hil : it < s.heap.objs.size := by obtain ⟨_, q, _⟩ := hit; exact Heap.lt_size q
    have pT : ∃ o, s.heap.get? a = some o ∧ o.cls = .type "tuple" := by
      obtain ⟨o, h1, h2, _⟩ := p
      exact ⟨o, h1, h2⟩
    have iT : ∃ o, s.heap.get? it = some o ∧ o.cls = .type "tuple_iterator" := by
      obtain ⟨o, h1, h2, _⟩ := hit
      exact ⟨o, h1, h2⟩
    have ai : a ≠ it := cls_ne pT iT (by decide)
    have ea : e ≠ a := cls_ne ⟨_, he, rfl⟩ pT (by decide)
    have hlt : i < its.toArray.size := by
      have := (List.getElem?_eq_some_iff.mp hu).1
      simpa using this
    refine wpAny_pyNext_enum_itemD (Draws.tuple (A := X.A.in1) (I.ok.hd hc) it a ai its.toArray) he ⟨hit, p⟩ hlt hne (by simp [hne, ea]) fun u' h' tk hu' ho hst hT hsz hk => ?_
    obtain rfl : u' = u := by
      have : its.toArray[i]? = some u := by simpa using hu
      exact Option.some.inj (hu'.symm.trans this)
    refine ⟨_, rfl, wpAny_letOwnedTupleGo_enum (s := { s with heap := h', toks := tk + 1 }) ho fun h'' he' sb => ?_⟩
    have hT2 : h''.get? s.heap.objs.size = some { cls := .type "tuple", data := .seq #[.int i tk, u'] } := (sb.2 _ (Nat.ne_of_gt hel)).trans hT
    have new : ObjOk X.prog X.w (upd H s.heap.objs.size (.tup [.int (i : Nat), x])) h'' s.heap.objs.size (.tup [.int (i : Nat), x]) :=
      ⟨by show 2 ≤ sizeLine; decide, [.int i tk, u'], .cons ⟨_, rfl⟩ (.cons ru .nil), ⟨_, hT2, rfl, _, rfl⟩⟩
    have I1 : Inv X pins σ (upd H s.heap.objs.size (.tup [.int (i : Nat), x])) { s with heap := h'', toks := tk + 1 } :=
      I.turnedNew (ch := [e, it]) (fun b ob hb q => (sb.2 b (fun z => hb (by simp [z]))).trans (hk b ob (fun z => hb (by simp [z])) (fun z => hb (by simp [z])) q)) hf (Nat.le_refl _) new
    refine ⟨.ref s.heap.objs.size, _, I1, rfl, ⟨_, x, rfl, I.hok.fresh (Nat.le_refl _), rfl, fun ys hy => by rw [I.tuple_inj hy hq]; exact hx⟩, ⟨⟨u', ?_⟩, hst.1.at fun o q => (sb.2 it (Ne.symm hne)).trans q, hne⟩, fun b hb => ?_⟩
    · have e1 : ((i + 1 : Nat) : Int) = (i : Int) + 1 := by omega
      rw [e1]; exact he'
    · have hb' : b < s.heap.objs.size := by
        have e' : b = e ∨ b = it := by simpa using hb
        rcases e' with z | z
        · rw [z]; exact hel
        · rw [z]; exact hil
      rw [upd_ne (Nat.ne_of_lt hb')]
      exact (hf b hb).1
  done := by
    intro X hP hw hK hc i pins s σ H E I hf st hg
    subst hP hw hK
    obtain ⟨⟨old, he⟩, hit, hne⟩ := st
    obtain ⟨xs, hq, hx⟩ := hg
    obtain ⟨its, rv, p, hz⟩ := I.tuple hq
    obtain ⟨f0, f1, f2, f3, f4, f5⟩ := hf it (by simp)
    have hl := rv.length
    exact g_enum_endT (I.ok.hd hc) he hit p (by simp; omega) fun h' eb => ⟨rfl, I.turned (t' := s.toks) (fun b o hb q => eb b o hb q) f0 f1 f3 f4 f5⟩
  self := fun A i s Q E st h => let ⟨⟨_, he⟩, _⟩ := st; wpAny_pyIter_enum he h
def iEnumT (K : PySem.W.Frag) (ta : TA) : TI := fun σ H R => ta σ H fun vs H1 => ∃ a xs, vs = [.ref a] ∧ SqT K H1 a xs ∧ R (IteT K a) H1
theorem pi_enumT {X : Cx} {e : Expr} {ta : TA} {p pos tpos : Pos} {elts : List Expr} {kk : Nat} (hg : Gl X "enumerate") (hm : X.mg "enumerate" = none) (ha : PA X [e] ta) (hs : starEach [e] X.env = [(false, eval e X.env)] := by rfl) :
    PI X (.Tuple elts kk tpos) (.Call (.Name "enumerate" p) [e] [] pos) (iEnumT X.K ta) := by
  refine ⟨fun pins s σ H R I h => ?_⟩
  refine Call_ (ld_blt I hg hm boot_enumerate (PyProof.Rows.callWith_type1 (thn (ha.run pos pins s σ H _ I h) fun us s1 ⟨vs, H1, I1, r1, q1⟩ => ?_) hs rfl))
  obtain ⟨a, xs, ex, hq, q⟩ := q1
  subst ex
  cases r1 with
  | cons r rr =>
    cases rr
    cases r
    obtain ⟨its, rv, p', hz⟩ := I1.tuple hq
    refine g_call_enumT p' fun h' he hit hsz hk => wpAny_pyIter_enum he ?_
    have I2 : Inv X pins σ H1 { s1 with heap := h' } := I1.kept (t' := s1.toks) hk
    refine ⟨s1.heap.objs.size + 1, [s1.heap.objs.size + 1, s1.heap.objs.size], _, _, H1, rfl, I2, turn_enumT a (s1.heap.objs.size + 1) s1.heap.objs.size, ⟨⟨.none, he⟩, hit, Nat.succ_ne_self _⟩, fun b hb => ?_, q⟩
    have e' : b = s1.heap.objs.size + 1 ∨ b = s1.heap.objs.size := by simpa using hb
    have hle : s1.heap.objs.size ≤ b := by
      rcases e' with z | z
      · rw [z]; exact Nat.le_add_right _ _
      · rw [z]; exact Nat.le_refl _
    exact I1.fpOk hle (I1.hok.fresh hle)
theorem walk_enumT {K : PySem.W.Frag} {a : Addr} {xs : List V} : Walk (IteT K a) xs.length (fun H => SqT K H a xs) (YPair (fun i => some (.int (i : Nat))) (fun i => xs[i]?)) := by
  refine ⟨fun i _ hi q => ⟨xs, xs[i], q, by simp [hi]⟩, fun _ q => ⟨xs, q, Nat.le_refl _⟩, fun i H v H' _ q y => ?_⟩
  obtain ⟨T, x, h1, h2, h3, h4⟩ := y
  exact ⟨T, .int (i : Nat), x, h1, h2, h3, rfl, h4 xs q⟩
section
variable {X : Cx} {η : En} {L : Lg} {e : Expr} {elts : List Expr} {kk : Nat} {tpos p pos : Pos} {Q : Src → Lg → Prop}
theorem gi_enumT (h : GA X [e] η L fun vs L1 => ∃ q xs, vs = [.ref q] ∧ (q, HO.tup xs) ∈ L1 ∧ Q ⟨xs.length, KeepT q xs, itemPr (fun i => some (.int (i : Nat))) (fun i => xs[i]?)⟩ L1) (hm : X.mg "enumerate" = none) (hg : Gl X "enumerate" := by rfl)
    (hs' : starEach [e] X.env = [(false, eval e X.env)] := by rfl) : GI X (.Tuple elts kk tpos) (.Call (.Name "enumerate" p) [e] [] pos) η L Q := fun hN H hH =>
  WI.of (pi_enumT hg hm pa_W hs') (h.then hN hH fun vs L1 H1 k1 ⟨q, xs, e1, m, z⟩ => ⟨q, xs, e1, sqt k1 m, L1, _, k1, SrcOk.of walk_enumT (fun H M hM k => sqt hM k) (fun i H x H' M _ hM _ y => y_pr hM y), z⟩)
end
end G

set_option Elab.async false
set_option linter.all false
set_option maxRecDepth 100000
set_option maxHeartbeats 4000000
/-! min of a list of pairs of ints. -/
namespace G
open PySem PySem.Spec PyProof.Rows L2
abbrev P2 (p : Int × Int) : PyData := .tuple [.int p.1, .int p.2]
def lt2 (p q : Int × Int) : Bool := decide (p.1 < q.1 ∨ (p.1 = q.1 ∧ p.2 < q.2))
theorem alike2 (p q : Int × Int) : PySem.W.alike (P2 p) (P2 q) = true := by simp [PySem.W.alike, PySem.W.alikeAll]
theorem alikeI (a b : Int) : PySem.W.alike (.int a) (.int b) = true := by simp [PySem.W.alike]
theorem eqvI (a b : Int) : PyData.eqv (.int a) (.int b) = decide (a = b) := by
  by_cases h : a = b
  · simp [PyData.eqv, h]
  · simp [PyData.eqv, h]
theorem dataLt2 (p q : Int × Int) : PySem.W.dataLt (P2 p) (P2 q) = lt2 p q := by
  unfold lt2
  rw [PySem.W.dataLt_tuple]
  by_cases e : p.1 = q.1
  · rw [PySem.W.dataLt_all_yes (alikeI _ _) (by rw [eqvI, decide_eq_true e])]
    by_cases f : p.2 = q.2
    · rw [PySem.W.dataLt_all_yes (alikeI _ _) (by rw [eqvI, decide_eq_true f]), decide_eq_false (by omega)]
      rfl
    · rw [PySem.W.dataLt_all_no (alikeI _ _) (by rw [eqvI, decide_eq_false f]), PySem.W.dataLt_int]
      by_cases g : p.2 < q.2
      · rw [decide_eq_true g, decide_eq_true (by omega)]
      · rw [decide_eq_false g, decide_eq_false (by omega)]
  · rw [PySem.W.dataLt_all_no (alikeI _ _) (by rw [eqvI, decide_eq_false e]), PySem.W.dataLt_int]
    by_cases g : p.1 < q.1
    · rw [decide_eq_true g, decide_eq_true (by omega)]
    · rw [decide_eq_false g, decide_eq_false (by omega)]
def min2 (p : Int × Int) (ps : List (Int × Int)) : Int × Int := ps.foldl (fun a y => if lt2 y a = true then y else a) p
theorem minD2 : ∀ (ps : List (Int × Int)) (p : Int × Int), PySem.W.minD (P2 p) (ps.map P2) = P2 (min2 p ps)
  | [], _ => rfl
  | q :: r, p => by
    show PySem.W.minD (if PySem.W.dataLt (P2 q) (P2 p) = true then P2 q else P2 p) (r.map P2) = P2 (min2 (if lt2 q p = true then q else p) r)
    rw [dataLt2]
    by_cases z : lt2 q p = true
    · rw [if_pos z, if_pos z]
      exact minD2 r q
    · rw [if_neg z, if_neg z]
      exact minD2 r p
/-- not greater, by the first, then by the second -/
def le2 (p q : Int × Int) : Prop := p.1 < q.1 ∨ (p.1 = q.1 ∧ p.2 ≤ q.2)
theorem min2_le : ∀ (ps : List (Int × Int)) (p : Int × Int), le2 (min2 p ps) p ∧ ∀ q ∈ ps, le2 (min2 p ps) q
  | [], p => ⟨.inr ⟨rfl, Int.le_refl _⟩, fun _ z => absurd z (List.not_mem_nil)⟩
  | q :: r, p => by
    show le2 (min2 (if lt2 q p = true then q else p) r) p ∧ ∀ x ∈ q :: r, le2 (min2 (if lt2 q p = true then q else p) r) x
    by_cases z : lt2 q p = true
    · rw [if_pos z]
      obtain ⟨a, b⟩ := min2_le r q
      have z' := of_decide_eq_true z
      refine ⟨?_, fun x hx => ?_⟩
      · unfold le2 at a ⊢
        omega
      · rcases List.mem_cons.mp hx with rfl | hx
        · exact a
        · exact b x hx
    · rw [if_neg z]
      obtain ⟨a, b⟩ := min2_le r p
      have z' : ¬ (q.1 < p.1 ∨ (q.1 = p.1 ∧ q.2 < p.2)) := fun y => z (decide_eq_true y)
      refine ⟨a, fun x hx => ?_⟩
      rcases List.mem_cons.mp hx with rfl | hx
      · unfold le2 at a ⊢
        omega
      · exact b x hx
theorem depth2 : ∀ ps : List (Int × Int), PyData.depthAll (ps.map P2) ≤ 1
  | [] => by simp [PyData.depthAll]
  | p :: r => by
    have e := depth2 r
    simp only [List.map_cons, PyData.depthAll, PyData.depth]
    omega
/-- pairs in the ledger -/
abbrev Pr2 := Addr × Int × Int
section
variable {X : Cx} {L : Lg} {Q : QV} {q : Addr} {j : Nat}
theorem dls_prs : ∀ {ps : List Pr2}, (∀ e ∈ ps, (e.1, HO.tup [.int e.2.1, .int e.2.2]) ∈ L) → Dls L (ps.map fun e => V.ref e.1) ((ps.map fun e => e.2).map P2)
  | [], _ => dls_nil
  | e :: r, h => dls_cons (dl_tup (h e (List.mem_cons_self ..)) (dls_cons dl_int (dls_cons dl_int dls_nil))) (dls_prs fun x hx => h x (List.mem_cons_of_mem _ hx))
theorem gc_minP {ps : List Pr2} (hc : X.calm = true) (hr : RoomG j X.A) (m : (q, HO.lst (ps.map fun e => V.ref e.1)) ∈ L) (ht : ∀ e ∈ ps, (e.1, HO.tup [.int e.2.1, .int e.2.2]) ∈ L) (h0 : ps ≠ [])
    (h : ∀ e ∈ ps, (∀ y ∈ ps, le2 e.2 y.2) → Q (.ref e.1) L) : GC X (.builtin "min") [.ref q] L Q := fun pins s σ H us hH I rr => by
  rw [Vals.ref1 rr]
  obtain ⟨its, rv, hl, _⟩ := I.list (sql hH m)
  obtain ⟨p, r, rfl⟩ : ∃ p r, ps = p :: r := by
    cases ps with
    | nil => exact absurd rfl h0
    | cons p r => exact ⟨p, r, rfl⟩
  obtain ⟨as, ra⟩ := Dp.readsAll I _ _ _ (dls_prs ht X.K H hH) rv
  let rs : List (Int × Int) := r.map fun e => e.2
  have hu : X.A.units + 1 + PyData.depthAll (P2 p.2 :: rs.map P2) < cLine := by
    have a := hr.toRoom.units
    have b := depth2 (p.2 :: rs)
    rw [List.map_cons] at b
    omega
  have ha : PySem.W.AlikeAll (P2 p.2 :: rs.map P2) := by
    have all : ∀ x ∈ P2 p.2 :: rs.map P2, ∃ y, x = P2 y := fun x hx => by
      rcases List.mem_cons.mp hx with rfl | hx
      · exact ⟨_, rfl⟩
      · obtain ⟨y, _, rfl⟩ := List.mem_map.mp hx
        exact ⟨y, rfl⟩
    refine ⟨fun x hx y hy => ?_, fun x hx => ?_⟩
    · obtain ⟨x', rfl⟩ := all x hx
      obtain ⟨y', rfl⟩ := all y hy
      exact alike2 _ _
    · obtain ⟨x', rfl⟩ := all x hx
      exact fun z => nomatch z
  have ra' : ReadsAll s.heap its.toArray.toList (P2 p.2 :: rs.map P2) as := ra
  refine PySem.W.min_list_data (I.ok.hd hc) hl.isList ra' ha hu fun i v h' tk bs hv hR k => ?_
  rw [minD2] at hR
  have hv' : its[i]? = some v := by simpa using hv
  have hi : i < (p :: r).length := by
    have a := (List.getElem?_eq_some_iff.mp hv').1
    have b := rv.length
    rw [List.length_map] at b
    omega
  obtain ⟨e, he⟩ : ∃ e, (p :: r)[i]? = some e := ⟨_, List.getElem?_eq_getElem hi⟩
  have hx : ((p :: r).map fun e => V.ref e.1)[i]? = some (.ref e.1) := by rw [List.getElem?_map, he] <;> rfl
  obtain ⟨u, hu', ru⟩ := rv.get hx
  obtain rfl : u = v := Option.some.inj (hu'.symm.trans hv')
  obtain rfl : u = Value.ref e.1 := ru
  have em := List.mem_of_getElem? he
  obtain ⟨as2, r2⟩ := Dp.reads I _ (.ref e.1) (.ref e.1) (dl_tup (ht e em) (dls_cons dl_int (dls_cons dl_int dls_nil)) X.K H hH) rfl
  have eq := PySem.W.alike_unique _ _ _ _ _ (alike2 (min2 p.2 rs) e.2) hR (Reads.keeps k r2)
  have e2 : min2 p.2 rs = e.2 := by
    have z := PyData.tuple.inj eq
    simp only [List.cons.injEq, PyData.int.injEq, and_true] at z
    exact Prod.ext z.1 z.2
  refine ⟨.ref e.1, H, I.kept (t' := tk) k, rfl, L, hH, h e em fun y hy => ?_⟩
  rw [← e2]
  obtain ⟨a, b⟩ := min2_le rs p.2
  rcases List.mem_cons.mp hy with rfl | hy
  · exact a
  · exact b _ (List.mem_map.mpr ⟨y, hy, rfl⟩)
end
end G

set_option Elab.async false
set_option linter.all false
set_option maxRecDepth 100000
set_option maxHeartbeats 4000000
/-! bool(x) and tests by an own __bool__; properties. -/
namespace PySem.W
open PySem PySem.Calls PySem.Spec PyProof.Rows
section
variable {prog : Program} {w : World} {A : Around} {E : Value → Shared → Prop} {s : Shared} {K : Frag} {x C f : Addr} {ox : Obj} {odd : Option Obj}
theorem g_truthy {M : Model} {Q : Bool → Shared → Prop} (X : K.In s.heap) (I : InstAt s.heap x ox C odd) (hs : findIn K (.ref C) "__bool__" = some (some (.ref f))) (hf : isFn K (.ref f) = true)
    (h : wpAny M A (call (.ref f) [.ref x]) (fun r s₁ => ∃ b, r = Value.bool b ∧ Q b s₁) E s) : wpAny M A (truthy (.ref x)) Q E s := by
  unfold truthy
  refine wpAny_bind (m := callSpecial? (.ref x) (Str.ofString "__bool__")) (special_fn X I hs (beq_iff_eq.mp hf) (wpAny_mono h (fun r s' hr => ?_) fun _ _ y => y))
  obtain ⟨b, rfl, hq⟩ := hr
  exact wpAny_pure hq
theorem g_bool_own {Q : Value → Shared → Prop} (X : K.In s.heap) (I : InstAt s.heap x ox C odd) (hs : findIn K (.ref C) "__bool__" = some (some (.ref f))) (hf : isFn K (.ref f) = true)
    (h : wpAny (model prog w) A.in1.in1 (call (.ref f) [.ref x]) (fun r s₁ => ∃ b, r = Value.bool b ∧ Q r s₁) E s) : wpAny (model prog w) A (call (.type "bool") [.ref x]) Q E s := by
  refine callType_codes (T := "bool") (Bi := Builtin.«object.__init__») (Q₁ := fun r s₁ => ∃ b, r = Value.bool b ∧ Q r s₁) PySem.F.called_bool (PySem.F.typeCall_bool_1 _) PySem.F.entry_object_init ?_ ?_
  · refine codeAny_of_tree ?_
    show wpAny _ A.in1.in1 (do checkBuiltinCall "bool.__new__" ⟨[.type "bool", .ref x], []⟩; again (.builtin "bool.__new__" ⟨[.type "bool", .ref x], []⟩)) _ _ s
    refine wpAny_bind (wpAny_of_eq (PySem.F.newCall_bool_1 _) (wpAny_pure ⟨plainId_quiet (by decide +kernel) _, codeAny_builtin PySem.F.entry_bool_new ?_⟩))
    rw [Around.under_plainId (by decide +kernel) _]
    unfold Builtin.«bool.__new__»
    refine wpAny_bind (wpAny_of_eq (a := true) (by first | rfl | kernel_rfl) ?_)
    refine PySem.W.KFB.if_not rfl ?_
    refine wpAny_bind (wpAny_of_eq (a := true) PySem.F.conv_sub_bool ?_)
    refine PySem.W.KFB.if_not rfl ?_
    refine wpAny_bind (wpAny_of_eq (a := [.ref x]) (by first | rfl | kernel_rfl) ?_)
    show wpAny _ _ (truthy (.ref x) >>= _) _ _ _
    refine wpAny_bind (g_truthy X I hs hf (wpAny_mono h (fun r s₁ hr => ?_) fun _ _ y => y))
    obtain ⟨b, rfl, hq⟩ := hr
    exact ⟨b, rfl, wpAny_pure ⟨b, rfl, hq⟩⟩
  · rintro obj s₁ ⟨b, rfl, hq⟩
    exact ⟨typeIs_bool _ _, PySem.F.args_object_init_2 _ _, object_init_meets PySem.F.called_bool.init.lookup PySem.F.called_bool.made (by decide) prog w A.in1 _ s₁ ⟨typeIs_bool _ _, rfl, hq⟩⟩
end
end PySem.W
namespace G
open PySem PySem.Spec PyProof.Rows L2
section
variable {X : Cx} {CX : CXT} {j k : Nat} {C g a dx p : Addr} {fs : List (Str × V)} {sp : SpL} {El : XL} {L : Lg} {Q : QV} {n : Str}
theorem gc_boolM (hs : PySem.W.findIn X.K (.ref C) "__bool__" = some (some (.ref g))) (hf : PySem.W.isFn X.K (.ref g) = true) (F : RunG X.prog X.w X.K X.mg X.base CX k g argsP (toSp sp)) (hr : RoomG j X.A) (hx : Passes CX X (upX El)) (ma : (a, HO.ins C dx fs) ∈ L)
    (h : sp [.ref a] L (fun v L' => ∃ b, v = .bl b ∧ Q (.bl b) L') El) (hjk : k + 2 ≤ j := by decide) : GC X (.type "bool") [.ref a] L Q := fun pins s σ H us hH I rr => by
  rw [Vals.ref1 rr]
  obtain ⟨oe, od, J⟩ := ins_inst I hH ma
  refine PySem.W.g_bool_own I.kIn J hs hf (wpAny_call (codeAny_mono (F X.A.in1.in1 X.stack s H [.ref a] [.ref a] _ _ ((hr.mono hjk).in1).in1 I.env0.in1.in1 (.cons rfl .nil) (up_sp hH h)) fun r s' hq => ?_))
  cases r with
  | error e => exact hx pins σ H s e s' I hq
  | ok fl =>
    cases fl with
    | ret w =>
      obtain ⟨z, H', I', rz, L', h', b, ez, q⟩ := I.after hq
      subst ez
      obtain rfl : w = Value.bool b := rz
      exact ⟨b, rfl, .bl b, H', I', rfl, L', h', q⟩
    | next => exact hq.elim
    | brk => exact hq.elim
    | cont => exact hq.elim
/-- a property -/
theorem gat_prop (c : Cls X.K C) (hp : PropOf X.K C n p g) (F : RunG X.prog X.w X.K X.mg X.base CX k g argsP (toSp sp)) (hr : RoomG j X.A) (hx : Passes CX X.nox (upX El)) (ma : (a, HO.ins C dx fs) ∈ L) (h : sp [.ref a] L Q El) (hjk : k + 1 ≤ j := by decide) : GAt X n (.ref a) L Q := fun pins s σ H u ex hH I r => by
  obtain rfl : u = Value.ref a := r
  obtain ⟨mA, O, _⟩ := ins_get I.hok (hH.get ma)
  obtain ⟨od, J, _⟩ := O.look
  obtain ⟨rest, hrec⟩ := hp.rec_
  have I1 := I.tok (s.toks + 1)
  have hc : (PySem.W.clsIn X.K C).isSome = true := by
    obtain ⟨cd, hc, _⟩ := PySem.W.any_some c.hd
    rw [hc]
    rfl
  refine PySem.W.get_bind I.kIn J (PySem.W.plainGet_of (c.get n)).1 (PySem.W.findObj_data hc hp.at_ hp.get hp.tak) (PySem.W.plainGet_of (c.get n)).2 (wpAny_call (PySem.W.prop_get (s := { s with toks := s.toks + 1 }) I.kIn hrec ?_))
  refine codeAny_mono (F X.A.in1 X.stack { s with toks := s.toks + 1 } H [.ref a] [.ref a] _ _ (hr.mono hjk).in1 I1.env0.in1 (.cons rfl .nil) (up_sp hH h)) fun r s' hq => ?_
  cases r with
  | error er => exact False.elim (hx pins σ H { s with toks := s.toks + 1 } er s' (I1.wish _) hq)
  | ok fl =>
    cases fl with
    | ret u =>
      obtain ⟨v, H', I3, rv, q3⟩ := I1.after hq
      show wpAny _ _ (handedOut u) _ _ _
      rw [PySem.W.handedOut_of (handed_of rv)]
      exact wpAny_pure ⟨v, H', I3, rv, q3⟩
    | next => exact False.elim hq
    | brk => exact False.elim hq
    | cont => exact False.elim hq
theorem gc_boolB {b : Bool} (h : Q (.bl b) L) : GC X (.type "bool") [.bl b] L Q := GC.of call_bool1 fun H hH => .inr ⟨b, rfl, L, hH, h⟩
theorem gc_boolI {i : Int} (h : Q (.bl (i != 0)) L) : GC X (.type "bool") [.int i] L Q := GC.of call_bool1 fun H hH => .inl ⟨i, rfl, L, hH, h⟩
end
end G

set_option Elab.async false
set_option linter.all false
set_option maxRecDepth 100000
set_option maxHeartbeats 4000000
/-! A row: a list or a tuple, walked either way. -/
namespace G
open PySem PySem.Spec PyProof.Rows L2
def RowO (o : HO) (xs : List V) : Prop := o = .lst xs ∨ o = .tup xs
section
variable {X : Cx} {η : En} {L : Lg} {e tg : Expr} {elts : List Expr} {kk : Nat} {tpos p pos : Pos} {Q : Src → Lg → Prop} {o : HO} {xs : List V}
theorem gi_rowO (ro : RowO o xs) (h : GE X e η L fun v L1 => ∃ q, v = .ref q ∧ (q, o) ∈ L1 ∧ Q ⟨xs.length, fun M => (q, o) ∈ M, itemAt xs⟩ L1) : GI X tg e η L Q := by
  rcases ro with rfl | rfl
  · exact gi_list (h.imp fun v L1 ⟨q, ev, m, z⟩ => ⟨q, xs, ev, m, z⟩)
  · exact gi_tuple (h.imp fun v L1 ⟨q, ev, m, z⟩ => ⟨q, xs, ev, m, z⟩)
theorem gi_enumO (ro : RowO o xs) (h : GA X [e] η L fun vs L1 => ∃ q, vs = [.ref q] ∧ (q, o) ∈ L1 ∧ Q ⟨xs.length, fun M => (q, o) ∈ M, itemPr (fun i => some (.int (i : Nat))) (fun i => xs[i]?)⟩ L1) (hm : X.mg "enumerate" = none) (hg : Gl X "enumerate" := by rfl)
    (hs' : starEach [e] X.env = [(false, eval e X.env)] := by rfl) : GI X (.Tuple elts kk tpos) (.Call (.Name "enumerate" p) [e] [] pos) η L Q := by
  rcases ro with rfl | rfl
  · exact gi_enum (h.imp fun v L1 ⟨q, ev, m, z⟩ => ⟨q, xs, ev, m, z⟩) hm hg hs'
  · exact gi_enumT (h.imp fun v L1 ⟨q, ev, m, z⟩ => ⟨q, xs, ev, m, z⟩) hm hg hs'
end
end G
namespace G
open PySem PySem.Spec PyProof.Rows L2
section
variable {X : Cx} {L : Lg} {elt : Expr} {ifs : List Expr} {scope : Scope} {f : V → En} {h : V → V → En} {R : V → Lg → Prop} {q : Addr} {o : HO} {xs : List V} {t : V → Bool} {g : V → V}
/-- a pure comprehension over a row -/
theorem pure_rowO (mq : (q, o) ∈ L) (hl : xs.length ≤ 1000000) (ht : ∀ v ∈ xs, TurnP X scope ifs elt L (f v) (t v) (g v)) (r : ∀ D, R (.ref D) ((D, .lst ((xs.filter t).map g)) :: L)) : PureL X scope ifs elt (stOne f) R ⟨xs.length, fun M => (q, o) ∈ M, itemAt xs⟩ L := by
  refine ⟨fun i => t (xs[i]?.getD .non), fun i => g (xs[i]?.getD .non), ⟨hl, fun M h => h _ mq, fun i x E D acc M hi ⟨hx, hE⟩ _ s => ?_⟩, fun D => ?_⟩
  · subst hE
    have e : xs[i]?.getD .non = x := by rw [hx] <;> rfl
    rw [e]
    exact turnP_use (st := stOne f) (ht x (List.mem_of_getElem? hx)) s
  · have z := filter_list (xs := xs) (t := t) (g := g) (p := fun i => t (xs[i]?.getD .non)) (h := fun i => g (xs[i]?.getD .non)) fun i v e => by
      rw [e]
      exact ⟨rfl, rfl⟩
    show R (.ref D) ((D, .lst (((List.range xs.length).filter _).map _)) :: L)
    rw [z]
    exact r D
/-- over enumerate of a row -/
theorem pure_enumO {pt : Nat → V → Bool} {pg : Nat → V → V} (mq : (q, o) ∈ L) (hl : xs.length ≤ 1000000) (ht : ∀ i v, xs[i]? = some v → TurnP X scope ifs elt L (h (.int (i : Nat)) v) (pt i v) (pg i v)) (r : ∀ D, R (.ref D) ((D, .lst (((List.range xs.length).filter fun i => pt i (xs[i]?.getD .non)).map fun i => pg i (xs[i]?.getD .non))) :: L)) :
    PureL X scope ifs elt (stTwo h) R ⟨xs.length, fun M => (q, o) ∈ M, itemPr (fun i => some (.int (i : Nat))) (fun i => xs[i]?)⟩ L := by
  refine ⟨fun i => pt i (xs[i]?.getD .non), fun i => pg i (xs[i]?.getD .non), ⟨hl, fun M h => h _ mq, fun i x E D acc M hi it _ s => ?_⟩, r⟩
  obtain ⟨T, a, b, rfl, rfl, ea, eb⟩ := it
  cases ea
  have eb : xs[i]? = some b := eb
  rw [eb]
  exact ⟨T, _, b, rfl, mem0, turnP_use (st := stTwo h) (ht i b eb) (s.trans Sub.drop)⟩
theorem gc_lenO {Q : QV} (ro : RowO o xs) (m : (q, o) ∈ L) (h : Q (.int (xs.length : Int)) L) : GC X (.builtin "len") [.ref q] L Q := by
  rcases ro with rfl | rfl
  · exact gc_lenL m h
  · exact gc_lenT m h
end
end G

set_option Elab.async false
set_option linter.all false
set_option maxRecDepth 100000
set_option maxHeartbeats 4000000
/-! Comprehensions each of whose turns makes one new object; tuple(..). -/
namespace G
open PySem PySem.Spec PyProof.Rows L2
theorem memR {α : Type} {a : α} {l r : List α} (h : a ∈ r) : a ∈ l ++ r := List.mem_append_right _ h
theorem memL {α : Type} {a : α} {l r : List α} (h : a ∈ l) : a ∈ l ++ r := List.mem_append_left _ h
theorem Swap.right {p : Addr} {o : HO} {L M : Lg} (s : Swap p o L M) : ∀ {E : Lg}, Swap p o (E ++ L) (E ++ M)
  | [] => s
  | _ :: E => .there (Swap.right s (E := E))
theorem subl_app {α : Type} {l e r : List α} (h : List.Sublist l r) : List.Sublist l (e ++ r) := h.trans (List.sublist_append_right e r)
section
variable {a b x : Addr × HO} {R L es : Lg}
theorem rotStep (s : Sub (a :: b :: R) L) : Sub (a :: b :: x :: R) (x :: L) := rot12.trans (Sub.cons s)
theorem rotApp (s : Sub (a :: b :: R) L) : Sub (a :: b :: (es ++ R)) (es ++ L) := (rotL es).trans (Sub.append s)
end
/-- the references of entries -/
abbrev refs (es : Lg) : List V := es.map fun e => V.ref e.1
theorem refs_map {α : Type} {l : List α} {f : α → Addr × HO} : refs (l.map f) = l.map fun a => V.ref (f a).1 := by
  show List.map _ (List.map _ _) = _
  rw [List.map_map]
  rfl
section
variable {X : Cx} {η : En} {L : Lg} {elt iter tg : Expr} {ifs : List Expr} {scope : Scope} {pos p1 p2 p3 : Pos} {x y : Str} {f : V → En} {g : V → V → En} {Q : QV}
/-- a turn: the test, then the element, a new object o -/
abbrev TurnF (X : Cx) (scope : Scope) (ifs : List Expr) (elt : Expr) (R : Lg) (θ : En) (b0 : Bool) (o : HO) : Prop := AllBlk X scope fun B => GTs B ifs θ R fun b M1 => b = b0 ∧ Sub R M1 ∧ (b = true → AllBlk X scope fun B => GE B elt θ M1 fun z M2 => ∃ a, z = .ref a ∧ Sub ((a, o) :: R) M2)
theorem turnF_use {θ : En} {b0 : Bool} {o : HO} {R M : Lg} (h : TurnF X scope ifs elt R θ b0 o) (s : Sub R M) :
    AllBlk X scope fun B => GTs B ifs θ M fun b M1 => b = b0 ∧ Sub R M1 ∧ (b = true → AllBlk X scope fun B => GE B elt θ M1 fun z M2 => ∃ a, z = .ref a ∧ Sub ((a, o) :: R) M2) := fun s1 H1 C1 cl1 fp1 => by
  refine GTs.sub s ?_
  have k := h s1 H1 C1 cl1 fp1
  have key : ∀ b M1, (b = b0 ∧ Sub R M1 ∧ (b = true → AllBlk X scope fun B => GE B elt θ M1 fun z M2 => ∃ a, z = .ref a ∧ Sub ((a, o) :: R) M2)) → ∀ M2, Sub M1 M2 → b = b0 ∧ Sub R M2 ∧ (b = true → AllBlk X scope fun B => GE B elt θ M2 fun z M2 => ∃ a, z = .ref a ∧ Sub ((a, o) :: R) M2) :=
    fun b M1 ⟨e, s1, k⟩ M2 s2 => ⟨e, s1.trans s2, fun hb s3 H3 C3 cl3 fp3 => GE.sub s2 (k hb s3 H3 C3 cl3 fp3)⟩
  match ifs, k with
  | [], k => exact key _ _ k
  | [c], k => exact k.imp key
/-- what such a comprehension is shown of -/
structure FreshC (X : Cx) (scope : Scope) (ifs : List Expr) (elt : Expr) (S : Src) (L : Lg) (st : V → Lg → (En → Lg → Prop) → Prop) (p : Nat → Bool) (pl : Nat → HO) : Prop where
  n : S.n ≤ 1000000
  kp : ∀ M, (∀ e ∈ L, e ∈ M) → S.keep M
  tn : ∀ i x E R M, i < S.n → S.item i x E → ((E ++ M).map (·.1)).Nodup → (∀ e ∈ L, e ∈ R) → Sub R M → st x (E ++ M) fun θ M' => AllBlk X scope fun B => GTs B ifs θ M' fun b M1 => b = p i ∧ Sub R M1 ∧ (b = true → AllBlk X scope fun B => GE B elt θ M1 fun z M2 => ∃ a, z = .ref a ∧ Sub ((a, pl i) :: R) M2)
theorem range_moreO {p : Nat → Bool} {g : Nat → HO} {i : Nat} : ((List.range (i + 1)).filter p).map g = ((List.range i).filter p).map g ++ (if p i = true then [g i] else []) := by
  rw [List.range_succ, List.filter_append, List.map_append]
  congr 1
  by_cases h : p i = true
  · rw [if_pos h, List.filter_cons_of_pos h]
    rfl
  · rw [if_neg h, List.filter_cons_of_neg h]
    rfl
theorem rotE {a b : Addr × HO} {es L : Lg} : Sub (b :: ((es ++ [a]) ++ L)) (b :: a :: (es ++ L)) := Sub.perm (by
  refine .cons b ?_
  rw [List.append_assoc]
  exact List.perm_middle)
theorem rotE2 {a b : Addr × HO} {R : Lg} : Sub (b :: a :: R) (a :: b :: R) := Sub.perm (.swap _ _ _)
theorem FreshC.lc {S : Src} {st : V → Lg → (En → Lg → Prop) → Prop} {p : Nat → Bool} {pl : Nat → HO} (h : FreshC X scope ifs elt S L st p pl) (mono : ∀ v M (k k' : En → Lg → Prop), (∀ θ M', k θ M' → k' θ M') → st v M k → st v M k') (D : Addr)
    (q : ∀ es : Lg, es.map (·.2) = ((List.range S.n).filter p).map pl → Q (.ref D) ((D, .lst (refs es)) :: (es ++ L))) : ∃ Pv, LcS X scope ifs elt S D L st Pv (drp Q) := by
  refine ⟨fun i M => ∃ es : Lg, es.map (·.2) = ((List.range i).filter p).map pl ∧ Sub ((D, .lst (refs es)) :: (es ++ L)) M, ⟨[], rfl, Sub.refl⟩, fun i M _ nd ⟨es, _, s⟩ => h.kp M fun e m => (s.to nd).2 e (List.mem_cons_of_mem _ (memR m)), fun i x E M hi it nd ⟨es, e0, s⟩ => ?_, fun M ⟨es, e0, s⟩ => ⟨_, s, q es e0⟩⟩
  refine mono x (E ++ M) _ _ (fun θ M' k => ?_) (h.tn i x E _ M hi it nd (fun e m => List.mem_cons_of_mem _ (memR m)) s)
  intro s1 H1 C1 cl1 fp1
  have k1 := k s1 H1 C1 cl1 fp1
  have more := range_moreO (p := p) (g := pl) (i := i)
  have key : ∀ b M1, (b = p i ∧ Sub ((D, .lst (refs es)) :: (es ++ L)) M1 ∧ (b = true → AllBlk X scope fun B => GE B elt θ M1 fun z M2 => ∃ a, z = .ref a ∧ Sub ((a, pl i) :: (D, .lst (refs es)) :: (es ++ L)) M2)) →
      if b = true then AllBlk X scope fun B => GE B elt θ M1 fun y M2 => ∃ acc M3, (D, HO.lst acc) ∈ M2 ∧ acc.length < sizeLine ∧ Swap D (.lst (acc ++ [y])) M2 M3 ∧ ∃ es : Lg, es.map (·.2) = ((List.range (i + 1)).filter p).map pl ∧ Sub ((D, .lst (refs es)) :: (es ++ L)) M3
      else ∃ es : Lg, es.map (·.2) = ((List.range (i + 1)).filter p).map pl ∧ Sub ((D, .lst (refs es)) :: (es ++ L)) M1 := fun b M1 ⟨eb, sb, hb⟩ => by
    cases b with
    | true =>
      rw [if_pos rfl]
      intro s2 H2 C2 cl2 fp2
      refine GE.nd ((hb rfl s2 H2 C2 cl2 fp2).imp fun y M2 ⟨a, ey, s3⟩ nd => ?_)
      have s4 : Sub ((D, .lst (refs es)) :: (a, pl i) :: (es ++ L)) M2 := rotE2.trans s3
      have m2 := (s4.to nd).2 _ List.mem_cons_self
      obtain ⟨M3, sw⟩ := Swap.ex (o := .lst (refs es ++ [y])) (u := .lst (refs es)) rfl m2
      have len : es.length ≤ i := by
        have e1 := congrArg List.length e0
        rw [List.length_map, List.length_map] at e1
        have := List.length_filter_le p (List.range i)
        rw [List.length_range] at this
        omega
      refine ⟨_, M3, m2, ?_, sw, es ++ [(a, pl i)], ?_, ?_⟩
      · rw [List.length_map, sizeLine_eq]
        have := h.n
        omega
      · rw [more, if_pos eb.symm, List.map_append, e0]
        rfl
      · subst ey
        have z : Sub ((D, .lst (refs es ++ [V.ref a])) :: (a, pl i) :: (es ++ L)) M3 := s4.swap sw
        have e2 : refs (es ++ [(a, pl i)]) = refs es ++ [V.ref a] := by
          show List.map _ _ = _
          rw [List.map_append]
          rfl
        rw [e2]
        exact rotE.trans z
    | false =>
      rw [if_neg Bool.false_ne_true]
      refine ⟨es, ?_, sb⟩
      rw [more, if_neg (by rw [← eb]; exact Bool.false_ne_true), List.append_nil]
      exact e0
  match ifs, k1 with
  | [], k1 => exact key _ _ k1
  | [c], k1 => exact k1.imp fun b M1 z => key b M1 z
def FreshL (X : Cx) (scope : Scope) (ifs : List Expr) (elt : Expr) (st : V → Lg → (En → Lg → Prop) → Prop) (R : V → Lg → Prop) (S : Src) (L1 : Lg) : Prop := ∃ p pl, FreshC X scope ifs elt S L1 st p pl ∧ ∀ D es, es.map (·.2) = ((List.range S.n).filter p).map pl → R (.ref D) ((D, .lst (refs es)) :: (es ++ L1))
/-- [elt for x in iter if ..], each turn makes one new object -/
theorem ge_lcF (P : PutF x η f) (h : GI X (.Name x p1) iter η L (FreshL X scope ifs elt (stOne f) Q)) (hb : blkC X.N X.env.scope scope [(x, X.N.idxOf x)] = true) (hlx : LocB X scope x := by exact fun _ _ _ _ _ => ⟨.inl rfl, .inr rfl⟩)
    (hN : X.N.Nodup := by assumption) (hc : X.calm = true := by rfl) (hs : ∀ z, foldedSetIterable iter X.env z = pure z := by intro _; rfl) : GE X (.ListComp elt [⟨.Name x p1, iter, ifs, 0⟩] scope pos) η L Q :=
  GE.undrp (ge_lc1 P (h.imp fun S L1 ⟨p, g, pc, q⟩ D => pc.lc monoOne D (q D)) hb hlx hN hc hs)
theorem ge_lcF2 {kt : Nat} {pt : Pos} (P : PutF x η f) (R : ∀ v, PutF y (f v) (g v)) (h : GI X (.Tuple [.Name x p1, .Name y p2] kt pt) iter η L (FreshL X scope ifs elt (stTwo g) Q)) (hxy : x ≠ y) (hb : blkC X.N X.env.scope scope [(x, X.N.idxOf x), (y, X.N.idxOf y)] = true) (hlx : LocB X scope x := by exact fun _ _ _ _ _ => ⟨.inl rfl, .inr rfl⟩) (hly : LocB X scope y := by exact fun _ _ _ _ _ => ⟨.inl rfl, .inr rfl⟩)
    (hN : X.N.Nodup := by assumption) (hc : X.calm = true := by rfl) (hs : ∀ z, foldedSetIterable iter X.env z = pure z := by intro _; rfl) : GE X (.ListComp elt [⟨.Tuple [.Name x p1, .Name y p2] kt pt, iter, ifs, 0⟩] scope pos) η L Q :=
  GE.undrp (ge_lc2 P R (h.imp fun S L1 ⟨p, g, pc, q⟩ D => pc.lc monoTwo D (q D)) hxy hb hlx hly hN hc hs)
theorem gs_lcF {D : GD} {fy : V → En} {py : Pos} (Py : PutF y η fy) (P : PutF x η f) (h : GI X (.Name x p1) iter η L (FreshL X scope ifs elt (stOne f) fun v M => D.nx (fy v) M)) (hb : blkC X.N X.env.scope scope [(x, X.N.idxOf x)] = true) (hlx : LocB X scope x := by exact fun _ _ _ _ _ => ⟨.inl rfl, .inr rfl⟩)
    (hyl : X.env.scope.names.lookup y = some .local := by rfl) (hsw : swapsWith (.ListComp elt [⟨.Name x p1, iter, ifs, 0⟩] scope pos) (some (.Name y py)) p3.line X.env = pure true := by rfl)
    (hN : X.N.Nodup := by assumption) (hc : X.calm = true := by rfl) (hs : ∀ z, foldedSetIterable iter X.env z = pure z := by intro _; rfl) : GS X (.Assign [.Name y py] (.ListComp elt [⟨.Name x p1, iter, ifs, 0⟩] scope pos) p3) D η L :=
  GS.undrp (gs_lc1 Py P (h.imp fun S L1 ⟨p, g, pc, q⟩ d => pc.lc (Q := fun v M => D.nx (fy v) M) monoOne d (q d)) hb hlx hyl hsw hN hc hs)
theorem gs_lcF2 {D : GD} {fy : V → En} {z : Str} {pz : Pos} {kt : Nat} {pt : Pos} (Pz : PutF z η fy) (P : PutF x η f) (R : ∀ v, PutF y (f v) (g v)) (h : GI X (.Tuple [.Name x p1, .Name y p2] kt pt) iter η L (FreshL X scope ifs elt (stTwo g) fun v M => D.nx (fy v) M)) (hxy : x ≠ y) (hb : blkC X.N X.env.scope scope [(x, X.N.idxOf x), (y, X.N.idxOf y)] = true) (hlx : LocB X scope x := by exact fun _ _ _ _ _ => ⟨.inl rfl, .inr rfl⟩) (hly : LocB X scope y := by exact fun _ _ _ _ _ => ⟨.inl rfl, .inr rfl⟩)
    (hzl : X.env.scope.names.lookup z = some .local := by rfl) (hsw : swapsWith (.ListComp elt [⟨.Tuple [.Name x p1, .Name y p2] kt pt, iter, ifs, 0⟩] scope pos) (some (.Name z pz)) p3.line X.env = pure true := by rfl)
    (hN : X.N.Nodup := by assumption) (hc : X.calm = true := by rfl) (hs : ∀ z, foldedSetIterable iter X.env z = pure z := by intro _; rfl) : GS X (.Assign [.Name z pz] (.ListComp elt [⟨.Tuple [.Name x p1, .Name y p2] kt pt, iter, ifs, 0⟩] scope pos) p3) D η L :=
  GS.undrp (gs_lc2 Pz P R (h.imp fun S L1 ⟨p, g, pc, q⟩ d => pc.lc (Q := fun v M => D.nx (fy v) M) monoTwo d (q d)) hxy hb hlx hly hzl hsw hN hc hs)
variable {R : V → Lg → Prop} {q : Addr} {o : HO} {xs : List V} {p : Nat → Bool} {pl : Nat → HO}
/-- over a row -/
theorem fresh_rowO (mq : (q, o) ∈ L) (hl : xs.length ≤ 1000000) (ht : ∀ i v R, xs[i]? = some v → (∀ e ∈ L, e ∈ R) → TurnF X scope ifs elt R (f v) (p i) (pl i)) (r : ∀ D es, es.map (·.2) = ((List.range xs.length).filter p).map pl → R (.ref D) ((D, .lst (refs es)) :: (es ++ L))) : FreshL X scope ifs elt (stOne f) R ⟨xs.length, fun M => (q, o) ∈ M, itemAt xs⟩ L := by
  refine ⟨p, pl, ⟨hl, fun M h => h _ mq, fun i x E R M hi ⟨hx, hE⟩ _ hR s => ?_⟩, r⟩
  subst hE
  exact turnF_use (ht i x R hx hR) s
theorem fresh_list (mq : (q, HO.lst xs) ∈ L) (hl : xs.length ≤ 1000000) (ht : ∀ i v R, xs[i]? = some v → (∀ e ∈ L, e ∈ R) → TurnF X scope ifs elt R (f v) (p i) (pl i)) (r : ∀ D es, es.map (·.2) = ((List.range xs.length).filter p).map pl → R (.ref D) ((D, .lst (refs es)) :: (es ++ L))) : FreshL X scope ifs elt (stOne f) R ⟨xs.length, KeepL q xs, itemAt xs⟩ L := fresh_rowO mq hl ht r
/-- over a range -/
theorem fresh_fn {n : Nat} {h : Nat → V} (hl : n ≤ 1000000) (ht : ∀ i R, i < n → (∀ e ∈ L, e ∈ R) → TurnF X scope ifs elt R (f (h i)) (p i) (pl i)) (r : ∀ D es, es.map (·.2) = ((List.range n).filter p).map pl → R (.ref D) ((D, .lst (refs es)) :: (es ++ L))) : FreshL X scope ifs elt (stOne f) R ⟨n, fun _ => True, itemFn h⟩ L := by
  refine ⟨p, pl, ⟨hl, fun M h => True.intro, fun i x E R M hi ⟨hx, hE⟩ _ hR s => ?_⟩, r⟩
  subst hE hx
  exact turnF_use (ht i R hi hR) s
/-- pairs of a row that stand in the ledger -/
theorem fresh_row2 (mq : (q, o) ∈ L) (hl : xs.length ≤ 1000000) (ht : ∀ i v, xs[i]? = some v → ∃ t a b, v = .ref t ∧ (t, HO.tup [a, b]) ∈ L ∧ ∀ R, (∀ e ∈ L, e ∈ R) → TurnF X scope ifs elt R (g a b) (p i) (pl i)) (r : ∀ D es, es.map (·.2) = ((List.range xs.length).filter p).map pl → R (.ref D) ((D, .lst (refs es)) :: (es ++ L))) : FreshL X scope ifs elt (stTwo g) R ⟨xs.length, fun M => (q, o) ∈ M, itemAt xs⟩ L := by
  refine ⟨p, pl, ⟨hl, fun M h => h _ mq, fun i x E R M hi ⟨hx, hE⟩ nd hR s => ?_⟩, r⟩
  subst hE
  obtain ⟨t, a, b, ev, m, k⟩ := ht i x hx
  exact ⟨t, a, b, ev, (s.to nd).2 _ (hR _ m), turnF_use (k R hR) s⟩
theorem fresh_list2 (mq : (q, HO.lst xs) ∈ L) (hl : xs.length ≤ 1000000) (ht : ∀ i v, xs[i]? = some v → ∃ t a b, v = .ref t ∧ (t, HO.tup [a, b]) ∈ L ∧ ∀ R, (∀ e ∈ L, e ∈ R) → TurnF X scope ifs elt R (g a b) (p i) (pl i)) (r : ∀ D es, es.map (·.2) = ((List.range xs.length).filter p).map pl → R (.ref D) ((D, .lst (refs es)) :: (es ++ L))) : FreshL X scope ifs elt (stTwo g) R ⟨xs.length, KeepL q xs, itemAt xs⟩ L := fresh_row2 mq hl ht r
/-- enumerate of a row -/
theorem fresh_enum (mq : (q, o) ∈ L) (hl : xs.length ≤ 1000000) (ht : ∀ i v R, xs[i]? = some v → (∀ e ∈ L, e ∈ R) → TurnF X scope ifs elt R (g (.int (i : Nat)) v) (p i) (pl i)) (r : ∀ D es, es.map (·.2) = ((List.range xs.length).filter p).map pl → R (.ref D) ((D, .lst (refs es)) :: (es ++ L))) :
    FreshL X scope ifs elt (stTwo g) R ⟨xs.length, fun M => (q, o) ∈ M, itemPr (fun i => some (.int (i : Nat))) (fun i => xs[i]?)⟩ L := by
  refine ⟨p, pl, ⟨hl, fun M h => h _ mq, fun i x E R M hi it nd hR s => ?_⟩, r⟩
  obtain ⟨T, a, b, rfl, rfl, ea, eb⟩ := it
  cases ea
  exact ⟨T, _, b, rfl, mem0, turnF_use (ht i b R eb hR) (s.trans Sub.drop)⟩
/-- a pure comprehension over pairs that stand in the ledger -/
theorem pure_row2 {pg : Nat → V} {pt : Nat → Bool} (mq : (q, o) ∈ L) (hl : xs.length ≤ 1000000) (ht : ∀ i v, xs[i]? = some v → ∃ t a b, v = .ref t ∧ (t, HO.tup [a, b]) ∈ L ∧ TurnP X scope ifs elt L (g a b) (pt i) (pg i)) (r : ∀ D, R (.ref D) ((D, .lst (((List.range xs.length).filter pt).map pg)) :: L)) : PureL X scope ifs elt (stTwo g) R ⟨xs.length, fun M => (q, o) ∈ M, itemAt xs⟩ L := by
  refine ⟨pt, pg, ⟨hl, fun M h => h _ mq, fun i x E D acc M hi ⟨hx, hE⟩ nd s => ?_⟩, r⟩
  subst hE
  obtain ⟨t, a, b, ev, m, k⟩ := ht i x hx
  exact ⟨t, a, b, ev, (s.to nd).2 _ (memS m), turnP_use (st := stTwo g) k s⟩
theorem pure_list2 {pg : Nat → V} {pt : Nat → Bool} (mq : (q, HO.lst xs) ∈ L) (hl : xs.length ≤ 1000000) (ht : ∀ i v, xs[i]? = some v → ∃ t a b, v = .ref t ∧ (t, HO.tup [a, b]) ∈ L ∧ TurnP X scope ifs elt L (g a b) (pt i) (pg i)) (r : ∀ D, R (.ref D) ((D, .lst (((List.range xs.length).filter pt).map pg)) :: L)) : PureL X scope ifs elt (stTwo g) R ⟨xs.length, KeepL q xs, itemAt xs⟩ L := pure_row2 mq hl ht r
end
theorem range_get {α β : Type} {l : List α} {f : Nat → β} {g : α → β} (h : ∀ i a, l[i]? = some a → f i = g a) : ((List.range l.length).filter fun _ => true).map f = l.map g := by
  rw [List.filter_eq_self.mpr fun _ _ => rfl]
  refine List.ext_getElem? fun i => ?_
  rw [List.getElem?_map, List.getElem?_map]
  by_cases z : i < l.length
  · rw [List.getElem?_range z, List.getElem?_eq_getElem z]
    exact congrArg some (h i _ (List.getElem?_eq_getElem z))
  · rw [List.getElem?_eq_none (by rw [List.length_range]; omega), List.getElem?_eq_none (by omega)]
    rfl
theorem at_ints {l : List Int} {i : Nat} (h : i < l.length) : atI (l.map V.int) (i : Int) = some (.int (l.getD i 0)) := atI_nat (by rw [List.getElem?_map, List.getD_eq_getElem?_getD, List.getElem?_eq_getElem h] <;> rfl)
/-- the new objects, one by one -/
theorem es_rows {α : Type} {T : α → HO} : ∀ {es : Lg} {ds : List α}, es.map (·.2) = ds.map T → ∃ as : List Addr, as.length = ds.length ∧ es = List.zipWith (fun a d => (a, T d)) as ds
  | [], [], _ => ⟨[], rfl, rfl⟩
  | [], _ :: _, h => by cases h
  | _ :: _, [], h => by cases h
  | e :: es, d :: ds, h => by
    rw [List.map_cons, List.map_cons] at h
    injection h with h1 h2
    obtain ⟨as, l, e2⟩ := es_rows h2
    refine ⟨e.1 :: as, by rw [List.length_cons, List.length_cons, l], ?_⟩
    rw [List.zipWith_cons_cons, ← e2, ← h1]
theorem es_pairs : ∀ {es : Lg} {ds : List (Int × Int)}, es.map (·.2) = ds.map (fun d => HO.tup [.int d.1, .int d.2]) → ∃ ps : List Pr2, ps.map (fun e => (e.1, HO.tup [.int e.2.1, .int e.2.2])) = es ∧ ps.map (·.2) = ds
  | [], [], _ => ⟨[], rfl, rfl⟩
  | [], _ :: _, h => by cases h
  | _ :: _, [], h => by cases h
  | e :: es, d :: ds, h => by
    rw [List.map_cons, List.map_cons] at h
    injection h with h1 h2
    obtain ⟨ps, l, e2⟩ := es_pairs h2
    refine ⟨(e.1, d) :: ps, ?_, by rw [List.map_cons, e2]⟩
    rw [List.map_cons, l, ← h1]
section
variable {X : Cx} {η : En} {L : Lg} {a b c : Expr} {op op' : CmpOp} {pos : Pos} {Q : Bool → Lg → Prop}
/-- a < b < c as a test -/
theorem gt_chain (h : GE X a η L fun x L1 => GE X b η L1 fun y L2 => GOp X (compareOp op) x y L2 fun z L3 => ∃ k, z = .bl k ∧ if k = true then GE X c η L3 fun w L4 => GOp X (compareOp op') y w L4 fun z L5 => ∃ k, z = .bl k ∧ Q k L5 else Q false L3)
    (hm : lastMarks [op, op'] [b, c] = false := by with_unfolding_all rfl) : GT X (.Compare a [op, op'] [b, c] pos) η L Q := fun hN H hH =>
  WT.of (pt_chain (r := fun x y H' Q' => ∀ pins s σ v u, Inv X pins σ H' s → RelV x v → RelV y u → wpAny (model X.prog X.w) X.A (compareOp op v u) (EP X pins σ Q') X.xe s)
    (r' := fun x y H' Q' => ∀ pins s σ v u, Inv X pins σ H' s → RelV x v → RelV y u → wpAny (model X.prog X.w) X.A (compareOp op' v u) (EP X pins σ Q') X.xe s)
    (fun pins s σ H' x y v u Q' I r1 r2 q => q pins s σ v u I r1 r2) (fun pins s σ H' x y v u Q' I r1 r2 q => q pins s σ v u I r1 r2) pe_W pe_W pe_W hm)
    (h.then hN hH fun x _ _ h1 q1 => q1.then hN h1 fun y _ _ h2 q2 => fun pins s σ v u I r1 r2 => by
      refine wpAny_mono (q2 pins s σ _ v u h2 I r1 r2) (fun z s' zz => ?_) fun _ _ z => z
      obtain ⟨zv, H3, I3, r3, L3, h3, k, ek, q3⟩ := zz
      refine ⟨zv, H3, I3, r3, k, ek, ?_⟩
      cases k with
      | true =>
        rw [if_pos rfl] at q3
        rw [if_pos rfl]
        exact q3.then hN h3 fun w L4 H4 h4 q4 => fun pins s σ v u I r1 r2 => thn (q4 pins s σ _ v u h4 I r1 r2) fun _ _ ⟨z, H5, J, r5, L5, h5, k5, ek5, q5⟩ => ⟨z, H5, J, r5, k5, ek5, L5, h5, q5⟩
      | false =>
        rw [if_neg Bool.false_ne_true] at q3
        rw [if_neg Bool.false_ne_true]
        exact ⟨false, rfl, L3, h3, q3⟩)
end
section
variable {X : Cx} {L : Lg} {elt : Expr} {scope : Scope} {f : V → En} {h : Nat → V} {N : Nat} {Q : QV} {p c D : Addr} {ns : List Int} {n m k : Int} {R : Lg}
/-- the same; each turn sees what stood there: each turn draws at most k times and gives an int of which P holds -/
theorem lc_drawsM (P : Int → Prop) (hN : N ≤ 100000) (hL : Sub ((p, penO c n m) :: (c, celO ns) :: R) L) (n0 : 0 ≤ n) (m0 : 0 ≤ m) (k0 : 0 ≤ k) (nk : n + k * N ≤ 100000 - k)
    (turn : ∀ i, i < N → ∀ n m R', (∀ e ∈ R, e ∈ R') → 0 ≤ n → n + k ≤ 100000 → 0 ≤ m → AllBlk X scope fun B => GE B elt (f (h i)) ((p, penO c n m) :: (c, celO ns) :: R') fun v M' => ∃ j n' m', v = .int j ∧ P j ∧ 0 ≤ n' ∧ n' ≤ n + k ∧ 0 ≤ m' ∧ Sub ((p, penO c n' m') :: (c, celO ns) :: R') M')
    (q : ∀ (D : Addr) (js : List Int) (n' m' : Int), js.length = N → (∀ j ∈ js, P j) → 0 ≤ n' → n' ≤ n + k * N → 0 ≤ m' → Q (.ref D) ((D, .lst (js.map V.int)) :: (p, penO c n' m') :: (c, celO ns) :: R)) :
    ∃ Pv, LcS X scope [] elt ⟨N, fun _ => True, itemFn h⟩ D L (fun v M k => k (f v) M) Pv (drp Q) := by
  refine ⟨fun i M => ∃ js n' m', Sub ((p, penO c n' m') :: (c, celO ns) :: (D, .lst (js.map V.int)) :: R) M ∧ js.length = i ∧ (∀ j ∈ js, P j) ∧ 0 ≤ n' ∧ n' ≤ n + k * i ∧ 0 ≤ m', ⟨[], n, m, ?_, rfl, fun _ z => absurd z (List.not_mem_nil), n0, by omega, m0⟩, fun _ _ _ _ _ => True.intro, ?_, ?_⟩
  · exact rot3'.trans (Sub.cons hL)
  · rintro i x E M hi ⟨rfl, rfl⟩ _ ⟨js, n1, m1, sb, hl, hP, a0, a1, a2⟩
    dsimp only at hi
    intro s1 H1 C1 cl1 fp1
    refine gts_nil ?_
    dsimp only
    refine ite_t ?_
    intro s2 H2 C2 cl2 fp2
    have ki : k * ((i : Nat) : Int) + k ≤ k * (N : Int) := by
      have := Int.mul_le_mul_of_nonneg_left (show ((i : Nat) : Int) + 1 ≤ (N : Int) by omega) k0
      rw [Int.mul_add, Int.mul_one] at this
      exact this
    refine GE.sub sb (GE.nd ((turn i hi n1 m1 _ (fun e h => List.mem_cons_of_mem _ h) a0 (by omega) a2 s2 H2 C2 cl2 fp2).imp fun v M' ⟨j, n', m', ev, pj, b0, b1, b2, s3⟩ nd => ?_))
    subst ev
    have s4 : Sub ((D, .lst (js.map V.int)) :: (p, penO c n' m') :: (c, celO ns) :: R) M' := rot3.trans s3
    have m2 := (s4.to nd).2 _ List.mem_cons_self
    obtain ⟨M3, sw⟩ := Swap.ex (o := .lst (js.map V.int ++ [V.int j])) (u := .lst (js.map V.int)) rfl m2
    refine ⟨_, M3, m2, ?_, sw, js ++ [j], n', m', ?_, by rw [List.length_append, hl]; rfl, fun y hy => ?_, b0, ?_, b2⟩
    · rw [List.length_map, hl, sizeLine_eq]
      omega
    · have z := rot3'.trans (s4.swap sw)
      rw [List.map_append]
      exact z
    · rcases List.mem_append.mp hy with hy | hy
      · exact hP y hy
      · rw [List.mem_singleton.mp hy]
        exact pj
    · rw [Int.natCast_add, Int.mul_add]
      show n' ≤ n + (k * (i : Int) + k * 1)
      omega
  · rintro M ⟨js, n', m', sb, hl, hP, a0, a1, a2⟩
    exact ⟨_, rot3.trans sb, q D js n' m' hl hP a0 a1 a2⟩
end
theorem sh_tuple {n k m : Nat} {xs : List PyData} (h : ∀ x ∈ xs, Sh x n k) (hm : xs.length ≤ m) : Sh (.tuple xs) (n * m + 2 * m + 3) (k + 1) := by
  have a := lenAll_of h
  have b := tupleText_len_le (PyData.shownAll xs)
  have c : n * xs.length ≤ n * m := Nat.mul_le_mul_left _ hm
  refine ⟨by rw [PyData.showable]; exact showAll_of h, by rw [PyData.depth]; exact Nat.succ_le_succ (depthAll_of h), by rw [PyData.shown]; omega⟩
theorem gat_fldA {X : Cx} {L : Lg} {Q : QV} {a C dx : Addr} {fs : List (Str × V)} {n : Str} {v : V} (mm : (a, HO.ins C dx fs) ∈ L) (c : L2.Cls X.K C) (no : NoAttr X.K C n) (l : fs.lookup n = some v) (q : Q v L) : GAt X n (.ref a) L Q := gat_fld c no mm l q
section
variable {X : Cx} {L : Lg} {Q : QV} {p : Addr} {xs : List V}
theorem gc_tupL (m : (p, HO.lst xs) ∈ L) (h : ∀ q, Q (.ref q) ((q, .tup xs) :: L)) : GC X (.type "tuple") [.ref p] L Q := GC.of call_tuple_of fun H hH => ⟨p, xs, rfl, .inl ⟨sql hH m, fun l hl => ⟨_, hH.new hl, h l⟩⟩⟩
theorem gc_tupT (m : (p, HO.tup xs) ∈ L) (h : Q (.ref p) L) : GC X (.type "tuple") [.ref p] L Q := GC.of call_tuple_of fun H hH => ⟨p, xs, rfl, .inr ⟨sqt hH m, L, hH, h⟩⟩
end
end G

set_option Elab.async false
set_option linter.all false
set_option maxRecDepth 100000
set_option maxHeartbeats 4000000
/-! super() behind other rows, and such as raises; constants of classes by their names; own == against other kinds; str by own __str__; f-strings; count. -/
namespace G
open PySem PySem.Spec PyProof.Rows L2 NdefX ClX
/-! ### rows of a method that says super() -/
def GAs (X : Cx) (B sts : List Stmt) (D : GD) (η : En) (L : Lg) : Prop := X.N = names η → ∀ H, Has H L → AtSs X B sts (D.ends X) (vals η) H
section
variable {X : Cx} {B rest sts : List Stmt} {D : GD} {η : En} {L : Lg} {st : Stmt}
theorem gas_any (h : GSs X sts D η L) : GAs X B sts D η L := fun hN H hH => AtSs.any (h hN H hH)
theorem gas_stm (h : GS X st { D with nx := fun θ L1 => GAs X B rest D θ L1 } η L) : GAs X B (st :: rest) D η L := fun hN H hH pins s I => by
  refine _root_.PySem.ks_wpAt_execs_cons (_root_.PySem.wpAt_of_wpAny (wpAny_mono (h hN H hH pins s I) (fun fl s' z => ?_) fun _ _ z => z))
  cases fl with
  | next =>
    obtain ⟨σ1, H1, J, θ, L1, n1, es, h1, q1⟩ := z
    rw [es] at J
    exact q1 n1 H1 h1 pins s' J
  | brk => exact z
  | cont => exact z
  | ret u => exact z
end
section
variable {X : Cx} {CX : CXT} {B rest : List Stmt} {D : GD} {W : XW} {η : En} {L : Lg} {x q n : Str} {st : Stmt} {f c cc D0 C a dx g : Addr} {fd : FuncData} {ar : Arg} {fs : List (Str × V)} {sp : SpL} {El : XL} {j k : Nat} {e : Expr} {es : List Expr} {p0 p1 p2 p3 p4 : Pos} {pl : Sem Bool}
theorem gas_sup (F : SupF X.prog X.K x q st f c cc D0 fd) (T : SupM X.K X.mg C D0 n g) (hfu : X.env.func = some f) (hco : X.env.code = .ref c) (hcl : X.env.cells.lookup ("__class__" : Str) = some cc) (hp : (fd.params.posonlyargs ++ fd.params.args).head? = some ar)
    (hks : X.env.kindOf "super" = some .globalImplicit) (hkc : X.env.kindOf "__class__" = some .free) (hka : X.env.kindOf ar.arg = some .local)
    (R : RunG X.prog X.w X.K X.mg X.base CX k g argsP (toSp sp)) (hr : RoomG j X.A) (hx : Passes CX X (upX El)) (hat : At ar.arg (.ref a) η) (mm : (a, HO.ins C dx fs) ∈ L)
    (h : ∀ u, GA X (e :: es) η ((u, .met g a) :: L) fun vs L1 => (u, HO.met g a) ∈ L1 ∧ sp (.ref a :: vs) L1 (fun _ L2 => GSs X rest D η L2) El) (hjk : k ≤ j := by decide)
    (hn : (n == ("__class__" : Str)) = false := by decide) (he : starEach (e :: es) X.env = (false, eval e X.env) :: starEach es X.env := by rfl) (hpl : (backTo p3 (starEach es X.env)).any (·.1) = false := by rfl) (hint : interactive X.env = false := by rfl)
    (hsw : swapsWith (.Call (.Attribute (.Call (.Name "super" p0) [] [] p1) n p2) (e :: es) [] p3) none p4.line X.env = pure false := by rfl)
    (hev : eval (.Call (.Attribute (.Call (.Name "super" p0) [] [] p1) n p2) (e :: es) [] p3) X.env = (do
      let ov ← attributeBase (.Call (.Name "super" p0) [] [] p1) n X.env (eval (.Call (.Name "super" p0) [] [] p1) X.env)
      standAt p2.atName
      let (ff, first) ← holding [ov] (getMethod ov n pl)
      callWith p3 ff first (backTo p3 (starEach (e :: es) X.env)) []) := by rfl) :
    GAs X B (.Expr (.Call (.Attribute (.Call (.Name "super" p0) [] [] p1) n p2) (e :: es) [] p3) p4 :: rest) D η L := fun hN H hH =>
  at_supi F T hfu hco hcl hp hks hkc hka R hr hx hN hH hat mm h hjk hn he hpl hint hsw hev
/-- the same where the def above may raise -/
theorem gas_supX (F : SupF X.prog X.K x q st f c cc D0 fd) (T : SupM X.K X.mg C D0 n g) (hfu : X.env.func = some f) (hco : X.env.code = .ref c) (hcl : X.env.cells.lookup ("__class__" : Str) = some cc) (hp : (fd.params.posonlyargs ++ fd.params.args).head? = some ar)
    (hks : X.env.kindOf "super" = some .globalImplicit) (hkc : X.env.kindOf "__class__" = some .free) (hka : X.env.kindOf ar.arg = some .local)
    (R : RunG X.prog X.w X.K X.mg X.base (L2.CX X.prog X.w) k g argsP (toSp sp)) (hr : RoomG j X.A) (tk : Tk X W) (hat : At ar.arg (.ref a) η) (mm : (a, HO.ins C dx fs) ∈ L)
    (h : ∀ u, GA X (e :: es) η ((u, .met g a) :: L) fun vs L1 => (u, HO.met g a) ∈ L1 ∧ sp (.ref a :: vs) L1 (fun _ L2 => GSs X rest D η L2) fun c d L' => W c d η L') (hjk : k ≤ j := by decide)
    (hn : (n == ("__class__" : Str)) = false := by decide) (he : starEach (e :: es) X.env = (false, eval e X.env) :: starEach es X.env := by rfl) (hpl : (backTo p3 (starEach es X.env)).any (·.1) = false := by rfl) (hint : interactive X.env = false := by rfl)
    (hsw : swapsWith (.Call (.Attribute (.Call (.Name "super" p0) [] [] p1) n p2) (e :: es) [] p3) none p4.line X.env = pure false := by rfl)
    (hev : eval (.Call (.Attribute (.Call (.Name "super" p0) [] [] p1) n p2) (e :: es) [] p3) X.env = (do
      let ov ← attributeBase (.Call (.Name "super" p0) [] [] p1) n X.env (eval (.Call (.Name "super" p0) [] [] p1) X.env)
      standAt p2.atName
      let (ff, first) ← holding [ov] (getMethod ov n pl)
      callWith p3 ff first (backTo p3 (starEach (e :: es) X.env)) []) := by rfl) :
    GAs X B (.Expr (.Call (.Attribute (.Call (.Name "super" p0) [] [] p1) n p2) (e :: es) [] p3) p4 :: rest) D η L := fun hN H hH pins s I => by
  obtain ⟨oc, od, kV, doc, pm, ct, an, osl, efd, lk⟩ := F.ex
  obtain ⟨ccl, cdd, vs, ccs, fl, tf, lc, hvs, hfile⟩ := F.file
  obtain ⟨cl, cld, csl, hcell⟩ := F.cell
  obtain ⟨cdD, hD⟩ := F.cls
  obtain ⟨mb, hb1, hb2⟩ := I.mod.blt
  obtain ⟨oD, hD1, hD2⟩ : ∃ oD, s.heap.get? D0 = some oD ∧ oD.data = .cls cdD := by
    unfold PySem.W.clsIn at hD
    split at hD
    · rename_i c' d' cd' sl' ho
      cases hD
      exact ⟨_, I.kIn _ _ ho, rfl⟩
    · cases hD
  obtain ⟨cdC, hcC⟩ := T.cls
  obtain ⟨i, hi, hs⟩ := hat.idx
  obtain ⟨mA, O, _, _, _, _⟩ := ins_get I.hok (hH.get mm)
  obtain ⟨oda, IA, _⟩ := O.look
  have xC : a ≠ C := PySem.W.ks_ne I.kIn IA hcC
  refine _root_.PySem.ks_wpAt_execs_cons (_root_.PySem.ks_wpAt_Expr_any (_root_.PySem.ks_wpAt_MethodCall (pl := pl) (_root_.PySem.ks_wpAt_super_base hks hkc hn hfu (I.kIn _ _ lk) rfl hp hco (I.kIn _ _ lc) rfl hvs hfile F.top ?_) hev) hint hsw)
  refine PySem.W.ks_loadName_global I.ok.kind hks (Calls.loadGlobal_builtin (by rw [I.ok.glob]; exact I.mod.glob.keeps I.bk) T.su (by rw [I.ok.blt]; exact hb1.keeps I.bk) ((hb2 _ (by decide)).trans (by decide +kernel)) ⟨rfl, ?_⟩)
  refine wpAny_loadName_free I.ok.kind hkc hcl ⟨_, I.kIn _ _ hcell, rfl⟩ ?_
  obtain ⟨m, hns, hl⟩ := id I.loc
  obtain ⟨u, r, qq⟩ := hl i _ _ (by rw [hN]; exact hi) hs (.inl hka)
  obtain rfl : u = Value.ref a := r
  rcases qq with ⟨_, em⟩ | ⟨kk, _⟩
  · refine wpAny_loadName_local I.ok.kind hka hns em ?_
    obtain ⟨hp', g', d, t, os⟩ := s
    refine _root_.PySem.ks_wpAny_isType_cls hD1 hD2 ⟨rfl, ?_⟩
    refine _root_.PySem.ks_wpAny_call_super hD1 hD2 IA.at_ IA.cls (fun c e => ?_) (PySem.W.looks_mroIn I.kIn T.sub) (fun h' eS kS => ?_)
    · have := IA.no
      unfold PySem.W.notCls at this
      rw [e] at this
      exact Bool.noConfusion this
    have J1 : Inv X pins (vals η) H ⟨h', g', d, t, os⟩ := I.kept (t' := t) kS
    have sm' := T.sm
    unfold PySem.W.ks_superIn at sm'
    rw [hcC] at sm'
    obtain ⟨of, hof, hofc⟩ : ∃ of, h'.get? g = some of ∧ of.cls = .type "function" := by
      have ht' : (X.K.lookup g).map (·.cls) = some (.type "function") := T.tg
      cases z : X.K.lookup g with
      | none => rw [z] at ht'; cases ht'
      | some of => rw [z] at ht'; exact ⟨of, J1.kIn _ _ z, Option.some.inj ht'⟩
    refine _root_.PySem.ks_wpAny_getMethod_super eS (PySem.W.looks_opaque J1.kIn T.op) ((PySem.W.looks_clsIn J1.kIn hcC).andThen .now) rfl J1.kIn sm' hof hofc xC hn ?_
    have nu : H h'.objs.size = none := J1.hok.fresh (Nat.le_refl _)
    have J2 : Inv X pins (vals η) (upd H h'.objs.size (.met g a)) ⟨h'.push { cls := .type "method", data := .fields #[.ref g, .ref a] }, g', d, t + 1, os⟩ :=
      J1.laid (t' := t + 1) (a := h'.objs.size) (fun b o z => Heap.get?_push_of_some _ z) (Nat.le_refl _) (Heap.get?_push_size _ rfl)
    show wpAny _ _ (callWith p3 (Value.ref h'.objs.size) [] (backTo p3 (starEach (e :: es) X.env)) []) _ _ _
    have hpa := h h'.objs.size hN _ (hH.new nu) p3 pins _ J2
    rw [he] at hpa ⊢
    refine callwith_met (X := X) (g := g) (a := a) (by show ((false || (backTo p3 (starEach es X.env)).any (·.1)) || false) = false; rw [hpl]; rfl) T.fi (Calls.evalArgs_plain (thn hpa fun us s1 ⟨vs', H1, J3, r1, L1, h1, e1, qk⟩ => ?_))
    refine ⟨met_P J3 (h1.get e1), ?_⟩
    show wpAny _ _ (call (Value.ref h'.objs.size) us) _ _ _
    have hsp : toSp sp (.ref a :: vs') H1 (up fun _ L2 => GSs X rest D η L2) (fun c d H' => upW X W c d (vals η) H') := ⟨L1, _, _, h1, qk, fun _ L' _ h' q => ⟨L', h', q⟩, fun _ _ L' _ h' q => ⟨η, L', hN, rfl, h', q⟩⟩
    refine wpAny_call (call_met J3 (h1.get e1) (codeAny_mono (R _ X.stack s1 H1 (.ref a :: us) (.ref a :: vs') _ _ (hr.mono hjk) J3.env0 (.cons rfl r1) hsp) fun r s' hq => ?_))
    cases r with
    | error e => exact passAt tk (vals η) pins H1 _ e s' J3 hq
    | ok fl =>
      cases fl with
      | ret w =>
        obtain ⟨v, H', J4, rv, L2, h2, qf⟩ := J3.after hq
        exact AtSs.any (qf hN H' h2) pins s' J4
      | next => exact hq.elim
      | brk => exact hq.elim
      | cont => exact hq.elim
  · rcases kk with kk | kk
    · have z := kk.symm.trans hka
      cases z
    · have z := kk.symm.trans hka
      cases z
end
/-- what such a method lets out is taken -/
theorem tk_sup {P : Program} {w : World} {K : PySem.W.Frag} {mg : Str → Option Value} {base : Heap} {N : List Str} {x q : Str} {st : Stmt} {cc c f : Addr} {A : Around} {outer : List Env} {s : Shared} {H : Hp} {E0 : XK} {E : XL} (he : ∀ c d L' H', Has H' L' → E c d L' → E0 c d H') :
    Tk (cxS (L2.CX P w) P w K mg base N x q st cc c f A outer s H E0) (fun c d _ L' => drpE E c d L') :=
  (takes_of rfl rfl rfl rfl).imp fun c d σ H' ⟨η, L', _, _, h', M, sb, z⟩ => he c d M H' (sb _ h') z
/-! ### constants of classes -/
section
variable {X : Cx} {L : Lg} {Q : QV} {C : Addr} {mc u : Value} {n : Str} {v : V}
theorem gat_cls (r : CRead X.K C mc) (k : CVal X.K C mc n v u) (q : Q v L) : GAt X n (.ref C) L Q := fun pins s σ H u' ex hH I rr => by
  obtain rfl : u' = Value.ref C := rr
  exact getcval_ok I r k fun s2 I2 => ⟨v, H, I2, k.rel, L, hH, q⟩
end
/-! ### own == against other kinds; isinstance of an own class -/
section
variable {X : Cx} {CX : CXT} {j k : Nat} {C g a b dx dy : Addr} {fs gs : List (Str × V)} {sp : SpL} {El : XL} {L : Lg} {Q : QV} {y : V} {T : String} {r : Bool}
theorem gc_isKO (ky : Knd L y T) (e : PySem.W.kitOne X.K (.type T) (.ref C) = some r) (h : Q (.bl r) L) : GC X (.builtin "isinstance") [y, .ref C] L Q := GC.of call_isi fun H hH => ⟨y, .ref C, .type T, .ref C, r, rfl, .own C, ky.ty H hH, e, L, hH, h⟩
theorem go_eqK (T' : OwnEq X.K C g) (F : RunG X.prog X.w X.K X.mg X.base CX k g argsP (toSp sp)) (hr : RoomG j X.A) (hx : Passes CX X (upX El)) (ma : (a, HO.ins C dx fs) ∈ L) (ky : Knd L y T) (hn : PySem.W.notFirst X.K C (.type T) = true)
    (h : sp [.ref a, y] L (fun v L' => ∃ r, v = .bl r ∧ Q (.bl r) L') El) (hjk : k ≤ j := by decide) : GOp X (compareOp .Eq) (.ref a) y L Q := fun pins s σ H v u hH I rx ry => by
  obtain rfl : v = Value.ref a := rx
  obtain ⟨oa, da, J⟩ := ins_inst I hH ma
  obtain ⟨P, kx, hp, _⟩ := kit_of I ry (ky.ty H hH)
  obtain ⟨m, hF⟩ := I.fr
  show wpAny (model X.prog X.w) X.A (richCompare .Eq (.ref a) u) _ _ _
  refine PySem.W.cmp_K (op := .Eq) (tb := .type T) hr.toRoom.units0 hF I.ok.mod.kin J (kx.ty _ _ I.kIn hp) hn T'.at_ T'.fn ?_
  refine wpAny_mono (run_G (args := argsP) (us := [.ref a, u]) (vs := [.ref a, y]) F (hr.mono hjk) hx I (.cons rfl (.cons ry .nil)) (up_sp hH h)) (fun r s' z => ?_) fun _ _ z => z
  obtain ⟨v, H', I', rv, L', h', r0, ev, q⟩ := z
  subst ev
  obtain rfl : r = Value.bool r0 := rv
  exact ⟨.bl r0, H', I', rfl, L', h', q⟩
/-- str(x) by an own __str__ -/
theorem gc_strM (hs : PySem.W.findIn X.K (.ref C) "__str__" = some (some (.ref g))) (hf : PySem.W.isFn X.K (.ref g) = true) (F : RunG X.prog X.w X.K X.mg X.base CX k g argsP (toSp sp)) (hr : RoomG j X.A) (hx : Passes CX X (upX El)) (ma : (a, HO.ins C dx fs) ∈ L)
    (h : sp [.ref a] L (fun v L' => ∃ z, v = .str z ∧ Q (.str z) L') El) (hjk : k + 2 ≤ j := by decide) : GC X (.type "str") [.ref a] L Q := fun pins s σ H us hH I rr => by
  rw [Vals.ref1 rr]
  obtain ⟨oe, od, J⟩ := ins_inst I hH ma
  have hu : X.A.in1.in1.units < cLine := ((hr.mono hjk).in1).in1.toRoom.units0
  refine PySem.W.kso_call hu I.kIn J hs hf (wpAny_call (codeAny_mono (F X.A.in1.in1 X.stack s H [.ref a] [.ref a] _ _ ((hr.mono hjk).in1).in1 I.env0.in1.in1 (.cons rfl .nil) (up_sp hH h)) fun r s' hq => ?_))
  cases r with
  | error e => exact hx pins σ H s e s' I hq
  | ok fl =>
    cases fl with
    | ret w =>
      obtain ⟨z, H', I', rz, L', h', y, ez, q⟩ := I.after hq
      subst ez
      obtain ⟨t, rfl⟩ : ∃ t, w = Value.str y t := rz
      exact ⟨.str y, H', I', ⟨t, rfl⟩, L', h', q⟩
    | next => exact hq.elim
    | brk => exact hq.elim
    | cont => exact hq.elim
end
/-! ### f-strings -/
def GJs (X : Cx) (es : List Expr) (η : En) (acc : Str) (L : Lg) (Q : Str → Lg → Prop) : Prop := match es with
  | [] => Q acc L
  | e :: r => GE X e η L fun x L1 => ∃ y : Str, x = .str y ∧ (acc ++ y).length ≤ sizeLine ∧ GJs X r η (acc ++ y) L1 Q
section
variable {X : Cx} {η : En} {L : Lg} {Q : QV} {e : Expr} {pos : Pos}
theorem pj_W : ∀ {es : List Expr}, PJ X es (es.map (WE X))
  | [] => .nil
  | _ :: _ => .cons pe_W pj_W
theorem GJs.to : ∀ {es : List Expr} {acc : Str} {L : Lg} {Q : Str → Lg → Prop} {Q' : Str → Hp → Prop}, GJs X es η acc L Q → X.N = names η → ∀ {H : Hp}, Has H L → (∀ v L1 H1, Has H1 L1 → Q v L1 → Q' v H1) → tJs (es.map (WE X)) acc (vals η) H Q'
  | [], acc, L, Q, Q', h, hN, H, hH, m => m _ _ _ hH h
  | e :: r, acc, L, Q, Q', h, hN, H, hH, m => GE.then h hN hH fun x L1 H1 h1 ⟨y, ey, z, q⟩ => ⟨y, ey, z, GJs.to q hN h1 m⟩
theorem ge_joined {v1 v2 : Expr} {rest : List Expr} (h : GJs X (v1 :: v2 :: rest) η Str.empty L fun out L1 => Q (.str out) L1) : GE X (.JoinedStr (v1 :: v2 :: rest) pos) η L Q := fun hN H hH =>
  WE.of (pe_joined pj_W) (GJs.to h hN hH fun v L1 H1 h1 q => ⟨L1, h1, q⟩)
theorem ge_fmtI (h : GE X e η L fun x L1 => ∃ i : Int, x = .int i ∧ i.natAbs.log2 < 1920 ∧ Q (.str (toString i)) L1) : GE X (.FormattedValue e (-1) none pos) η L Q := fun hN H hH =>
  WE.of (pe_fmt pe_W) (h.then hN hH fun x L1 H1 h1 ⟨i, ex, z, q⟩ => .inr ⟨i, ex, z, L1, h1, q⟩)
theorem ge_fmtS (h : GE X e η L fun x L1 => ∃ y : Str, x = .str y ∧ y.length ≤ sizeLine ∧ Q (.str y) L1) : GE X (.FormattedValue e (-1) none pos) η L Q := fun hN H hH =>
  WE.of (pe_fmt pe_W) (h.then hN hH fun x L1 H1 h1 ⟨y, ex, z, q⟩ => .inl ⟨y, ex, z, L1, h1, q⟩)
/-- parts, with the length so far -/
theorem gjs_int {acc : Str} {n : Nat} {r : List Expr} {Q : Str → Lg → Prop} (ha : acc.length ≤ n) (hn : n ≤ 1000000) (h : GE X e η L fun x L1 => ∃ i : Int, x = .int i ∧ i.natAbs < 2 ^ 1920 ∧ ((acc ++ toString i).length ≤ n + 1921 → GJs X r η (acc ++ toString i) L1 Q)) : GJs X (.FormattedValue e (-1) none pos :: r) η acc L Q :=
  ge_fmtI (h.imp fun x L1 ⟨i, ex, hi, q⟩ => by
    have l := int_text_len_1921 (log_lt hi)
    have l2 : (acc ++ toString i).length ≤ n + 1921 := by
      rw [Str.length_append]
      omega
    exact ⟨i, ex, log_lt hi, _, rfl, by rw [sizeLine_eq]; omega, q l2⟩)
theorem gjs_lit {acc z : Str} {n : Nat} {r : List Expr} {j} {Q : Str → Lg → Prop} (ha : acc.length ≤ n) (hn : n ≤ 1000000) (h : (acc ++ z).length ≤ n + 100 → GJs X r η (acc ++ z) L Q) (hz : z.length ≤ 100 := by decide) : GJs X (.Constant (.str z) j pos :: r) η acc L Q := by
  have l2 : (acc ++ z).length ≤ n + 100 := by
    rw [Str.length_append]
    omega
  exact ge_str ⟨z, rfl, by rw [sizeLine_eq]; omega, h l2⟩
theorem gjs_nil {acc : Str} {Q : Str → Lg → Prop} (q : Q acc L) : GJs X [] η acc L Q := q
end
end G

set_option Elab.async false
set_option linter.all false
set_option maxRecDepth 100000
set_option maxHeartbeats 4000000
/-! == where the right one is of a class below; count of booleans. -/
namespace PySem.W
open PySem PySem.Calls PyProof.Rows
section
variable {prog : Program} {w : World} {A : Around} {E : Value → Shared → Prop} {s : Shared} {K : Frag} {x y C C' f : Addr} {ox oy : Obj} {od od' : Option Obj}
theorem g_eqSub {Q : Value → Shared → Prop} (hu : A.units < cLine) (X : K.In s.heap) (I : InstAt s.heap x ox C od) (J : InstAt s.heap y oy C' od') (sub : subIn K (.ref C') (.ref C) = some true) (ne : C ≠ C')
    (hs : findIn K (.ref C') "__eq__" = some (some (.ref f))) (hf : isFn K (.ref f) = true) (h : wpAny (model prog w) A (call (.ref f) [.ref y, .ref x]) (fun v s' => ∃ r, v = .bool r ∧ Q (.bool r) s') E s) : wpAny (model prog w) A (richCompare .Eq (.ref x) (.ref y)) Q E s := by
  have one : wpAny (model prog w) A (tryCompare (.ref y) "__eq__" (.ref x)) (fun r s' => ∃ v, r = some v ∧ Q v s') E s := by
    unfold tryCompare
    refine wpAny_bind (ifBound_K X J hs hf (wpAny_mono h (fun v s' hv => ?_) fun _ _ e => e))
    obtain ⟨r, rfl, q⟩ := hv
    exact wpAny_pure ⟨_, rfl, q⟩
  unfold richCompare
  simp only [oneThing_ref]
  refine wpAny_holding (wpAny_bind (wpAny_cRoomFor hu ?_))
  refine wpAny_bind (I.type.here (wpAny_bind (J.type.here ?_)))
  split
  · refine wpAny_bind ((looks_subIn X sub).here ?_)
    simp only [if_true]
    refine wpAny_bind (wpAny_mono one (fun r s' z => ?_) fun _ _ e => e)
    obtain ⟨v, rfl, hq⟩ := z
    first
      | exact wpAny_bind (wpAny_rule (wpAny_pure hq))
      | exact wpAny_pure hq
  · rename_i q
    exact absurd (by simpa using ne) q
end
end PySem.W
namespace G
open PySem PySem.Spec PyProof.Rows L2
/-- one entry's place -/
theorem Swap.lens {p : Addr} {o : HO} {L M : Lg} (s : Swap p o L M) : ∃ f : HO → Lg, f o = M ∧ (∀ o', Swap p o' L (f o')) ∧ ∀ o1 o2, plain o1 = true → Swap p o2 (f o1) (f o2) := by
  induction s with
  | @here u L pl => exact ⟨fun o => (p, o) :: L, rfl, fun _ => .here pl, fun _ _ h => .here h⟩
  | @there e L M s ih =>
    obtain ⟨f, a, b, c⟩ := ih
    exact ⟨fun o => e :: f o, congrArg (e :: ·) a, fun o => .there (b o), fun o1 o2 h => .there (c o1 o2 h)⟩
/-- how two own classes stand to each other at == -/
def PairEq (K : PySem.W.Frag) (C C' : Addr) : Prop := PySem.W.notFirst K C (.ref C') = true ∨ (PySem.W.subIn K (.ref C') (.ref C) = some true ∧ C ≠ C')
section
variable {X : Cx} {CX : CXT} {j k : Nat} {C C' g a b dx dy : Addr} {fs gs : List (Str × V)} {sp : SpL} {El : XL} {L : Lg} {Q : QV}
/-- a == b by the one __eq__ of both classes; it is called one way or the other -/
theorem go_eqP (T : OwnEq X.K C g) (T' : OwnEq X.K C' g) (F : RunG X.prog X.w X.K X.mg X.base CX k g argsP (toSp sp)) (hr : RoomG j X.A) (hx : Passes CX X (upX El)) (ma : (a, HO.ins C dx fs) ∈ L) (mb : (b, HO.ins C' dy gs) ∈ L) (hp : PairEq X.K C C')
    (h : sp [.ref a, .ref b] L (fun v L' => ∃ r, v = .bl r ∧ Q (.bl r) L') El) (h' : sp [.ref b, .ref a] L (fun v L' => ∃ r, v = .bl r ∧ Q (.bl r) L') El) (hjk : k ≤ j := by decide) : GOp X (compareOp .Eq) (.ref a) (.ref b) L Q := by
  rcases hp with hn | ⟨sub, ne⟩
  · exact go_eqM T F hr hx ma mb hn h hjk
  · intro pins s σ H v u hH I rx ry
    obtain rfl : v = Value.ref a := rx
    obtain rfl : u = Value.ref b := ry
    obtain ⟨oa, da, J⟩ := ins_inst I hH ma
    obtain ⟨ob, db, J'⟩ := ins_inst I hH mb
    show wpAny (model X.prog X.w) X.A (richCompare .Eq (.ref a) (.ref b)) _ _ _
    refine PySem.W.g_eqSub hr.toRoom.units0 I.kIn J J' sub ne T'.at_ T'.fn ?_
    refine wpAny_mono (run_G (args := argsP) (us := [.ref b, .ref a]) (vs := [.ref b, .ref a]) F (hr.mono hjk) hx I (.cons rfl (.cons rfl .nil)) (up_sp hH h')) (fun r s' z => ?_) fun _ _ z => z
    obtain ⟨v, H', I', rv, L', h', r0, ev, q⟩ := z
    subst ev
    obtain rfl : r = Value.bool r0 := rv
    exact ⟨r0, rfl, .bl r0, H', I', rfl, L', h', q⟩
end
/-! ### count of a list of booleans -/
def isB (b : Bool) : Value → Bool
  | .bool c => c == b
  | _ => false
theorem isB_vals {bs : List Bool} {us : List Value} (r : Vals (bs.map V.bl) us) {b : Bool} : (∀ y ∈ us, ∃ c, y = Value.bool c) ∧ us.countP (isB b) = bs.count b := by
  induction bs generalizing us with
  | nil =>
    cases r
    exact ⟨fun _ z => absurd z List.not_mem_nil, rfl⟩
  | cons c bs ih =>
    cases r with
    | cons a r =>
      obtain rfl : _ = Value.bool c := a
      obtain ⟨h1, h2⟩ := ih r
      refine ⟨fun y hy => ?_, ?_⟩
      · rcases List.mem_cons.mp hy with rfl | hy
        · exact ⟨c, rfl⟩
        · exact h1 y hy
      · rw [List.countP_cons, h2, List.count_cons]
        rfl
section
variable {X : Cx} {η : En} {L : Lg} {Q : QV} {o e : Expr} {apos pos : Pos}
theorem mt_countB : MtR X "list.count" (fun x xs H Q => ∃ (p : Addr) (bs : List Bool) (b : Bool), x = .ref p ∧ xs = [.bl b] ∧ SqL X.K H p (bs.map V.bl) ∧ Q (.int (bs.count b : Nat)) H) := by
  intro pins s σ H x xs v us Q I rx rxs h
  obtain ⟨p, bs, b, rfl, rfl, hs, q⟩ := h
  cases rx
  obtain ⟨u, rfl, ru⟩ := rxs.one
  obtain rfl : u = Value.bool b := ru
  obtain ⟨its, rv, ⟨⟨cls, dd, data, sl⟩, n, ho, hc, hdn, hd⟩, hlen⟩ := I.list hs
  simp only at hc hd
  subst hc hd
  obtain ⟨h1, h2⟩ := isB_vals rv (b := b)
  refine call_meets PySem.F.slot_list_count ⟨_, ho, rfl⟩ PySem.F.entry_list_count (PySem.F.args_list_count_2 _ _)
    (SeqAt.list_countAt p its.toArray n dd sl (.bool b) (isB b)) ⟨ho, fun y hy => ?_, ?_⟩
  · obtain ⟨c, rfl⟩ := h1 y (by simpa using hy)
    exact SeqAt.EqAt.bool_bool c b
  refine ⟨.int (bs.count b : Nat), H, I.tok _, ⟨s.toks, ?_⟩, q⟩
  show Value.int ((its.toArray.toList.countP (isB b) : Nat) : Int) s.toks = Value.int ((bs.count b : Nat) : Int) s.toks
  rw [← h2]
/-- xs.count(b), booleans -/
theorem ge_countB (h : GE X o η L fun v L1 => ∃ (p : Addr) (bs : List Bool), v = .ref p ∧ (p, HO.lst (bs.map V.bl)) ∈ L1 ∧ GE X e η L1 fun y L2 => ∃ b, y = .bl b ∧ (p, HO.lst (bs.map V.bl)) ∈ L2 ∧ Q (.int (bs.count b : Nat)) L2)
    (hbase : attributeBase o "count" X.env (eval o X.env) = eval o X.env := by rfl)
    (hfew : ((backTo pos (starEach [e] X.env)).all (fun x => !x.1) && (backToKw pos (keywordEach [] X.env)).all (fun x => x.1.isSome)
      && decide ([e].length + ([] : List Keyword).length + (if ([] : List Keyword).isEmpty then 0 else 1) < 30)) = true := by rfl)
    (hline : (apos.endLine == pos.line) = true := by rfl) (hs : starEach [e] X.env = (false, eval e X.env) :: starEach [] X.env := by rfl) : GE X (.Call (.Attribute o "count" apos) [e] [] pos) η L Q := fun hN H hH =>
  WE.of (pe_bm PySem.F.plainAttrs_list PySem.F.slot_list_count PySem.F.type_list_count mt_countB pe_W (pa_cons pe_W pa_nil hs) hbase hfew hline hs rfl) (h.then hN hH fun v L1 H1 k1 ⟨p, bs, ev, m, q⟩ => by
    subst ev
    exact ⟨.inl ⟨rfl, _, sql k1 m⟩, q.then hN k1 fun y L2 H2 k2 ⟨b, ey, m2, q2⟩ => ⟨p, bs, b, rfl, by rw [ey], sql k2 m2, L2, k2, q2⟩⟩)
end
section
variable {X : Cx} {L : Lg} {elt : Expr} {ifs : List Expr} {scope : Scope} {f : V → En} {g : V → V → En} {R : V → Lg → Prop} {q r : Addr} {o : HO} {xs ys : List V} {pt : Nat → Bool} {pg : Nat → V}
/-- a pure comprehension over a list, told by the index -/
theorem pure_listI (mq : (q, HO.lst xs) ∈ L) (hl : xs.length ≤ 1000000) (ht : ∀ i v, xs[i]? = some v → TurnP X scope ifs elt L (f v) (pt i) (pg i)) (h : ∀ D, R (.ref D) ((D, .lst (((List.range xs.length).filter pt).map pg)) :: L)) : PureL X scope ifs elt (stOne f) R ⟨xs.length, KeepL q xs, itemAt xs⟩ L := by
  refine ⟨pt, pg, ⟨hl, fun M h => h _ mq, fun i x E D acc M hi ⟨hx, hE⟩ _ s => ?_⟩, h⟩
  subst hE
  exact turnP_use (st := stOne f) (ht i x hx) s
/-- over two lists side by side -/
theorem pure_zip (mq : (q, HO.lst xs) ∈ L) (mr : (r, HO.lst ys) ∈ L) (hl : xs.length ≤ 1000000) (ht : ∀ i x y, xs[i]? = some x → ys[i]? = some y → TurnP X scope ifs elt L (g x y) (pt i) (pg i)) (h : ∀ D, R (.ref D) ((D, .lst (((List.range (min xs.length ys.length)).filter pt).map pg)) :: L)) :
    PureL X scope ifs elt (stTwo g) R ⟨min xs.length ys.length, fun M => (q, HO.lst xs) ∈ M ∧ (r, HO.lst ys) ∈ M, itemPr (fun i => xs[i]?) (fun i => ys[i]?)⟩ L := by
  refine ⟨pt, pg, ⟨Nat.le_trans (Nat.min_le_left _ _) hl, fun M h => ⟨h _ mq, h _ mr⟩, fun i x E D acc M hi it _ s => ?_⟩, h⟩
  obtain ⟨T, a, b, rfl, rfl, ea, eb⟩ := it
  exact ⟨T, a, b, rfl, mem0, turnP_use (st := stTwo g) (ht i a b ea eb) (s.trans Sub.drop)⟩
end
theorem filter_none {n : Nat} {pg : Nat → V} : ((List.range n).filter fun _ => false).map pg = [] := by
  rw [List.filter_eq_nil_iff.mpr fun _ _ => Bool.false_ne_true]
  rfl
/-- a loop that leaves what stands in the ledger -/
theorem loopL {X : Cx} {tg : Expr} {body : List Stmt} {D : GD} {S : Src} {η : En} {L : Lg} (Pe : Nat → En → Prop) (h0 : Pe 0 η) (kp : ∀ M, (∀ e ∈ L, e ∈ M) → S.keep M)
    (hs : ∀ i x E θ, i < S.n → S.item i x E → Pe i θ → GG X tg x θ (E ++ L) fun θ' M' => GSs X body { nx := fun θ N => Pe (i + 1) θ ∧ Sub L N, rt := D.rt, bk := D.nx, ct := fun θ N => Pe (i + 1) θ ∧ Sub L N } θ' M') (hd : ∀ θ N, Pe S.n θ → Sub L N → D.nx θ N) : ∃ Pv, LoopS X tg body D S η L Pv :=
  ⟨fun i θ N => Pe i θ ∧ Sub L N, ⟨h0, Sub.refl⟩, fun i θ M _ nd ⟨_, s⟩ => kp M fun e m => (s.to nd).2 e m, fun i x E θ M hi it ⟨pe, s⟩ => GG.sub (Sub.append s) (hs i x E θ hi it pe), fun θ M ⟨pe, s⟩ => hd θ M pe s⟩
section
variable {X : Cx} {η : En} {L : Lg} {Q : QV} {j k : Nat} {x a : Str} {st : Stmt} {Ng : List Str} {params : Arguments} {body : Expr} {scope : Scope} {p lpos pos : Pos} {c P : Addr}
/-- the same, where the def that gets the lambda may have laid more by then -/
theorem ge_lamcallM {AM : Lg → QV} {EM : Lg → XL} (F : Df X.K X.mg x st) (S : FnScope Ng [a] (defScope st)) (hb : ∀ (kV doc pm : Value) (an : Option Addr) (cdv ct : Value) (us : List Value), us.length = [a].length → bindArgs (PySem.W.fnOf x x (defArgs st) (defBody st) (defScope st) .none kV doc pm an cdv ct) ⟨us, []⟩ = pure ([a].zip us))
    (hl : 1 ≤ Ng.length) (TB : LamX.TabB X.base X.mg c P) (hcode : X.env.code = .ref c) (mT : (P, tabM (X.env.qual ++ "<lambda>")) ∈ L) (hr : RoomG (k + 2) X.A)
    (hS : LamX.LamS X.env.scope scope) (lam : ∀ M, (∀ e ∈ L, e ∈ M) → LamOk X scope body η k M (AM M) (EM M))
    (heard : ∀ (Z : Cx) (g f : Addr) (cdv : Value) (s : Shared) (H : Hp) (E0 : XK), Z = cx0 X.prog X.w X.K X.mg X.base Ng x (defScope st) g cdv X.A X.stack s H E0 → Z.N.Nodup → RoomG (k + 1) Z.A → (∀ M, (∀ e ∈ L, e ∈ M) → Act Z a f M (AM M) (EM M)) → GSs Z (defBody st) (bodyD Q) (begun Ng [.ref f]) L)
    (hdef : defaultsOf params X.env = ([], []) := by rfl) (hbind : ∀ (q : Str) (cl : List (Str × Addr)) (pm cv ctv : Value), bindArgs (PySem.W.kla_fn "<lambda>" q params body scope cl pm cv ctv) ⟨[], []⟩ = pure [] := by intros; rfl) (hg : Gl X x := by rfl)
    (hdb : (x == ("__debug__" : Str)) = false := by decide) (hd : (a == ("__debug__" : Str)) = false := by decide) (hcd : (a == ("__classdict__" : Str)) = false := by decide) :
    GE X (.Call (.Name x p) [.Lambda params body scope lpos] [] pos) η L Q := fun hN H hH pins s I => by
  obtain ⟨g, fd, hm, F⟩ := F
  obtain ⟨oc, od, kV, doc, pm, an, cdv, ct, osl, rfl, lk, hcg⟩ := F.ex
  refine wpAny_Call_Name_kw (ld_glob I hg hm ?_ hdb)
  refine PySem.W.callWith_K (h₀ := X.base) I.ok.mod.kin F.kp ?_ (by rfl) (by rfl)
  show wpAny _ _ (spliced ((false, eval (.Lambda params body scope lpos) X.env) :: backTo pos (starEach [] X.env))) _ _ s
  refine Calls.spliced_cons (lam_made I TB hcode (holds_tab (hH.2 _ mT)) hdef (hS.has I.ok) fun f c' pm' ctv H1 s1 ps I1 gr hP1 ht1 hc1 T1 hf hfn hfr => ?_)
  have hH1 := has_made hH mT gr T1
  refine Calls.spliced_nil ⟨I1.kIn, ?_⟩
  have rc : codeAny (model X.prog X.w) X.A (.call (.ref g) ⟨[.ref f], []⟩) (CR CX0 X.stack X.prog X.w H1 s1 (up Q) fun _ _ _ => False) s1 := by
    refine LamX.run_ofS (CX := CX0) (N := Ng) (ps := [a]) (us := [.ref f]) (vs := [.ref f]) lk hcg S hr.toRoom I1.env0 (.of_eq (hb kV doc pm an cdv ct [.ref f] rfl)) (.cons rfl .nil) rfl fun hr2 => ?_
    let Z : Cx := cx0 X.prog X.w X.K X.mg X.base Ng x (defScope st) g cdv X.A X.stack s1 H1 (fun _ _ _ => False)
    have act : ∀ M, (∀ e ∈ L, e ∈ M) → Act Z a f M (AM M) (EM M) := fun M hM pn xe W θ p1 p2 tk hW hat hNθ HZ hHZ pinsZ sZ IZ => by
      obtain ⟨i, i1, i2⟩ := hat.idx
      have va : Vis (trX Z pn xe).env.scope a := (S.par a (List.mem_singleton.mpr rfl)).elim .inl fun z => .inr (.inl z)
      refine wpAny_Call_Name_kw (thn ((pe_var (X := trX Z pn xe) (pos := p1) (i := i) (by rw [hNθ]; exact i1) va hd hcd).run pinsZ sZ (vals θ) HZ (fun v H2 => v = .ref f ∧ H2 = HZ) IZ ⟨.ref f, i2, rfl, rfl⟩) fun u s2 ⟨v, H2, I2, r2, q2⟩ => ?_)
      obtain ⟨ev, eH⟩ := q2
      subst ev
      rw [eH] at I2
      obtain rfl : u = Value.ref f := r2
      have un : Un (frs X.stack) [] H1 HZ s1.heap s2.heap := I2.base
      have of2 : s2.heap.get? f = some (PySem.W.kla_obj "<lambda>" (X.env.qual ++ "<lambda>") params body scope (cloFrom X.env.cells scope.names []) pm' c' ctv) := un.keep f _ hf hfn hfr (fun z => nomatch (show f ∈ ([] : List Addr) from z))
      refine PySem.W.callWith_F0 ⟨_, _, _, _, of2⟩ ?_
      -- the code object still stands
      obtain ⟨more, hP2⟩ := un.tbls P ps hP1
      obtain ⟨ps2, hP3, ht3, ha3⟩ := holds_tab (hHZ.2 _ (hM _ mT))
      have eps : ps2 = ps ++ more := by
        have z := hP3.symm.trans hP2
        exact HO.tbl.inj (Option.some.inj z)
      obtain ⟨c2, e2, hco⟩ := ha3 lpos (.ref c') (by rw [eps, Array.toList_append]; exact among_left _ _ rfl ht1 hc1)
      cases e2
      obtain ⟨⟨oc2, vs2, t2, hoc, hdc, hvc⟩, _, _⟩ := I2.hok c' _ hco
      have rcl : codeAny (model X.prog X.w) (trX Z pn xe).A (.call (.ref f) ⟨[], []⟩) (CR (L2.CX X.prog X.w) (trX Z pn xe).stack X.prog X.w HZ s2 (up (AM M)) (upX (EM M))) s2 := by
        refine PySem.W.kla_callFunE hr2.depth of2 rfl hS.co hS.gen rfl ⟨c', oc2, vs2, t2, rfl, hoc, hdc, hvc⟩ ?_
        rw [hbind]
        refine wpAny_pure (wpAny_newFunctionEnv (fun y hy => (hS.own y hy).2) (fun y hy => absurd hy (by simp)) (fun h₁ hns hsb => ⟨I2.nolimit.fresh _ hsb, ?_⟩) hS.kind)
        show codeAny _ _ (.expr body (LamX.lamEnv X scope s2.heap.objs.size f c')) _ _
        have kp : ∀ b o, s2.heap.get? b = some o → h₁.get? b = some o := fun b o e => hsb.extBut b o (Nat.ne_of_lt (Heap.lt_size e)) (Heap.get?_push_of_some _ e)
        have J := LamX.lam_start2 (tk := s2.toks + ([] : List (Str × Value)).length) (E := upX (EM M)) (f := f) (c' := c') I1 hS I2.env0 hr2.hd un hns kp
        have rb : RoomG k ((trX Z pn xe).A.deeper (LamX.lamEnv X scope s2.heap.objs.size f c')) := ⟨hr2.deeper _, guard_deeper (guard_deeper hr.gd)⟩
        have tkb : Tk (LamX.lamCx X (trX Z pn xe).A (trX Z pn xe).stack s2 HZ (upX (EM M)) scope f c') (fun c d _ L' => EM M c d L') := (takes_of rfl rfl rfl rfl).imp fun c d σ H' ⟨η', L', _, _, h', z⟩ => ⟨L', h', z⟩
        refine PySem.W.kla_codeExpr (wpAny_mono (lam M hM (trX Z pn xe).A (trX Z pn xe).stack s2 HZ (upX (EM M)) f c' rb tkb hN HZ hHZ [] _ J) (fun v s' hq => ?_) fun e s' hq => hq)
        obtain ⟨w', H', J', rv, q⟩ := hq
        exact ⟨w', H', J'.os, J'.bare, J'.base, J'.hok, rv, q⟩
      refine wpAny_call (codeAny_mono rcl fun r s' hq => ?_)
      cases r with
      | error e => exact tk e s' (XE.of_call (E := upX (EM M)) I2 (fun cls d H' ⟨L', h', z⟩ => ⟨θ, L', hNθ, rfl, h', hW _ _ _ z⟩) hq)
      | ok fl =>
        cases fl with
        | ret u => exact I2.after hq
        | next => exact False.elim hq
        | brk => exact False.elim hq
        | cont => exact False.elim hq
    exact ⟨WSs _ (defBody st), PSs.nox pss_W, body_end (X := Z) (vs := [.ref f]) hl (fun v L' H' h' q => ⟨L', h', q⟩) hH1 (heard Z g f cdv s1 H1 _ rfl S.nd ⟨hr2, guard_deeper hr.gd⟩ act)⟩
  refine wpAny_call (codeAny_mono rc fun r s2 hq => ?_)
  cases r with
  | error e => exact (show False from hq).elim
  | ok fl =>
    cases fl with
    | ret u => exact I1.after hq
    | next => exact False.elim hq
    | brk => exact False.elim hq
    | cont => exact False.elim hq
end
end G

set_option Elab.async false
set_option linter.all false
set_option maxRecDepth 100000
set_option maxHeartbeats 4000000
namespace PySem.HandSPX
open Builtin Builtin.ObjectAttr
section
variable {M : Model} {A : Around} {E : Value → Shared → Prop} {h : Heap} {g : Array GenState} {d : Drawn} {t : Nat} {os : OsState}
variable {nm q : Str} {C N : Addr} {bs bm mB : List Value} {hd : Bool} {sn : List Str} {sub us : List Value} {ab : Bool} {col : Option Bool} {dd : Option Addr} {a0 a1 a2 a3 a5 : Option Value} {B nI iI : String} {kw : List (Str × Value)}
theorem g_chk (F : ExcBaseFacts B nI iI mB) (mem : ∀ X : String, bm.contains (.type X) = mB.contains (.type X)) {Q : Unit → Shared → Prop} (cl : h.get? C = some (excClassObj nm q C N bs bm hd sn sub ab col dd a0 a1 a2 a3 a5 nI)) (q0 : Q () ⟨h, g, d, t, os⟩) :
    wpAny M A (checkBuiltinCall nI ⟨.ref C :: us, kw⟩) Q E ⟨h, g, d, t, os⟩ := by
  have own : (Value.ref C :: bm).contains (.type B) = true := by rw [List.contains_cons, mem, F.hasB, Bool.or_true]
  have st := F.noStar
  simp only [checkBuiltinCall, F.newKind, F.newSplit, F.newRow]
  repeat (first | refine wpAny_loadPart_at cl ?_ | (refine wpAny_isSubtype_exc cl ?_; rw [own]) | refine wpAny_staticBase_exc cl ?_ | refine wpAny_madeBy_exc cl ?_ | simp only [bne_self_eq_false, Bool.false_eq_true, if_false] | wp_step)
  exact q0
end
section
variable {prog : Program} {w : World} {A : Around} {E : Value → Shared → Prop} {R : Result → Shared → Prop} {h : Heap} {g : Array GenState} {d : Drawn} {t : Nat} {os : OsState}
variable {nm q : Str} {C N f : Addr} {bs bm mB : List Value} {hd : Bool} {sn : List Str} {sub us : List Value} {ab : Bool} {col : Option Bool} {dd : Option Addr} {a0 a1 a2 a3 a5 : Option Value} {B nI iI : String} {kw : List (Str × Value)}
theorem g_new (F : ExcBaseFacts B nI iI mB) (mem : ∀ X : String, bm.contains (.type X) = mB.contains (.type X)) (cl : h.get? C = some (excClassObj nm q C N bs bm hd sn sub ab col dd a0 a1 a2 a3 a5 nI))
    (q0 : R (.ok (.ret (.ref (h.objs.size + 1)))) ⟨(h.push (W.kdv_tup us)).push (excO C h.objs.size), g, d, t, os⟩) (few : us.length ≤ sizeLine) : codeAny (model prog w) A (.builtin nI ⟨.ref C :: us, kw⟩) R ⟨h, g, d, t, os⟩ := by
  have fe := F.ends
  have inB : (Value.ref C :: bm).contains (.type B) = true := by rw [List.contains_cons, mem, F.hasB, Bool.or_true]
  have inA : (Value.ref C :: bm).contains (.type "AttributeError") = false := by rw [List.contains_cons, mem, F.noAttr]; rfl
  have inN : (Value.ref C :: bm).contains (.type "NameError") = false := by rw [List.contains_cons, mem, F.noName]; rfl
  refine codeAny_builtinAt F.entry ?_
  unfold Builtin.«BaseException.__new__»
  refine wpAt_bind (show wpAt _ _ _ (stack >>= _) _ _ _ from wpAt_bind (wpAt_stack fun p below => wpAt_of_wpAny ?_))
  wp_walk
  refine wpAt_of_wpAny ?_
  rw [F.owner]
  repeat (first | with_reducible refine wpAny_madeHere_exc F.canon cl ?_ | with_reducible refine wpAny_loadPart_at cl ?_ | (with_reducible refine wpAny_isSubtype_exc cl ?_; first | rw [inB] | rw [inA] | rw [inN]) | wp_step)
  show R _ _
  rw [Heap.size_push]
  exact q0
theorem g_type (F : ExcBaseFacts B nI iI mB) (mem : ∀ X : String, bm.contains (.type X) = mB.contains (.type X)) {Q : Fin → Shared → Prop} (cl : h.get? C = some (excClassObj nm q C N bs bm hd sn sub ab col dd a0 a1 a2 a3 a5 nI))
    (li : W.Looks (model prog w) h (typeLookup (.ref C) "__init__") (some (.ref f))) (lb : ∀ self, W.Looks (model prog w) h (bindSpecial (.ref f) self) (.ref f, [self])) (few : us.length ≤ sizeLine)
    (q0 : codeAny (model prog w) A (.call (.ref f) ⟨.ref (h.objs.size + 1) :: us, kw⟩) (fun r s' => match r with | .ok (.ret v) => v = .none ∧ Q (.done (.ret (.ref (h.objs.size + 1)))) s' | .ok _ => False | .error e => E e s') ⟨(h.push (W.kdv_tup us)).push (excO C h.objs.size), g, d, t, os⟩) :
    wpAny (model prog w) A (Builtin.«type.__call__» ⟨.ref C :: us, kw⟩) Q E ⟨h, g, d, t, os⟩ := by
  repeat (first | with_reducible refine wpAny_loadPart_at cl ?_ | with_reducible refine wpAny_madeBy_exc cl ?_ | wp_step)
  refine codeAny_call_builtin_code (Code.quiet_builtin _ F.quiet) (g_chk F mem cl (g_new F mem cl ?_ few))
  show wpAny _ _ _ _ _ _
  have up : ∀ b o, h.get? b = some o → ((h.push (W.kdv_tup us)).push (excO C h.objs.size)).get? b = some o := fun b o e => Heap.get?_push_of_some _ (Heap.get?_push_of_some _ e)
  have cl2 := up _ _ cl
  have new : ((h.push (W.kdv_tup us)).push (excO C h.objs.size)).get? (h.objs.size + 1) = some (excO C h.objs.size) := by heap_get
  have inC : (Value.ref C :: bm).contains (.ref C) = true := by simp
  have li2 := li.keeps up
  have lb2 := (lb (.ref (h.objs.size + 1))).keeps up
  unfold isInstance
  repeat (first | with_reducible refine wpAny_loadPart_at new ?_ | (with_reducible refine wpAny_isSubtype_exc cl2 ?_; rw [inC]) | wp_step)
  refine (show wpAny _ _ (typeLookup (.ref C) _) _ _ _ from li2.at (wpAny_holding (wpAny_bind (lb2.at (wpAny_bind (wpAny_call (codeAny_mono q0 fun r s' z => ?_)))))))
  rcases r with e | (v | _ | _ | _) <;> first | exact z | exact z.elim | skip
  obtain ⟨rfl, z⟩ := z
  first
    | exact wpAny_pure (wpAny_pure z)
    | (wp_walk; exact z)
theorem g_made (F : ExcBaseFacts B nI iI mB) (mem : ∀ X : String, bm.contains (.type X) = mB.contains (.type X)) (cl : h.get? C = some (excClassObj nm q C N bs bm hd sn sub ab col dd a0 a1 a2 a3 a5 nI))
    (li : W.Looks (model prog w) h (typeLookup (.ref C) "__init__") (some (.ref f))) (lb : ∀ self, W.Looks (model prog w) h (bindSpecial (.ref f) self) (.ref f, [self])) (few : us.length ≤ sizeLine)
    (q0 : codeAny (model prog w) (A.under (.builtin "type.__call__" ⟨.ref C :: us, kw⟩)) (.call (.ref f) ⟨.ref (h.objs.size + 1) :: us, kw⟩) (W.InitBack (h.objs.size + 1) R) ⟨(h.push (W.kdv_tup us)).push (excO C h.objs.size), g, d, t, os⟩) : codeAny (model prog w) A (.call (.ref C) ⟨us, kw⟩) R ⟨h, g, d, t, os⟩ := by
  have l1 := tc_lookup
  have l2 := tc_bind (.ref C)
  have ty : (⟨h, g, d, t, os⟩ : Shared).TypeIs (.ref C) "type" := ⟨_, cl, rfl⟩
  refine codeAny_of_tree (show wpAny _ _ (callAny (.ref C) _) _ _ _ from ?_)
  repeat (any_goals (first | assumption | with_reducible refine wpAny_loadPart_at cl ?_ | wp_step))
  refine ⟨rfl, codeAny_call_builtin_at (Code.quiet_builtin _ (by decide +kernel)) entry_typeCall (wpAny_check_type_call_sub cl (g_type F mem cl li lb few (codeAny_mono q0 fun r s' z => ?_)))⟩
  rcases r with e | (v | _ | _ | _) <;> exact z
end
end PySem.HandSPX

set_option Elab.async false
set_option linter.all false
set_option maxRecDepth 100000
set_option maxHeartbeats 4000000
/-! Error objects as values: made, their fields read, asked of their class. -/
namespace G
open PySem PySem.Spec PyProof.Rows L2 NdefX
/-- an own error class, called in one way of giving its arguments -/
structure ErrW (P : Program) (w : World) (K : PySem.W.Frag) (mg : Str → Option Value) (base : Heap) (x : Str) (C : Addr) (ns : List Str) (args : List Value → Args) (pmU : List Value → List Value) : Prop where
  ex : ∃ fI fd, ErrK K mg x C fI ns ∧ FnOk P w K mg base CX0 1 fI fd ("self" :: ns) (spErr C ns) ∧ ∀ (y : Value) (us : List Value), us.length = ns.length → bindArgs fd ⟨y :: (args us).pos, (args us).kw⟩ = pure (("self" :: ns : List Str).zip (y :: pmU us))
section
variable {X : Cx} {η : En} {L : Lg} {Q : QV} {j : Nat} {x : Str} {C : Addr} {ns : List Str} {args : List Value → Args} {pmU : List Value → List Value} {pmV : List V → List V}
theorem exo_has {H : Hp} {a u d : Addr} {fs : List (Str × V)} (hH : Has H L) (ha : H a = none) (hu : upd H a (exo a C none) u = none) (du : d ≠ u) (da : d ≠ a) (ua : u ≠ a) (hd : upd H a (exo a C none) d = none) :
    Has (upd (upd (upd (upd H a (exo a C none)) u (mwO a u)) d (exd d fs)) a (exo a C (some d))) ((a, exo a C (some d)) :: (d, exd d fs) :: L) := by
  rw [upd_ne ua] at hu
  rw [upd_ne da] at hd
  have h1 : Has (upd H d (exd d fs)) ((d, exd d fs) :: L) := hH.new hd
  have ha1 : upd H d (exd d fs) a = none := by
    rw [upd_ne (Ne.symm da)]
    exact ha
  refine h1.newB ha1 (fun b o z => ?_) upd_same
  have na := ne_of_none z ha1
  rw [upd_ne na]
  by_cases hb : b = d
  · subst hb
    rw [upd_same] at z ⊢
    exact z
  · rw [upd_ne hb] at z ⊢
    rw [upd_ne (ne_of_none z hu), upd_ne na]
    exact z
theorem gf_err (T : ErrW X.prog X.w X.K X.mg X.base x C ns args pmU) (hpm : ∀ vs us, Vals vs us → Vals (pmV vs) (pmU us)) (hps : ∀ us, (args us).pos.length ≤ us.length) (hr : RoomG j X.A) (hj : 2 ≤ j := by decide) :
    GF X η C args (fun vs L => vs.length = ns.length ∧ (pmV vs).length = ns.length ∧ ns.length ≤ 900 ∧ ∀ a d, Q (.ref a) ((a, exo a C (some d)) :: (d, exd d (ns.zip (pmV vs)).reverse) :: L)) Q := fun pins s H us vs L hH I r ⟨hl, hl2, hz, q⟩ => by
  obtain ⟨fI, fd, G, F1, hb⟩ := T.ex
  obtain ⟨nm, qn, N, bs, bm, sn, sub, ab, col, dd, k0, k1, k2, k3, k5, hC, hbm⟩ := G.T.cls
  obtain ⟨hp, g, dr, tk, os⟩ := s
  have r2 := hpm vs us r
  have hsz : hp.objs.size ≤ hp.objs.size + 1 := Nat.le_succ _
  have hn : H (hp.objs.size + 1) = none := I.hok.fresh hsz
  have kk : ∀ b o, hp.get? b = some o → ((hp.push (PySem.W.kdv_tup (args us).pos)).push (PySem.HandSPX.excO C hp.objs.size)).get? b = some o := fun b o e => Heap.get?_push_of_some _ (Heap.get?_push_of_some _ e)
  have at1 : ((hp.push (PySem.W.kdv_tup (args us).pos)).push (PySem.HandSPX.excO C hp.objs.size)).get? (hp.objs.size + 1) = some (PySem.HandSPX.excO C hp.objs.size) := by heap_get
  have I2 : Inv X pins (vals η) (upd H (hp.objs.size + 1) (exo (hp.objs.size + 1) C none)) ⟨(hp.push (PySem.W.kdv_tup (args us).pos)).push (PySem.HandSPX.excO C hp.objs.size), g, dr, tk, os⟩ :=
    I.laid (t' := tk) (a := hp.objs.size + 1) (o := exo (hp.objs.size + 1) C none) (h' := (hp.push (PySem.W.kdv_tup (args us).pos)).push (PySem.HandSPX.excO C hp.objs.size)) kk hsz (exo_ok at1)
  have ul : us.length = ns.length := r.length.symm.trans hl
  have few : (args us).pos.length ≤ sizeLine := by
    have := hps us
    rw [sizeLine_eq]
    omega
  have hq : spErr C ns (.ref (hp.objs.size + 1) :: pmV vs) (upd H (hp.objs.size + 1) (exo (hp.objs.size + 1) C none)) (fun v H2 => v = .non ∧ up Q (.ref (hp.objs.size + 1)) H2) (fun _ _ _ => False) :=
    ⟨_, _, rfl, hl2, upd_same, fun u d hu du da ua hd => ⟨rfl, _, exo_has hH hn hu du da ua hd, q _ d⟩⟩
  refine wpAny_call (PySem.HandSPX.g_made F.excBase_ValueError (fun Y => PySem.HandSPX.refsVE_contains Y bm hbm) (I.kIn _ _ hC) (PySem.W.looks_findIn I.kIn G.iC) (fun self => PySem.W.bind_fn I.kIn self G.tI) few
    (codeAny_mono (F1.run _ X.stack _ _ ⟨Value.ref (hp.objs.size + 1) :: (args us).pos, (args us).kw⟩ (Value.ref (hp.objs.size + 1) :: pmU us) (V.ref (hp.objs.size + 1) :: pmV vs) _ (fun _ _ _ => False) ((hr.toRoom.mono hj).make C (args us).pos (args us).kw) (I2.env0.make C (args us).pos (args us).kw) (.of_eq (hb _ us ul)) (.cons rfl r2) hq) fun r s' hq' => ?_))
  cases r with
  | error er => exact False.elim hq'
  | ok fl =>
    cases fl with
    | ret u =>
      obtain ⟨v, H', I3, rv, ev, q3⟩ := I2.after hq'
      subst ev
      exact ⟨rv, ⟨V.ref (hp.objs.size + 1), H', I3, rfl, q3⟩⟩
    | next => exact False.elim hq'
    | brk => exact False.elim hq'
    | cont => exact False.elim hq'
/-- a class without own __init__ -/
structure ErrN (K : PySem.W.Frag) (mg : Str → Option Value) (x : Str) (C : Addr) : Prop where
  gC : mg x = some (.ref C)
  kC : PySem.W.keepIn K (.ref C) = true
  q : ∃ bmB B newId initId, ExcBaseFacts B newId initId bmB ∧ PySem.W.excIn K C bmB newId = true
theorem gf_errN (T : ErrN X.K X.mg x C) : GF X η C argsP (fun vs L => vs.length ≤ 900 ∧ ∀ a, Q (.ref a) ((a, ExO (.ref C) a) :: L)) Q := fun pins s H us vs L hH I r ⟨hl, q⟩ => by
  obtain ⟨bmB, B, newId, initId, F, qx⟩ := T.q
  obtain ⟨bm, N, nm, qn, bs, hdct, sn, sub, ab, col, dd, k0, k1, k2, k3, k5, mN, hC, hN, hni, Tl⟩ := exc_obj I.kIn qx
  have few : us.length ≤ sizeLine := by
    rw [← r.length, sizeLine_eq]
    omega
  obtain ⟨hp, g, dr, tk, os⟩ := s
  refine wpAny_call_exc_subT F Tl hC hN hni (fun h' a hm => ?_) few
  have hn : H a = none := I.hok.gone hm.new
  obtain ⟨t, ht, _, _⟩ := hm.there
  exact ⟨.ref a, upd H a (ExO (.ref C) a), I.laidN hm.keeps hm.new hn (exO_ok ht ⟨rfl, rfl⟩ rfl rfl rfl (show 4 < 6 by decide)), rfl, _, hH.new hn, q a⟩
end
section
variable {X : Cx} {η : En} {L : Lg} {Q : QV} {a C D dd : Addr} {fs : List (Str × V)} {c v : V} {cv : Value} {b : Bool} {n : Str}
theorem exo_inst {P : Program} {w : World} {H : Hp} {h : Heap} (hok : HOk P w H h) (e : H a = some (exo a C (some dd))) (ed : H dd = some (exd dd fs)) :
    ∃ (oe od : Obj) (mA : Str → Option Value), PySem.W.InstAt h a oe C (some od) ∧ (∀ name, PySem.W.lookIn name od = some (mA name)) ∧ ∀ f, RelO (fs.lookup f) (mA f) := by
  obtain ⟨t1, h1⟩ := exo_at hok e
  obtain ⟨mA, hns, hr⟩ := exd_at hok ed
  obtain ⟨od, ho, hl⟩ := lookIn_ns hns
  exact ⟨_, od, mA, ⟨h1, rfl, rfl, ho⟩, hl, hr⟩
theorem exN_inst {P : Program} {w : World} {H : Hp} {h : Heap} (hok : HOk P w H h) (e : H a = some (ExO (.ref C) a)) : ∃ oe, PySem.W.InstAt h a oe C none := by
  have x : ObjOk P w H h a (ExO (.ref C) a) := hok a _ e
  obtain ⟨⟨oe, vs, h1, h2, h3, _⟩, _⟩ := x
  exact ⟨oe, h1, h2.1, by unfold PySem.W.notCls; rw [h3] <;> rfl, by rw [h2.2]; trivial⟩
/-- an error object in the ledger, of one class -/
inductive ErO (C : Addr) (a : Addr) (L : Lg) : Prop
  | own {dd : Addr} {fs : List (Str × V)} (m : (a, exo a C (some dd)) ∈ L) (md : (dd, exd dd fs) ∈ L) : ErO C a L
  | bare (m : (a, ExO (.ref C) a) ∈ L) : ErO C a L
theorem ErO.mono {L M : Lg} (h : ErO C a L) (s : ∀ e ∈ L, e ∈ M) : ErO C a M := by
  cases h with
  | own m md => exact .own (s _ m) (s _ md)
  | bare m => exact .bare (s _ m)
theorem ErO.inst {P : Program} {w : World} {H : Hp} {h : Heap} (o : ErO C a L) (hH : Has H L) (hok : HOk P w H h) : ∃ oe od, PySem.W.InstAt h a oe C od := by
  cases o with
  | own m md =>
    obtain ⟨oe, od, _, J, _⟩ := exo_inst hok (hH.get m) (hH.get md)
    exact ⟨_, _, J⟩
  | bare m =>
    obtain ⟨oe, J⟩ := exN_inst hok (hH.get m)
    exact ⟨_, _, J⟩
theorem gc_isO (T : ErV X.K C) (o : ErO C a L) (kc : ClsV c cv) (k : PySem.W.kitOne X.K (.ref C) cv = some b) (q : Q (.bl b) L) : GC X (.builtin "isinstance") [.ref a, c] L Q := fun pins s σ H us hH I r => by
  cases r with
  | cons rx rr =>
    cases rr with
    | cons rt rr =>
      cases rr
      obtain rfl : _ = Value.ref a := rx
      have ec := kc.eq rt
      subst ec
      obtain ⟨oe, od, J⟩ := o.inst hH I.hok
      exact PySem.W.kia_one T.kit I.kIn ⟨_, _, J⟩ k (fun z => nomatch z) fun tk => ⟨.bl b, H, I.kept (t' := tk) fun _ _ z => z, rfl, L, hH, q⟩
theorem gat_exo (T : ErV X.K C) (hno : PySem.W.findIn X.K (.ref C) n = some none) (m : (a, exo a C (some dd)) ∈ L) (md : (dd, exd dd fs) ∈ L) (l : fs.lookup n = some v) (q : Q v L) : GAt X n (.ref a) L Q := fun pins s σ H u ex hH I r => by
  obtain rfl : u = Value.ref a := r
  obtain ⟨oe, od, mA, J, hl, hr⟩ := exo_inst I.hok (hH.get m) (hH.get md)
  obtain ⟨u, hu, ru⟩ := RelO.some_of (v := v) (o := mA n) (by rw [← l]; exact hr n)
  exact HandSPX.exc_get I.kIn J T.ga T.gt T.ex (PySem.W.findObj_own T.hd hno rfl (by rw [hl, hu])) (handed_of ru) ⟨v, H, I.tok _, ru, L, hH, q⟩
end
/-- two values the other way about -/
def sw2 {α : Type} : List α → List α
  | [a, b] => [b, a]
  | l => l
theorem sw2_vals : ∀ (vs : List V) (us : List Value), Vals vs us → Vals (sw2 vs) (sw2 us)
  | _, _, .nil => .nil
  | _, _, .cons a .nil => .cons a .nil
  | _, _, .cons a (.cons b .nil) => .cons b (.cons a .nil)
  | _, _, .cons a (.cons b (.cons c r)) => .cons a (.cons b (.cons c r))
section
variable {P : Program} {w : World} {K : PySem.W.Frag} {mg : Str → Option Value} {base : Heap} {x q : Str} {st : Stmt} {C fI c cc : Addr} {n m : Str}
variable {nm qn : Str} {N : Addr} {bs bm : List Value} {sn : List Str} {sub : List Value} {ab : Bool} {col : Option Bool} {dd : Option Addr} {k0 k1 k2 k3 k5 : Option Value} {oc kV doc pm ct cl ccl : Value} {od an cld cdd : Option Addr} {osl csl ccs : Array (Option Value)} {vs : Array Value} {fl : Str} {tf : Tok} {cd : ClassData}
variable {p0 p1 p2 p3 p4 p5 p6 q0 q1 q2 q3 r0 r1 r2 r3 : Pos} {pa0 : Arg}
theorem err_w1 {h : Heap} (n : Str) (X : K.In h) (G : h.Ns mainGlobals mg) (A : ErrAll P K mg) (F : ErrFacts P K x q st C fI c cc nm qn N bs bm sn sub ab col dd k0 k1 k2 k3 k5 oc kV doc pm ct cl ccl od an cld cdd osl csl ccs vs fl tf cd) (no : PySem.W.findIn K (.ref C) n = some none)
    (S : NScope ["self", n, "__class__"] ["self", n] ["__class__"] (defScope st))
    (eb : defBody st = [.Expr (.Call (.Attribute (.Call (.Name "super" p0) [] [] p1) "__init__" p2) [.Name n p3] [] p4) p5, .Assign [.Attribute (.Name "self" q0) n q1] (.Name n q2) q3])
    (hp : ((defArgs st).posonlyargs ++ (defArgs st).args).head? = some pa0) (h0 : pa0.arg = "self") (hks : (defScope st).names.lookup ("super" : Str) = some .globalImplicit)
    (hint : ∀ L, interactive (envF (nfS "__init__" q st cc c) fI L) = false)
    (hsw1 : ∀ L, swapsWith (.Call (.Attribute (.Call (.Name "super" p0) [] [] p1) "__init__" p2) [.Name n p3] [] p4) none p5.line (envF (nfS "__init__" q st cc c) fI L) = pure false)
    (hev : ∀ L, ∃ pl : Sem Bool, eval (.Call (.Attribute (.Call (.Name "super" p0) [] [] p1) "__init__" p2) [.Name n p3] [] p4) (envF (nfS "__init__" q st cc c) fI L) = (do
      let ov ← attributeBase (.Call (.Name "super" p0) [] [] p1) "__init__" (envF (nfS "__init__" q st cc c) fI L) (eval (.Call (.Name "super" p0) [] [] p1) (envF (nfS "__init__" q st cc c) fI L))
      standAt p2.atName
      let (ff, first) ← holding [ov] (getMethod ov "__init__" pl)
      callWith p4 ff first (backTo p4 (starEach [.Name n p3] (envF (nfS "__init__" q st cc c) fI L))) []))
    (hsw2 : ∀ L, swapsWith (.Name n q2) (some (.Attribute (.Name "self" q0) n q1)) q3.line (envF (nfS "__init__" q st cc c) fI L) = pure false) (hdb : (n == ("__debug__" : Str)) = false) (hcd : (n == ("__classdict__" : Str)) = false)
    (hb : ∀ (y : Value) (us : List Value), us.length = 1 → bindArgs (PySem.W.fnX "__init__" q (defArgs st) (defBody st) (defScope st) [("__class__", cc)] .none kV doc pm an (.ref c) ct) ⟨y :: us, []⟩ = pure ((["self", n] : List Str).zip (y :: us)))
    (hk : ∀ (y : Value) (us : List Value), us.length = 1 → bindArgs (PySem.W.fnX "__init__" q (defArgs st) (defBody st) (defScope st) [("__class__", cc)] .none kV doc pm an (.ref c) ct) ⟨y :: [], [n].zip us⟩ = pure ((["self", n] : List Str).zip (y :: id us))) : ErrW P w K mg base x C [n] argsP id ∧ ErrW P w K mg base x C [n] (argsK 0 [n]) id := by
  have N1 : ∀ m ∈ [n], PySem.W.findIn K (.ref C) m = some none := fun m hm => by
    rw [List.mem_singleton.mp hm]
    exact no
  have EK := F.errK (ns := [n]) X G A.op A.su N1
  exact ⟨⟨fI, _, EK, err1_ok (F.sup A.top) EK S eb hp h0 hks hint hsw1 hev hsw2 hdb hcd, fun y us hl => hb y us hl⟩, ⟨fI, _, EK, err1_ok (F.sup A.top) EK S eb hp h0 hks hint hsw1 hev hsw2 hdb hcd, fun y us hl => hk y us hl⟩⟩
theorem err_w2 {h : Heap} (n m : Str) (X : K.In h) (G : h.Ns mainGlobals mg) (A : ErrAll P K mg) (F : ErrFacts P K x q st C fI c cc nm qn N bs bm sn sub ab col dd k0 k1 k2 k3 k5 oc kV doc pm ct cl ccl od an cld cdd osl csl ccs vs fl tf cd) (no : PySem.W.findIn K (.ref C) n = some none) (no2 : PySem.W.findIn K (.ref C) m = some none)
    (S : NScope ["self", n, m, "__class__"] ["self", n, m] ["__class__"] (defScope st))
    (eb : defBody st = [.Expr (.Call (.Attribute (.Call (.Name "super" p0) [] [] p1) "__init__" p2) [.Name n p3, .Name m p6] [] p4) p5, .Assign [.Attribute (.Name "self" q0) n q1] (.Name n q2) q3, .Assign [.Attribute (.Name "self" r0) m r1] (.Name m r2) r3])
    (hp : ((defArgs st).posonlyargs ++ (defArgs st).args).head? = some pa0) (h0 : pa0.arg = "self") (hks : (defScope st).names.lookup ("super" : Str) = some .globalImplicit)
    (hint : ∀ L, interactive (envF (nfS "__init__" q st cc c) fI L) = false)
    (hsw1 : ∀ L, swapsWith (.Call (.Attribute (.Call (.Name "super" p0) [] [] p1) "__init__" p2) [.Name n p3, .Name m p6] [] p4) none p5.line (envF (nfS "__init__" q st cc c) fI L) = pure false)
    (hev : ∀ L, ∃ pl : Sem Bool, eval (.Call (.Attribute (.Call (.Name "super" p0) [] [] p1) "__init__" p2) [.Name n p3, .Name m p6] [] p4) (envF (nfS "__init__" q st cc c) fI L) = (do
      let ov ← attributeBase (.Call (.Name "super" p0) [] [] p1) "__init__" (envF (nfS "__init__" q st cc c) fI L) (eval (.Call (.Name "super" p0) [] [] p1) (envF (nfS "__init__" q st cc c) fI L))
      standAt p2.atName
      let (ff, first) ← holding [ov] (getMethod ov "__init__" pl)
      callWith p4 ff first (backTo p4 (starEach [.Name n p3, .Name m p6] (envF (nfS "__init__" q st cc c) fI L))) []))
    (hsw2 : ∀ L, swapsWith (.Name n q2) (some (.Attribute (.Name "self" q0) n q1)) q3.line (envF (nfS "__init__" q st cc c) fI L) = pure false) (hsw3 : ∀ L, swapsWith (.Name m r2) (some (.Attribute (.Name "self" r0) m r1)) r3.line (envF (nfS "__init__" q st cc c) fI L) = pure false)
    (hdb : (n == ("__debug__" : Str)) = false) (hcd : (n == ("__classdict__" : Str)) = false) (mdb : (m == ("__debug__" : Str)) = false) (mcd : (m == ("__classdict__" : Str)) = false)
    (hb : ∀ (y : Value) (us : List Value), us.length = 2 → bindArgs (PySem.W.fnX "__init__" q (defArgs st) (defBody st) (defScope st) [("__class__", cc)] .none kV doc pm an (.ref c) ct) ⟨y :: us, []⟩ = pure ((["self", n, m] : List Str).zip (y :: us)))
    (hk : ∀ (y : Value) (us : List Value), us.length = 2 → bindArgs (PySem.W.fnX "__init__" q (defArgs st) (defBody st) (defScope st) [("__class__", cc)] .none kV doc pm an (.ref c) ct) ⟨y :: [], [m, n].zip us⟩ = pure ((["self", n, m] : List Str).zip (y :: sw2 us))) : ErrW P w K mg base x C [n, m] argsP id ∧ ErrW P w K mg base x C [n, m] (argsK 0 [m, n]) sw2 := by
  have N1 : ∀ y ∈ [n, m], PySem.W.findIn K (.ref C) y = some none := fun y hy => by
    rcases List.mem_cons.mp hy with rfl | hy
    · exact no
    · rw [List.mem_singleton.mp hy]
      exact no2
  have EK := F.errK (ns := [n, m]) X G A.op A.su N1
  exact ⟨⟨fI, _, EK, err2_ok (F.sup A.top) EK S eb hp h0 hks hint hsw1 hev hsw2 hsw3 hdb hcd mdb mcd, fun y us hl => hb y us hl⟩, ⟨fI, _, EK, err2_ok (F.sup A.top) EK S eb hp h0 hks hint hsw1 hev hsw2 hsw3 hdb hcd mdb mcd, fun y us hl => hk y us hl⟩⟩
end
section
variable {X : Cx} {η : En} {L : Lg} {Q : QV} {k : Str} {ek ev : Expr} {pos : Pos}
/-- {k: v}, k a text -/
theorem ge_disp1 (h : ∀ p, GE X ek η ((p, .dK []) :: L) fun x L1 => GE X ev η L1 fun y L2 => L2 = (p, .dK []) :: L ∧ x = .str k ∧ Q (.ref p) ((p, .dK [(.inr k, y)]) :: L)) : GE X (.Dict [some ek] [ev] pos) η L Q := fun hN H hH =>
  WE.of (pe_disp (pps_cons pe_W pe_W pps_nil) rfl rfl (by simp) (Nat.le_of_ble_eq_true rfl)) fun p hp => (h p).then hN (hH.new hp) fun x L1 H1 h1 q => q.then hN h1 fun y L2 H2 h2 ⟨e2, ex, q2⟩ => by
    subst e2 ex
    exact ⟨h2.get mem0, [(.inr k, y)], rfl, Nat.le_of_ble_eq_true rfl, _, h2.swap .here, q2⟩
end
section
variable {X : Cx} {η : En} {L : Lg} {Q : QV} {j : Nat} {x : Str} {C : Addr} {ns ks : List Str} {pmU : List Value → List Value} {pmV : List V → List V} {e : Expr} {es : List Expr} {kws : List Keyword} {pos p1 : Pos}
/-- an own error class called, by position -/
theorem ge_err (T : ErrW X.prog X.w X.K X.mg X.base x C ns argsP id) (hr : RoomG j X.A) (h : GA X (e :: es) η L fun vs L1 => vs.length = ns.length ∧ ∀ a d, Q (.ref a) ((a, exo a C (some d)) :: (d, exd d (ns.zip vs).reverse) :: L1)) (hz : ns.length ≤ 900 := by decide) (hj : 2 ≤ j := by decide) (hg : Gl X x := by rfl) (hd : (x == ("__debug__" : Str)) = false := by decide)
    (he : starEach (e :: es) X.env = (false, eval e X.env) :: starEach es X.env := by rfl) (hpl : (backTo pos (starEach es X.env)).any (·.1) = false := by rfl) : GE X (.Call (.Name x p1) (e :: es) [] pos) η L Q := by
  obtain ⟨fI, fd, G, -, -⟩ := id T.ex
  exact ge_callF G.gC G.T.kC (fun _ => gf_err (pmV := id) T (fun _ _ r => r) (fun us => Nat.le_refl _) hr hj) (h.imp fun vs L1 q => ⟨q.1, q.1, hz, q.2⟩) hg hd he hpl
/-- by names alone -/
theorem ge_errK (T : ErrW X.prog X.w X.K X.mg X.base x C ns (argsK 0 ks) pmU) (hpm : ∀ vs us, Vals vs us → Vals (pmV vs) (pmU us)) (hr : RoomG j X.A) (h : GK X kws η L fun vs L1 => vs.length = ns.length ∧ (pmV vs).length = ns.length ∧ ns.length ≤ 900 ∧ ∀ a d, Q (.ref a) ((a, exo a C (some d)) :: (d, exd d (ns.zip (pmV vs)).reverse) :: L1)) (hj : 2 ≤ j := by decide)
    (hks : (backToKw pos (keywordEach kws X.env)).filterMap (·.1) = ks := by rfl) (hall : (backToKw pos (keywordEach kws X.env)).all (·.1.isSome) = true := by rfl) (hg : Gl X x := by rfl) (hd : (x == ("__debug__" : Str)) = false := by decide)
    (hpl : ((backTo pos (starEach [] X.env)).any (·.1) || (backToKw pos (keywordEach kws X.env)).any (·.1.isNone)) = false := by rfl) : GE X (.Call (.Name x p1) [] kws pos) η L Q := by
  obtain ⟨fI, fd, G, -, -⟩ := id T.ex
  exact ge_kw0 (ks := ks) G.gC G.T.kC (fun _ => gf_err (pmV := pmV) T hpm (fun us => by show (us.take 0).length ≤ _; rw [List.take_zero]; exact Nat.zero_le _) hr hj) h hks hall hg hd hpl
theorem ge_errN (T : ErrN X.K X.mg x C) (h : GA X (e :: es) η L fun vs L1 => vs.length ≤ 900 ∧ ∀ a, Q (.ref a) ((a, ExO (.ref C) a) :: L1)) (hg : Gl X x := by rfl) (hd : (x == ("__debug__" : Str)) = false := by decide)
    (he : starEach (e :: es) X.env = (false, eval e X.env) :: starEach es X.env := by rfl) (hpl : (backTo pos (starEach es X.env)).any (·.1) = false := by rfl) : GE X (.Call (.Name x p1) (e :: es) [] pos) η L Q := ge_callF T.gC T.kC (fun _ => gf_errN T) h hg hd he hpl
theorem ge_errN0 (T : ErrN X.K X.mg x C) (h : ∀ a, Q (.ref a) ((a, ExO (.ref C) a) :: L)) (hg : Gl X x := by rfl) (hd : (x == ("__debug__" : Str)) = false := by decide) : GE X (.Call (.Name x p1) [] [] pos) η L Q := ge_callF0 T.gC T.kC (fun _ => gf_errN T) ⟨Nat.zero_le _, h⟩ hg hd
end
end G

set_option Elab.async false
set_option linter.all false
set_option maxRecDepth 100000
set_option maxHeartbeats 4000000
/-! Values shown that may hold dicts: lists known to lie apart from sys.modules. -/
namespace G
open PySem PySem.Spec PyProof.Rows L2
section
variable {X : Cx} {η : En} {L : Lg} {Q : QV} {es : List Expr} {pos : Pos}
theorem ge_lstN (h : GA X es η L fun xs L1 => xs.length ≤ sizeLine ∧ ∀ p, p ≠ sysModules → Q (.ref p) ((p, .lst xs) :: L1)) : GE X (.List es pos) η L Q := fun hN H hH pins s I => by
  refine wpAny_List_spliced (thn (h hN H hH pos pins s I) fun us s1 ⟨xs, H1, I1, r, L1, h1, z, q⟩ => ⟨by rw [← r.length]; exact z, ?_⟩)
  have hf : H1 s1.heap.objs.size = none := I1.hok.fresh (Nat.le_refl _)
  exact ⟨.ref s1.heap.objs.size, upd H1 s1.heap.objs.size (.lst xs), I1.laid (t' := s1.toks) (fun b u e => Heap.get?_push_of_some _ e) (Nat.le_refl _) ⟨z, us, 0, r, Heap.get?_push_size _ rfl⟩, rfl, _, h1.new hf, q _ (Nat.ne_of_gt I1.big)⟩
end
/-- v is the value d, read without sys.modules -/
def RdS (L : Lg) (v : V) (d : PyData) : Prop := ∀ (X : Cx) (pins : List (Addr × Obj)) (σ : L2.St) (H : Hp) (s : Shared) (u : Value), Has H L → Inv X pins σ H s → RelV v u → ∃ as, Reads s.heap u d as ∧ sysModules ∉ as
section
variable {L : Lg} {v : V} {d : PyData} {p : Addr} {x : Str} {i : Int} {vs : List V} {ds : List PyData}
theorem RdS.rd (h : RdS L v d) : Rd L v d := fun X pins σ H s u hH I r => by
  obtain ⟨as, q, n⟩ := h X pins σ H s u hH I r
  exact ⟨as, q, fun _ => n⟩
theorem RdS.sub {M : Lg} (s : Sub L M) (h : RdS L v d) : RdS M v d := fun X pins σ H s' u hH I r => h X pins σ H s' u (s H hH) I r
theorem rds_non : RdS L .non .none := fun _ _ _ _ _ u _ _ r => by
  obtain rfl : u = Value.none := r
  exact ⟨[], .none, by simp⟩
theorem rds_bl {b : Bool} : RdS L (.bl b) (.bool b) := fun _ _ _ _ _ u _ _ r => by
  obtain rfl : u = Value.bool b := r
  exact ⟨[], .bool b, by simp⟩
theorem rds_int : RdS L (.int i) (.int i) := fun _ _ _ _ _ u _ _ r => by
  obtain ⟨t, rfl⟩ := (show ∃ t, u = Value.int i t from r)
  exact ⟨[], .int i t, by simp⟩
theorem rds_str : RdS L (.str x) (.str x) := fun _ _ _ _ _ u _ _ r => by
  obtain ⟨t, rfl⟩ := (show ∃ t, u = Value.str x t from r)
  exact ⟨[], .str x t, by simp⟩
/-- values in a row -/
inductive RdA (L : Lg) : List V → List PyData → Prop
  | nil : RdA L [] []
  | cons {v : V} {d : PyData} {vs : List V} {ds : List PyData} (h : RdS L v d) (r : RdA L vs ds) : RdA L (v :: vs) (d :: ds)
theorem RdA.run {X : Cx} {pins : List (Addr × Obj)} {σ : L2.St} {H : Hp} {s : Shared} (hH : Has H L) (I : Inv X pins σ H s) : ∀ {vs : List V} {ds : List PyData} {us : List Value}, RdA L vs ds → Vals vs us → ∃ as, ReadsAll s.heap us ds as ∧ sysModules ∉ as
  | _, _, _, .nil, .nil => ⟨[], .nil, by simp⟩
  | _, _, _, .cons h r, .cons q t => by
    obtain ⟨as, a1, a2⟩ := h X pins σ H s _ hH I q
    obtain ⟨bs, b1, b2⟩ := r.run hH I t
    exact ⟨as ++ bs, .cons a1 b1, by simp [a2, b2]⟩
theorem rds_lst (m : (p, HO.lst vs) ∈ L) (ne : p ≠ sysModules) (h : RdA L vs ds) : RdS L (.ref p) (.list ds) := fun X pins σ H s u hH I r => by
  obtain rfl : u = Value.ref p := r
  obtain ⟨z, us, n, rv, g⟩ := I.hok p _ (hH.get m)
  obtain ⟨as, a1, a2⟩ := h.run hH I rv
  exact ⟨p :: as, .list g rfl rfl a1, by simp [a2, Ne.symm ne]⟩
theorem rds_tup (m : (p, HO.tup vs) ∈ L) (h : RdA L vs ds) : RdS L (.ref p) (.tuple ds) := fun X pins σ H s u hH I r => by
  obtain rfl : u = Value.ref p := r
  obtain ⟨z, us, rv, o, g, g1, n, g2⟩ := I.hok p _ (hH.get m)
  obtain ⟨as, a1, a2⟩ := h.run hH I rv
  exact ⟨as, .tuple g g1 g2 a1, a2⟩
end
theorem rds_of {L : Lg} {v : V} {d : PyData} (h : Rd L v d) (n : d.hasDict = true) : RdS L v d := fun X pins σ H s u hH I r => by
  obtain ⟨as, q, k⟩ := h X pins σ H s u hH I r
  exact ⟨as, q, k n⟩
/-- a value that is shown, alone or in a list -/
structure OddS (L : Lg) (v : V) (d : PyData) : Prop where
  o : Odd L v d
  r : RdS L v d
  dp : d.depth ≤ 10
theorem OddS.drop {L : Lg} {v : V} {d : PyData} {a : Addr × HO} (h : OddS L v d) : OddS (a :: L) v d := ⟨h.o.drop, h.r.sub Sub.drop, h.dp⟩
theorem OddS.app {L : Lg} {v : V} {d : PyData} : ∀ (l : Lg), OddS L v d → OddS (l ++ L) v d
  | [], h => h
  | a :: l, h => (OddS.app l h).drop
/-- a comprehension of whose turns none keeps anything -/
theorem lc_none {X : Cx} {L : Lg} {Q : QV} {f : V → En} {scope : Scope} {c elt : Expr} {S : Src} (hE : ∀ i x E, S.item i x E → E = []) (kp : ∀ M, (∀ e ∈ L, e ∈ M) → S.keep M)
    (turn : ∀ (D : Addr) i x, i < S.n → S.item i x [] → AllBlk X scope fun B => GT B c (f x) ((D, .lst []) :: L) fun b M1 => b = false ∧ Sub ((D, .lst []) :: L) M1) (q : ∀ D, Q (.ref D) ((D, .lst []) :: L)) (D : Addr) :
    ∃ Pv, LcS X scope [c] elt S D L (fun v M k => k (f v) M) Pv (drp Q) :=
  ⟨fun _ M => Sub ((D, .lst []) :: L) M, Sub.refl, fun i M _ nd s => kp M fun e m => (s.to nd).2 e (List.mem_cons_of_mem _ m), fun i x E M hi it nd s => by
    obtain rfl := hE i x E it
    intro s1 H1 C1 cl1 fp1
    refine GT.sub s ((turn D i x hi it s1 H1 C1 cl1 fp1).imp fun b M1 ⟨e, s2⟩ => ?_)
    subst e
    exact s2, fun M s => ⟨_, s, q D⟩⟩
/-- it, as a value -/
theorem ge_lcNone {X : Cx} {η : En} {L : Lg} {Q : QV} {f : V → En} {scope : Scope} {c elt iter : Expr} {x : Str} {p1 pos : Pos} (P : PutF x η f)
    (h : GI X (.Name x p1) iter η L fun S L1 => (∀ i x E, S.item i x E → E = []) ∧ (∀ M, (∀ e ∈ L1, e ∈ M) → S.keep M) ∧ (∀ (D : Addr) i x, i < S.n → S.item i x [] → AllBlk X scope fun B => GT B c (f x) ((D, .lst []) :: L1) fun b M1 => b = false ∧ Sub ((D, .lst []) :: L1) M1) ∧ ∀ D, Q (.ref D) ((D, .lst []) :: L1))
    (hb : blkC X.N X.env.scope scope [(x, X.N.idxOf x)] = true) (hlx : LocB X scope x := by exact fun _ _ _ _ _ => ⟨.inl rfl, .inr rfl⟩)
    (hN : X.N.Nodup := by assumption) (hc : X.calm = true := by rfl) (hs : ∀ z, foldedSetIterable iter X.env z = pure z := by intro _; rfl) : GE X (.ListComp elt [⟨.Name x p1, iter, [c], 0⟩] scope pos) η L Q :=
  GE.undrp (ge_lc1 P (h.imp fun S L1 ⟨a, b, t, q⟩ D => lc_none a b t q D) hb hlx hN hc hs)
/-- repr of a list of two such values -/
theorem gb_repr2 {X : Cx} {η : En} {L : Lg} {Q : QV} {e : Expr} {p pos : Pos} {k : Nat} (B : Bi X.mg) (hr : RoomG k X.A)
    (h : GE X e η L fun v L1 => ∃ a v1 v2 d1 d2, v = .ref a ∧ a ≠ sysModules ∧ (a, HO.lst [v1, v2]) ∈ L1 ∧ OddS L1 v1 d1 ∧ OddS L1 v2 d2 ∧ Q (.str (PyData.list [d1, d2]).shown) L1) (hg : Gl X "repr" := by rfl) (hs : starEach [e] X.env = (false, eval e X.env) :: starEach [] X.env := by rfl) :
    GE X (.Call (.Name "repr" p) [e] [] pos) η L Q :=
  gb_reprS B hr (h.imp fun v L1 ⟨a, v1, v2, d1, d2, ev, ne, m, o1, o2, q⟩ => ⟨.list [d1, d2], 100000 * 2 + 2 * 2 + 3, 10 + 1, ev ▸ (rds_lst m ne (.cons o1.r (.cons o2.r .nil))).rd, sh_list (n := 100000) (k := 10) (m := 2) (fun x hx => by
    rcases List.mem_cons.mp hx with rfl | hx
    · exact ⟨o1.o.s, o1.dp, o1.o.sz⟩
    · rw [List.mem_singleton.mp hx]
      exact ⟨o2.o.s, o2.dp, o2.o.sz⟩) (Nat.le_refl _), by decide, szL (by decide), q⟩) hg hs
end G
/-! ### 11. The walk as tactics -/
local macro_rules | `(tactic| tm_at "g_at") => `(tactic| first | with_reducible apply G.At.here | (with_reducible apply G.At.there; tm_at "g_at"))
local macro_rules | `(tactic| tm_at "g_put") => `(tactic| first | with_reducible apply G.PutF.here | (with_reducible apply G.PutF.there; tm_at "g_put"))
local macro_rules | `(tactic| tm_at "g_pv") => `(tactic| first | with_reducible apply G.Put.here | (with_reducible apply G.Put.there; tm_at "g_pv"))
local macro_rules | `(tactic| tm_at "g_mem") => `(tactic| first | with_reducible apply G.mem0 | (with_reducible apply G.memS; tm_at "g_mem") | (with_reducible apply G.memR; tm_at "g_mem") | with_reducible assumption)
local macro_rules | `(tactic| tm_at "g_memd") => `(tactic| first | apply G.mem0 | (apply G.memS; tm_at "g_memd") | (with_reducible apply G.memR; tm_at "g_memd"))
local macro_rules | `(tactic| tm_at "g_swap") => `(tactic| first | ((with_reducible apply G.Swap.here); rfl) | with_reducible assumption | ((with_reducible apply G.Swap.there); tm_at "g_swap") | ((with_reducible apply G.Swap.right); tm_at "g_swap"))
/-- one step at an expression -/
local macro_rules | `(tactic| tm_at "g_e") => `(tactic| first
  | ((with_reducible show G.GE _ (PySem.Expr.Name _ _) _ _ _); first
    | refine G.ge_var (by tm_at "g_at") ?_
    | ((with_reducible show G.GE _ (PySem.Expr.Name "int" _) _ _ _); refine G.gv_int (by assumption) ?_)
    | ((with_reducible show G.GE _ (PySem.Expr.Name "bool" _) _ _ _); refine G.gv_bool (by assumption) ?_)
    | ((with_reducible show G.GE _ (PySem.Expr.Name "tuple" _) _ _ _); refine G.gv_tuple (by assumption) ?_)
    | ((with_reducible show G.GE _ (PySem.Expr.Name "list" _) _ _ _); refine G.gv_list (by assumption) ?_)
    | ((with_reducible show G.GE _ (PySem.Expr.Name "str" _) _ _ _); refine G.gv_str (by assumption) ?_)
    | ((with_reducible show G.GE _ (PySem.Expr.Name "ValueError" _) _ _ _); refine G.gv_ValueError (by assumption) ?_)
    | ((with_reducible show G.GE _ (PySem.Expr.Name "LookupError" _) _ _ _); refine G.gv_LookupError (by assumption) ?_))
  | ((with_reducible show G.GE _ (PySem.Expr.Constant (PySem.Const.int _) _ _) _ _ _); refine G.ge_int ?_)
  | ((with_reducible show G.GE _ (PySem.Expr.Constant (PySem.Const.bool _) _ _) _ _ _); refine G.ge_bl ?_)
  | ((with_reducible show G.GE _ (PySem.Expr.Constant PySem.Const.none _ _) _ _ _); refine G.ge_non ?_)
  | ((with_reducible show G.GE _ (PySem.Expr.Constant (PySem.Const.str _) _ _) _ _ _); refine G.ge_str ?_)
  | ((with_reducible show G.GE _ (PySem.Expr.BinOp _ _ _ _) _ _ _); refine G.ge_bin ?_)
  | ((with_reducible show G.GE _ (PySem.Expr.UnaryOp PySem.UnaryOp.Not _ _) _ _ _); refine G.ge_not ?_)
  | ((with_reducible show G.GE _ (PySem.Expr.UnaryOp _ _ _) _ _ _); refine G.ge_un ?_)
  | ((with_reducible show G.GE _ (PySem.Expr.Compare _ _ _ _) _ _ _); refine G.ge_cmp ?_)
  | ((with_reducible show G.GE _ (PySem.Expr.Compare _ [_, _] _ _) _ _ _); refine G.ge_chain ?_)
  | ((with_reducible show G.GE _ (PySem.Expr.Attribute _ _ _) _ _ _); refine G.ge_attr ?_)
  | ((with_reducible show G.GE _ (PySem.Expr.BoolOp _ [_] _) _ _ _); refine G.ge_one ?_)
  | ((with_reducible show G.GE _ (PySem.Expr.BoolOp PySem.BoolOp.And _ _) _ _ _); refine G.ge_and ?_)
  | ((with_reducible show G.GE _ (PySem.Expr.BoolOp PySem.BoolOp.Or _ _) _ _ _); refine G.ge_or ?_)
  | ((with_reducible show G.GE _ (PySem.Expr.IfExp _ _ _ _) _ _ _); refine G.ge_if ?_)
  | ((with_reducible show G.GE _ (PySem.Expr.Tuple _ _ _) _ _ _); refine G.ge_tup ?_)
  | ((with_reducible show G.GE _ (PySem.Expr.List _ _) _ _ _); refine G.ge_lst ?_)
  | ((with_reducible show G.GE _ (PySem.Expr.Subscript _ (PySem.Expr.Slice _ _ none _) _) _ _ _); refine G.ge_sliceL ?_)
  | ((with_reducible show G.GE _ (PySem.Expr.Subscript _ _ _) _ _ _); refine G.ge_ix ?_)
  | ((with_reducible show G.GE _ (PySem.Expr.Dict [] [] _) _ _ _); refine G.ge_dict0 (fun p => ?_))
  | ((with_reducible show G.GE _ (PySem.Expr.Call (PySem.Expr.Attribute _ "append" _) _ _ _) _ _ _); refine G.ge_append ?_)
  | ((with_reducible show G.GE _ (PySem.Expr.Call (PySem.Expr.Name "len" _) _ _ _) _ _ _); refine G.gb_len (by assumption) ?_)
  | ((with_reducible show G.GE _ (PySem.Expr.Call (PySem.Expr.Name "sorted" _) _ _ _) _ _ _); refine G.gb_sorted (by assumption) ?_)
  | ((with_reducible show G.GE _ (PySem.Expr.Call (PySem.Expr.Name "abs" _) _ _ _) _ _ _); refine G.gb_abs (by assumption) ?_)
  | ((with_reducible show G.GE _ (PySem.Expr.Call (PySem.Expr.Name "min" _) _ _ _) _ _ _); refine G.gb_min (by assumption) ?_)
  | ((with_reducible show G.GE _ (PySem.Expr.Call (PySem.Expr.Name "isinstance" _) _ _ _) _ _ _); refine G.gb_isinstance (by assumption) ?_)
  | ((with_reducible show G.GE _ (PySem.Expr.Call (PySem.Expr.Name "int" _) _ _ _) _ _ _); refine G.gb_int (by assumption) ?_)
  | ((with_reducible show G.GE _ (PySem.Expr.Call (PySem.Expr.Name "list" _) _ _ _) _ _ _); refine G.gb_list (by assumption) ?_)
  | ((with_reducible show G.GE _ (PySem.Expr.Call (PySem.Expr.Name "tuple" _) _ _ _) _ _ _); refine G.gb_tuple (by assumption) ?_)
  | ((with_reducible show G.GE _ (PySem.Expr.Call (PySem.Expr.Name "bool" _) _ _ _) _ _ _); refine G.gb_bool (by assumption) ?_)
  | ((with_reducible show G.GE _ (PySem.Expr.Call (PySem.Expr.Name "str" _) _ _ _) _ _ _); refine G.gb_str (by assumption) ?_))
local macro_rules | `(tactic| tm_at "g_t") => `(tactic| first
  | ((with_reducible show G.GT _ (PySem.Expr.Compare _ [_] _ _) _ _ _); refine G.gt_cmp ?_)
  | ((with_reducible show G.GT _ (PySem.Expr.Compare _ [_, _] _ _) _ _ _); refine G.gt_chain ?_)
  | ((with_reducible show G.GT _ (PySem.Expr.UnaryOp PySem.UnaryOp.Not _ _) _ _ _); refine G.gt_not ?_)
  | ((with_reducible show G.GT _ (PySem.Expr.BoolOp _ _ _) _ _ _); refine G.gt_w ?_)
  | ((with_reducible show G.GW _ (PySem.Expr.BoolOp PySem.BoolOp.And [_] _) _ _ _); refine G.gw_and1 ?_)
  | ((with_reducible show G.GW _ (PySem.Expr.BoolOp PySem.BoolOp.Or [_] _) _ _ _); refine G.gw_or1 ?_)
  | ((with_reducible show G.GW _ (PySem.Expr.BoolOp PySem.BoolOp.And _ _) _ _ _); refine G.gw_and ?_)
  | ((with_reducible show G.GW _ (PySem.Expr.BoolOp PySem.BoolOp.Or _ _) _ _ _); refine G.gw_or ?_)
  | refine G.gt_val ?_)
local macro_rules | `(tactic| tm_at "g_op") => `(tactic| first
  | ((with_reducible show G.GOp _ (PySem.binaryOp PySem.Operator.Add) (L2.V.int _) (L2.V.int _) _ _); refine G.go_add ?_)
  | ((with_reducible show G.GOp _ (PySem.binaryOp PySem.Operator.Sub) (L2.V.int _) (L2.V.int _) _ _); refine G.go_sub ?_)
  | ((with_reducible show G.GOp _ (PySem.compareOp PySem.CmpOp.Lt) (L2.V.int _) (L2.V.int _) _ _); refine G.go_lt ?_)
  | ((with_reducible show G.GOp _ (PySem.compareOp PySem.CmpOp.LtE) (L2.V.int _) (L2.V.int _) _ _); refine G.go_le ?_)
  | ((with_reducible show G.GOp _ (PySem.compareOp PySem.CmpOp.Gt) (L2.V.int _) (L2.V.int _) _ _); refine G.go_gt ?_)
  | ((with_reducible show G.GOp _ (PySem.compareOp PySem.CmpOp.GtE) (L2.V.int _) (L2.V.int _) _ _); refine G.go_ge ?_)
  | ((with_reducible show G.GOp _ (PySem.compareOp PySem.CmpOp.Eq) (L2.V.int _) (L2.V.int _) _ _); refine G.go_eq ?_)
  | ((with_reducible show G.GOp _ (PySem.compareOp PySem.CmpOp.NotEq) (L2.V.int _) (L2.V.int _) _ _); refine G.go_ne ?_)
  | ((with_reducible show G.GOp _ (PySem.compareOp PySem.CmpOp.Is) (L2.V.int _) L2.V.non _ _); refine G.isN_int ?_)
  | ((with_reducible show G.GOp _ (PySem.compareOp PySem.CmpOp.Is) (L2.V.ref _) L2.V.non _ _); refine G.isN_ref ?_)
  | ((with_reducible show G.GOp _ (PySem.compareOp PySem.CmpOp.Is) L2.V.non L2.V.non _ _); refine G.isN_non ?_)
  | ((with_reducible show G.GOp _ (PySem.compareOp PySem.CmpOp.IsNot) (L2.V.int _) L2.V.non _ _); refine G.notN_int ?_)
  | ((with_reducible show G.GOp _ (PySem.compareOp PySem.CmpOp.IsNot) (L2.V.ref _) L2.V.non _ _); refine G.notN_ref ?_)
  | ((with_reducible show G.GOp _ (PySem.compareOp PySem.CmpOp.IsNot) L2.V.non L2.V.non _ _); refine G.notN_non ?_))
local macro_rules | `(tactic| tm_at "g_c") => `(tactic| first
  | ((with_reducible show G.GC _ (PySem.Value.type "int") [L2.V.int _] _ _); refine G.gc_int ?_)
  | ((with_reducible show G.GC _ (PySem.Value.type "int") [L2.V.bl _] _ _); refine G.gc_intB ?_)
  | ((with_reducible show G.GC _ (PySem.Value.builtin "abs") _ _ _); refine G.gc_abs ?_)
  | ((with_reducible show G.GC _ (PySem.Value.builtin "len") _ _ _); first | refine G.gc_lenL (by tm_at "g_mem") ?_ | refine G.gc_lenT (by tm_at "g_mem") ?_)
  | ((with_reducible show G.GC _ (PySem.Value.builtin "min") [L2.V.int _, L2.V.int _] _ _); refine G.gc_min2 rfl ?_))
local macro_rules | `(tactic| tm_at "g_o") => `(tactic| first
  | ((with_reducible show G.GOp _ _ _ _ _ _); tm_at "g_op")
  | ((with_reducible show G.GUn _ (PySem.unaryOp PySem.UnaryOp.USub) (L2.V.int _) _ _); refine G.gu_neg ?_)
  | ((with_reducible show G.GC _ _ _ _ _); tm_at "g_c")
  | ((with_reducible show G.GIx _ _ _ _ _); first | refine G.gi_lst (by tm_at "g_mem") (by exact rfl) ?_ | refine G.gi_tup (by tm_at "g_mem") (by exact rfl) ?_)
  | ((with_reducible show G.GSt _ _ (L2.V.int 0) _ _ _); refine G.gst_30 (by tm_at "g_mem") (by tm_at "g_swap") ?_)
  | ((with_reducible show G.GSt _ _ (L2.V.int 1) _ _ _); refine G.gst_31 (by tm_at "g_mem") (by tm_at "g_swap") ?_)
  | ((with_reducible show G.GSt _ _ (L2.V.int 2) _ _ _); refine G.gst_32 (by tm_at "g_mem") (by tm_at "g_swap") ?_)
  | ((with_reducible show G.GAt _ _ _ _ _); refine G.gat_fldA (by tm_at "g_mem") (by assumption) (by assumption) (by exact rfl) ?_)
  | ((with_reducible show G.GIp _ PySem.Operator.Add (L2.V.int _) (L2.V.int _) _ _); refine G.gp_add ?_)
  | ((with_reducible show G.GIp _ PySem.Operator.Sub (L2.V.int _) (L2.V.int _) _ _); refine G.gp_sub ?_))
local macro_rules | `(tactic| tm_at "g_s") => `(tactic| first
  | ((with_reducible show G.GS _ (PySem.Stmt.Assign [PySem.Expr.Name _ _] _ _) _ _ _); refine G.gs_set (by tm_at "g_put") ?_)
  | ((with_reducible show G.GS _ (PySem.Stmt.Assign [PySem.Expr.Tuple [PySem.Expr.Name _ _, PySem.Expr.Name _ _] _ _] (PySem.Expr.Tuple _ _ _) _) _ _ _); refine G.gs_par (by tm_at "g_put") (fun _ => by tm_at "g_put") ?_)
  | ((with_reducible show G.GS _ (PySem.Stmt.Assign [PySem.Expr.Tuple [PySem.Expr.Name _ _, PySem.Expr.Name _ _, PySem.Expr.Name _ _] _ _] (PySem.Expr.Tuple _ _ _) _) _ _ _); refine G.gs_par3 (by tm_at "g_put") (fun _ => by tm_at "g_put") (fun _ _ => by tm_at "g_put") ?_)
  | ((with_reducible show G.GS _ (PySem.Stmt.Assign [PySem.Expr.Tuple _ _ _] _ _) _ _ _); refine G.gs_asg ?_)
  | ((with_reducible show G.GS _ (PySem.Stmt.Assign [PySem.Expr.Subscript _ _ _] _ _) _ _ _); refine G.gs_asg ?_)
  | ((with_reducible show G.GS _ (PySem.Stmt.Assign [PySem.Expr.Attribute _ _ _] _ _) _ _ _); refine G.gs_fld ?_)
  | ((with_reducible show G.GS _ (PySem.Stmt.AugAssign _ _ _ _) _ _ _); refine G.gs_aug (by tm_at "g_at") (by tm_at "g_put") ?_)
  | ((with_reducible show G.GS _ (PySem.Stmt.Return (some _) _) _ _ _); refine G.gs_ret ?_)
  | ((with_reducible show G.GS _ (PySem.Stmt.Return none _) _ _ _); refine G.gs_retN ?_)
  | ((with_reducible show G.GS _ (PySem.Stmt.Expr _ _) _ _ _); refine G.gs_expr ?_)
  | ((with_reducible show G.GS _ (PySem.Stmt.Pass _) _ _ _); refine G.gs_pass ?_)
  | ((with_reducible show G.GS _ (PySem.Stmt.Break _) _ _ _); refine G.gs_break ?_)
  | ((with_reducible show G.GS _ (PySem.Stmt.Continue _) _ _ _); refine G.gs_continue ?_))
local macro_rules | `(tactic| tm_at "g_g") => `(tactic| first
  | ((with_reducible show G.GG _ (PySem.Expr.Name _ _) _ _ _ _); refine G.gg_name (by tm_at "g_pv") ?_)
  | ((with_reducible show G.GG _ (PySem.Expr.Tuple _ _ _) _ _ _ _); refine G.gg_tup (by tm_at "g_mem") ?_)
  | ((with_reducible show G.GG _ (PySem.Expr.Subscript _ _ _) _ _ _ _); refine G.gg_sub ?_))
local macro_rules | `(tactic| tm_at "g_i") => `(tactic| first
  | ((with_reducible show (if true = true then _ else _)); refine G.ite_t ?_)
  | ((with_reducible show (if false = true then _ else _)); refine G.ite_f ?_)
  | ((with_reducible show (if (!true) = true then _ else _)); refine G.ite_nt ?_)
  | ((with_reducible show (if (!false) = true then _ else _)); refine G.ite_nf ?_)
  | ((with_reducible show ∃ _, _ = _ ∧ _); with_reducible refine ⟨_, rfl, ?_⟩)
  | ((with_reducible show ∃ _ _, _ = _ ∧ _); with_reducible refine ⟨_, _, rfl, ?_⟩)
  | ((with_reducible show ∃ _ _ _, _ = _ ∧ _); with_reducible refine ⟨_, _, _, rfl, ?_⟩)
  | ((with_reducible show ∃ _ _, _ = _ ∧ _ ∈ _ ∧ _); refine ⟨_, _, rfl, (by tm_at "g_mem"), ?_⟩)
  | ((with_reducible show ∃ _ _, _ ∈ _ ∧ _ < _ ∧ _); refine ⟨_, _, (by tm_at "g_mem"), (by exact G.sz_lt (by simp only [List.length_append, List.length_cons, List.length_nil, List.length_map]; omega)), (by tm_at "g_swap"), ?_⟩)
  | ((with_reducible show _ ∧ _); refine ⟨(by tm_at "g_size"), fun p => ?_⟩))
local macro_rules | `(tactic| tm_at "g_sub") => `(tactic| first | with_reducible apply G.Sub.refl | (refine G.Sub.trans ?_ G.Sub.drop; tm_at "g_sub"))
local macro_rules | `(tactic| tm_at "g_subl") => `(tactic| first | with_reducible exact List.Sublist.refl _ | with_reducible apply List.Sublist.cons_cons | with_reducible apply List.Sublist.cons)
local macro_rules | `(tactic| tm_at "g_end") => `(tactic| (refine G.Sub.sublist ?_; repeat (first | with_reducible exact List.Sublist.refl _ | with_reducible apply List.Sublist.cons_cons | with_reducible apply List.Sublist.cons | with_reducible apply G.subl_app)))
local macro_rules | `(tactic| tm_at "g_br") => `(tactic| first | with_reducible apply G.br0 | with_reducible apply G.br1 | with_reducible apply G.br2 | with_reducible apply G.br3 | with_reducible apply G.br4 | with_reducible apply G.br5 | with_reducible apply G.br6)
local macro_rules | `(tactic| tm_at "g_len") => `(tactic| (intro vs L Q E h; repeat (first | (obtain ⟨e, _⟩ := h; subst e; rfl) | (obtain ⟨_, h⟩ := h))))
local macro_rules | `(tactic| tm_at "g_size") => `(tactic| first | exact G.sz1 | exact G.sz2 | exact G.sz3 | exact G.sz_le (n := 0) (by decide) | exact G.sz_le (n := 4) (by decide) | exact G.sz_le (n := 5) (by decide) | exact G.sz_le (n := 6) (by decide) | exact G.sz_le (n := 7) (by decide) | exact G.sz_le (n := 8) (by decide) | exact G.sz_le (by first | decide | omega | (simp only [List.length_append, List.length_cons, List.length_nil, List.length_map]; omega)))
/-- all steps but a test's -/
local macro_rules | `(tactic| tm_at "gx1") => `(tactic| first
  | ((with_reducible show G.GSs _ (_ :: _) _ _ _); refine G.gss_cons ?_)
  | ((with_reducible show G.GSs _ [] _ _ _); refine G.gss_nil ?_)
  | ((with_reducible show G.GA _ (PySem.Expr.Starred _ _ :: _) _ _ _); refine G.ga_star ?_)
  | ((with_reducible show G.GA _ (_ :: _) _ _ _); refine G.ga_cons ?_)
  | ((with_reducible show G.GA _ [] _ _ _); refine G.ga_nil ?_)
  | ((with_reducible show G.GK _ (_ :: _) _ _ _); refine G.gk_cons ?_)
  | ((with_reducible show G.GK _ [] _ _ _); refine G.gk_nil ?_)
  | ((with_reducible show G.GE _ _ _ _ _); tm_at "g_e")
  | ((with_reducible show G.GT _ _ _ _ _); tm_at "g_t")
  | ((with_reducible show G.GW _ _ _ _ _); tm_at "g_t")
  | ((with_reducible show G.GS _ _ _ _ _); tm_at "g_s")
  | ((with_reducible show G.GG _ _ _ _ _ _); tm_at "g_g")
  | ((with_reducible show G.GGs _ (_ :: _) _ _ _ _); refine G.ggs_cons ?_)
  | ((with_reducible show G.GGs _ [] _ _ _ _); refine G.ggs_nil ?_)
  | tm_at "g_o"
  | tm_at "g_i")
local macro_rules | `(tactic| tm_at "g1") => `(tactic| first
  | ((with_reducible show G.GS _ (PySem.Stmt.If _ _ _ _) _ _ _); refine G.gs_if ?_)
  | tm_at "gx1")
local macro_rules | `(tactic| tm_at "g") => `(tactic| repeat (tm_at "g1"; try dsimp only [G.bodyD]))
local macro_rules | `(tactic| tm_at "gx") => `(tactic| repeat (tm_at "gx1"; try dsimp only [G.bodyD]))
local macro_rules | `(tactic| tm_at "g_rot") => `(tactic| first | with_reducible apply G.Sub.refl | (with_reducible apply G.rotStep; tm_at "g_rot") | (with_reducible apply G.rotApp; tm_at "g_rot"))
/-- what a draw is shown of; then intro d n m d0 d1 a0 a1 a2 -/
local macro_rules | `(tactic| tm_at "g_dr") => `(tactic| refine ⟨_, _, _, _, _, _, _, rfl, by tm_at "g_rot", by assumption, by omega, by omega, by omega, by omega, by omega, ?_⟩)
local macro_rules | `(tactic| tm_at "g_draw") => `(tactic| (refine G.ge_call (El := G.NoX) (by assumption) (by assumption) G.passA ?_; tm_at "g"; tm_at "g_dr"))
/-- what a pick is shown of; then intro k x n m hx a0 a1 a2 -/
local macro_rules | `(tactic| tm_at "g_pk") => `(tactic| refine ⟨_, _, _, _, _, _, _, _, rfl, by tm_at "g_rot", by tm_at "g_mem", by assumption, by first | exact Nat.le_of_ble_eq_true rfl | (simp only [List.length_append, List.length_cons, List.length_nil, List.length_map]; omega), by first | exact Nat.le_of_ble_eq_true rfl | (simp only [List.length_append, List.length_cons, List.length_nil, List.length_map]; omega), by omega, by omega, by omega, ?_⟩)
namespace T
open PySem PySem.Spec PyProof.Rows L2 G
def top (i : Nat) : Stmt := PySem.Challenge.pw_wheelreach_k01_errors_keep_their_fields.main.body.getD i (.Pass ⟨0, 0, 0, 0⟩)
abbrev s_BadNumber_init : Stmt := clsAt (top 2) 0
abbrev N_BadNumber_init : List Str := ["self", "value", "__class__"]
theorem sc_BadNumber_init : NdefX.NScope N_BadNumber_init ["self", "value"] ["__class__"] (defScope s_BadNumber_init) := NdefX.nscope_by (by decide +kernel)
abbrev s_BadLot_init : Stmt := clsAt (top 3) 0
abbrev N_BadLot_init : List Str := ["self", "part", "__class__"]
theorem sc_BadLot_init : NdefX.NScope N_BadLot_init ["self", "part"] ["__class__"] (defScope s_BadLot_init) := NdefX.nscope_by (by decide +kernel)
abbrev s_BadWheel_init : Stmt := clsAt (top 4) 0
abbrev N_BadWheel_init : List Str := ["self", "part", "__class__"]
theorem sc_BadWheel_init : NdefX.NScope N_BadWheel_init ["self", "part"] ["__class__"] (defScope s_BadWheel_init) := NdefX.nscope_by (by decide +kernel)
abbrev s_BadMeter_init : Stmt := clsAt (top 5) 0
abbrev N_BadMeter_init : List Str := ["self", "part", "__class__"]
theorem sc_BadMeter_init : NdefX.NScope N_BadMeter_init ["self", "part"] ["__class__"] (defScope s_BadMeter_init) := NdefX.nscope_by (by decide +kernel)
abbrev s_BadMark_init : Stmt := clsAt (top 6) 0
abbrev N_BadMark_init : List Str := ["self", "at", "__class__"]
theorem sc_BadMark_init : NdefX.NScope N_BadMark_init ["self", "at"] ["__class__"] (defScope s_BadMark_init) := NdefX.nscope_by (by decide +kernel)
abbrev s_BadValue_init : Stmt := clsAt (top 7) 0
abbrev N_BadValue_init : List Str := ["self", "value", "__class__"]
theorem sc_BadValue_init : NdefX.NScope N_BadValue_init ["self", "value"] ["__class__"] (defScope s_BadValue_init) := NdefX.nscope_by (by decide +kernel)
abbrev s_BadGear_init : Stmt := clsAt (top 8) 0
abbrev N_BadGear_init : List Str := ["self", "at", "__class__"]
theorem sc_BadGear_init : NdefX.NScope N_BadGear_init ["self", "at"] ["__class__"] (defScope s_BadGear_init) := NdefX.nscope_by (by decide +kernel)
abbrev s_BadShelf_init : Stmt := clsAt (top 9) 0
abbrev N_BadShelf_init : List Str := ["self", "part", "__class__"]
theorem sc_BadShelf_init : NdefX.NScope N_BadShelf_init ["self", "part"] ["__class__"] (defScope s_BadShelf_init) := NdefX.nscope_by (by decide +kernel)
abbrev s_BadLog_init : Stmt := clsAt (top 10) 0
abbrev N_BadLog_init : List Str := ["self", "at", "__class__"]
theorem sc_BadLog_init : NdefX.NScope N_BadLog_init ["self", "at"] ["__class__"] (defScope s_BadLog_init) := NdefX.nscope_by (by decide +kernel)
abbrev s_BadFollower_init : Stmt := clsAt (top 11) 0
abbrev N_BadFollower_init : List Str := ["self", "part", "__class__"]
theorem sc_BadFollower_init : NdefX.NScope N_BadFollower_init ["self", "part"] ["__class__"] (defScope s_BadFollower_init) := NdefX.nscope_by (by decide +kernel)
abbrev s_BadDeed_init : Stmt := clsAt (top 12) 0
abbrev N_BadDeed_init : List Str := ["self", "at", "__class__"]
theorem sc_BadDeed_init : NdefX.NScope N_BadDeed_init ["self", "at"] ["__class__"] (defScope s_BadDeed_init) := NdefX.nscope_by (by decide +kernel)
abbrev s_BadText_init : Stmt := clsAt (top 13) 0
abbrev N_BadText_init : List Str := ["self", "line", "word", "__class__"]
theorem sc_BadText_init : NdefX.NScope N_BadText_init ["self", "line", "word"] ["__class__"] (defScope s_BadText_init) := NdefX.nscope_by (by decide +kernel)
abbrev s_BadLine_init : Stmt := clsAt (top 14) 0
abbrev N_BadLine_init : List Str := ["self", "word", "__class__"]
theorem sc_BadLine_init : NdefX.NScope N_BadLine_init ["self", "word"] ["__class__"] (defScope s_BadLine_init) := NdefX.nscope_by (by decide +kernel)
abbrev s_NoName_init : Stmt := clsAt (top 16) 0
abbrev N_NoName_init : List Str := ["self", "name", "__class__"]
theorem sc_NoName_init : NdefX.NScope N_NoName_init ["self", "name"] ["__class__"] (defScope s_NoName_init) := NdefX.nscope_by (by decide +kernel)
abbrev s_NoPlace_init : Stmt := clsAt (top 17) 0
abbrev N_NoPlace_init : List Str := ["self", "at", "__class__"]
theorem sc_NoPlace_init : NdefX.NScope N_NoPlace_init ["self", "at"] ["__class__"] (defScope s_NoPlace_init) := NdefX.nscope_by (by decide +kernel)
abbrev s_Unlike_init : Stmt := clsAt (top 18) 0
abbrev N_Unlike_init : List Str := ["self", "part", "__class__"]
theorem sc_Unlike_init : NdefX.NScope N_Unlike_init ["self", "part"] ["__class__"] (defScope s_Unlike_init) := NdefX.nscope_by (by decide +kernel)
abbrev s_TooMany_init : Stmt := clsAt (top 21) 0
abbrev N_TooMany_init : List Str := ["self", "what", "most", "__class__"]
theorem sc_TooMany_init : NdefX.NScope N_TooMany_init ["self", "what", "most"] ["__class__"] (defScope s_TooMany_init) := NdefX.nscope_by (by decide +kernel)
abbrev s_law_pen : Stmt := top 23
abbrev N_law_pen : List Str := ["_law_script"]
theorem sc_law_pen : FnScope N_law_pen ["_law_script"] (defScope s_law_pen) := ⟨rfl, rfl, rfl, by decide +kernel, rfl, by decide +kernel, by decide +kernel⟩
abbrev s_law_draw : Stmt := top 24
abbrev N_law_draw : List Str := ["_law_pen_here", "_law_many", "_law_digit", "_law_begun", "_law_raw", "_law_great", "_law_stirred"]
theorem sc_law_draw : FnScope N_law_draw ["_law_pen_here", "_law_many"] (defScope s_law_draw) := ⟨rfl, rfl, rfl, by decide +kernel, rfl, by decide +kernel, by decide +kernel⟩
abbrev s_law_pick : Stmt := top 25
abbrev N_law_pick : List Str := ["_law_pen_here", "_law_some"]
theorem sc_law_pick : FnScope N_law_pick ["_law_pen_here", "_law_some"] (defScope s_law_pick) := ⟨rfl, rfl, rfl, by decide +kernel, rfl, by decide +kernel, by decide +kernel⟩
abbrev s_law_thing : Stmt := top 26
abbrev N_law_thing : List Str := ["_law_pen_here", "_law_some"]
theorem sc_law_thing : FnScope N_law_thing ["_law_pen_here"] (defScope s_law_thing) := ⟨rfl, rfl, rfl, by decide +kernel, rfl, by decide +kernel, by decide +kernel⟩
abbrev s_law_classes : Stmt := top 27
abbrev N_law_classes : List Str := ["_law_error", "_law_found"]
theorem sc_law_classes : FnScope N_law_classes ["_law_error"] (defScope s_law_classes) := ⟨rfl, rfl, rfl, by decide +kernel, rfl, by decide +kernel, by decide +kernel⟩
abbrev s_law_parted : Stmt := top 28
abbrev N_law_parted : List Str := ["_law_one", "_law_found"]
theorem sc_law_parted : FnScope N_law_parted ["_law_one"] (defScope s_law_parted) := ⟨rfl, rfl, rfl, by decide +kernel, rfl, by decide +kernel, by decide +kernel⟩
abbrev s_law_placed : Stmt := top 29
abbrev N_law_placed : List Str := ["_law_one", "_law_found"]
theorem sc_law_placed : FnScope N_law_placed ["_law_one"] (defScope s_law_placed) := ⟨rfl, rfl, rfl, by decide +kernel, rfl, by decide +kernel, by decide +kernel⟩
abbrev s_law_two_right : Stmt := top 30
abbrev N_law_two_right : List Str := ["_law_one", "_law_two", "_law_pages", "_law_bounds", "_law_error"]
theorem sc_law_two_right : FnScope N_law_two_right ["_law_one", "_law_two"] (defScope s_law_two_right) := ⟨rfl, rfl, rfl, by decide +kernel, rfl, by decide +kernel, by decide +kernel⟩
abbrev s_law : Stmt := top 31
abbrev N_law : List Str := ["_law_script", "_law_pen_here", "_law_turn", "_law_one", "_law_two", "_law_valued", "_law_named", "_law_lines", "_law_rows", "_law_spot", "_law_error", "_law_number"]
theorem sc_law : FnScope N_law ["_law_script"] (defScope s_law) := ⟨rfl, rfl, rfl, by decide +kernel, rfl, by decide +kernel, by decide +kernel⟩
/-! ### the pen -/
section
variable {P : Program} {w : World} {K : PySem.W.Frag} {mg : Str → Option Value} {base : Heap}
theorem fn_law_pen (B : Bi mg) (F : Df K mg "_law_pen" s_law_pen) : Fn P w K mg base CX0 "_law_pen" 1 (fun vs L Q _ => ∃ (a : Addr) (ns : List Int), vs = [.ref a] ∧ InL K L a (ns.map V.int) ∧ ∀ p c ms, ms.length ≤ 63 → Q (.ref p) ((p, penO c 0 0) :: (c, celO ms) :: L)) := by
  refine fn_plain F sc_law_pen (fun _ _ _ _ _ _ us hl => match us, hl with | [_], _ => rfl) (by decide) (by tm_at "g_len") ?_
  intro X f cdv A outer s H E0 L vs Q E hX nd hr h
  subst hX
  obtain ⟨a, ns, rfl, hi, q⟩ := h
  show GSs _ (defBody s_law_pen) (bodyD Q) [("_law_script", some (.ref a))] L
  refine gss_cons ?_
  tm_at "g"
  refine ⟨a, ns.map V.int, rfl, ?_⟩
  show GE _ _ _ _ _
  tm_at "g"
  refine ⟨hi, fun q1 => ?_⟩
  obtain ⟨ms, hm, em⟩ := cut63 (ns := ns)
  rw [em]
  tm_at "g"
  refine gc_list mem0 fun c => ?_
  tm_at "g"

  exact ⟨_, Sub.sublist (((List.sublist_cons_self _ _).cons_cons _).cons_cons _), q _ c ms hm⟩
theorem fn_law_draw (B : Bi mg) (F : Df K mg "_law_draw" s_law_draw) : Fn P w K mg base CX0 "_law_draw" 1 spDraw := by
  refine fn_plain F sc_law_draw (fun _ _ _ _ _ _ us hl => match us, hl with | [_, _], _ => rfl) (by decide) (by tm_at "g_len") ?_
  intro X f cdv A outer s H E0 L vs Q E hX nd hr h
  subst hX
  obtain ⟨p, c, ns, n, m, many, R, rfl, sb, h63, k1, k2, n0, n1, m0, q⟩ := h
  refine GSs.sub sb ?_
  show GSs _ (defBody s_law_draw) (bodyD Q) [("_law_pen_here", some (.ref p)), ("_law_many", some (.int many)), ("_law_digit", none), ("_law_begun", none), ("_law_raw", none), ("_law_great", none), ("_law_stirred", none)] _
  refine gss_cons ?_
  tm_at "g"
  refine ite_d (fun hm => ?_) (fun hm => ?_)
  · tm_at "g"
    refine go_modR k1 fun d d0 d1 => ?_
    tm_at "g"
    refine go_divS k1 k2 ?_
    tm_at "g"
    exact ⟨_, Sub.refl, q d n (m / many) d0 d1 n0 (by omega) (Int.ediv_nonneg m0 (by omega))⟩
  tm_at "g"
  refine go_mulS (.inl (by decide)) ?_
  tm_at "gx"
  refine GS.cut (fun θ M => ∃ r : Int, θ = ([("_law_pen_here", some (.ref p)), ("_law_many", some (.int many)), ("_law_digit", none), ("_law_begun", some (.int n)), ("_law_raw", some (.int r)), ("_law_great", none), ("_law_stirred", none)] : En) ∧ Sub ((p, penO c (n + 1) m) :: (c, celO ns) :: R) M) ?_ ?_
  · tm_at "g"
    refine go_neD (d := .list (ns.map PyData.int)) (e := .list ([].map PyData.int)) hr.toRoom (dl_lst (by tm_at "g_mem") dls_ints) (dl_lst (by tm_at "g_mem") dls_nil) (shapedL _) (shapedL _) ?_
    rw [eqvL]
    tm_at "g"
    refine ite_n (fun hz => ?_) (fun hz => ?_)
    · tm_at "g"
      have hp : 0 < (ns.length : Int) := by
        cases ns with
        | nil => exact absurd rfl hz
        | cons a r => rw [List.length_cons]; omega
      rw [List.length_map]
      refine go_modR hp fun d d0 d1 => ?_
      obtain ⟨k, rfl⟩ : ∃ k : Nat, d = (k : Int) := ⟨d.toNat, by omega⟩
      have hk : k < ns.length := by omega
      refine gi_lst (by tm_at "g_mem") (atI_nat (v := .int ns[k]) (by rw [List.getElem?_map, List.getElem?_eq_getElem hk] <;> rfl)) ?_
      tm_at "g"
      tm_at "g_sub"
    · tm_at "g"
      tm_at "g_sub"
  rintro θ M ⟨raw, rfl, hs⟩
  refine GSs.sub hs ?_
  tm_at "gx"
  refine gs_if (GT.imp (Q := fun k M => M = (p, penO c (n + 1) m) :: (c, celO ns) :: R ∧ (k = true → 1000000000000000000 ≤ (raw.natAbs : Int))) ?_ ?_)
  · tm_at "g"
    refine ite_d (fun _ => ?_) (fun _ => ⟨rfl, fun z => nomatch z⟩)
    tm_at "g"
    refine go_powL (r := 1000000000000000000) ⟨by decide, by decide, by decide⟩ (by decide) ?_
    tm_at "g"
    exact ⟨rfl, fun z => of_decide_eq_true z⟩
  rintro k M ⟨rfl, hk⟩
  refine ite_b (fun e => ?_) (fun e => ?_)
  · have hr1 := hk e
    tm_at "g"
    refine go_powL (r := 1000000000000000000) ⟨by decide, by decide, by decide⟩ (by decide) ?_
    tm_at "g"
    refine go_mulS (.inl (by decide)) ?_
    tm_at "g"
    have g0 : 0 ≤ 2 * ((raw.natAbs : Int) - 1000000000000000000) + (if (decide (raw < 0)) = true then 1 else 0) := by split <;> omega
    refine go_divS k1 k2 ?_
    tm_at "g"
    refine go_modR k1 fun d d0 d1 => ?_
    tm_at "g"
    exact ⟨_, Sub.refl, q d (n + 1) _ d0 d1 (by omega) (by omega) (Int.ediv_nonneg g0 (by omega))⟩
  tm_at "g"
  refine go_modR (by decide) fun a a0 a1 => ?_
  tm_at "g"
  refine go_mulS (.inl (by decide)) ?_
  tm_at "g"
  refine go_powR ⟨by decide, by decide, by omega⟩ fun b => ?_
  tm_at "g"
  refine go_modR (by decide) fun s s0 s1 => ?_
  tm_at "g"
  refine go_mulS (.inl (by decide)) ?_
  tm_at "g"
  have b1 := bnd (t := 2 * n + 527) (B := 200000 + 527) s0 (Int.le_of_lt s1) (by omega) (by omega)
  refine go_mulS (.inl (by omega)) ?_
  tm_at "g"
  refine go_mulS (.inl (by decide)) ?_
  tm_at "g"
  have b2 := bnd (s := 40182 * n) (t := n) (A := 40182 * 100000) (B := 100000) (by omega) (by omega) n0 n1
  refine go_mulS (.inl (by omega)) ?_
  tm_at "g"
  refine go_powR ⟨by decide, by decide, by omega⟩ fun b => ?_
  tm_at "g"
  refine go_modR (by decide) fun s' s0' s1' => ?_
  tm_at "g"
  refine go_divS (by decide) (by decide) ?_
  tm_at "g"
  refine go_modR k1 fun d d0 d1 => ?_
  tm_at "g"
  exact ⟨_, Sub.refl, q d (n + 1) m d0 d1 (by omega) (by omega) m0⟩
end
section
variable {P : Program} {w : World} {K : PySem.W.Frag} {mg : Str → Option Value} {base : Heap} {C D : Addr}
theorem fn_law_pick (B : Bi mg) (F : Df K mg "_law_pick" s_law_pick) (D1 : Fn P w K mg base CX0 "_law_draw" 1 spDraw) : Fn P w K mg base CX0 "_law_pick" 2 spPick := by
  refine fn_plain F sc_law_pick (fun _ _ _ _ _ _ us hl => match us, hl with | [_, _], _ => rfl) (by decide) (by tm_at "g_len") ?_
  intro X f cdv A outer s H E0 L vs Q E hX nd hr h
  subst hX
  obtain ⟨p, c, q, ns, xs, n, m, R, rfl, sb, mq, h63, l0, l1, n0, n1, m0, qq⟩ := h
  refine GSs.sub sb ?_
  show GSs _ (defBody s_law_pick) (bodyD Q) [("_law_pen_here", some (.ref p)), ("_law_some", some (.ref q))] _
  refine gss_cons ?_
  tm_at "g"
  refine ge_call (El := NoX) D1 hr passA ?_
  tm_at "g"
  refine ⟨p, c, ns, n, m, xs.length, R, rfl, Sub.refl, h63, by omega, by omega, n0, n1, m0, fun d n' m' d0 d1 a0 a1 a2 => ?_⟩
  obtain ⟨k, rfl⟩ : ∃ k : Nat, d = (k : Int) := ⟨d.toNat, by omega⟩
  have hk : k < xs.length := by omega
  refine gi_lst (memS (memS mq)) (atI_nat (v := xs[k]) (List.getElem?_eq_getElem hk)) ?_
  tm_at "g"
  exact ⟨_, Sub.refl, qq k _ n' m' (List.getElem?_eq_getElem hk) a0 a1 a2⟩
end
/-! ### what each error is of -/
def clsN : List Str := ["BadNumber", "BadValue", "BadLot", "BadWheel", "BadMeter", "BadShelf", "BadFollower", "Unlike", "BadMark", "BadGear", "BadLog", "BadDeed", "NoPlace", "NoName", "BadLine", "BadText", "TooMany", "NoMember", "Unfit", "Nothing"]
structure Tops (mg : Str → Option Value) (D : Nat → Addr) : Prop where
  g : ∀ i n, clsN[i]? = some n → mg n = some (.ref (D i))
structure Tells (K : PySem.W.Frag) (D : Nat → Addr) (C : Addr) (b : Nat → Bool) : Prop where
  ev : ErV K C
  k : ∀ i, i < 20 → PySem.W.kitOne K (.ref C) (.ref (D i)) = some (b i)
abbrev bls (b : Nat → Bool) (n : Nat) : List V := (List.range n).map fun i => V.bl (b i)
def spCls (K : PySem.W.Frag) (D : Nat → Addr) : SpL := fun vs L Q _ => ∃ a C b, vs = [.ref a] ∧ ErO C a L ∧ Tells K D C b ∧ ∀ t, Q (.ref t) ((t, .lst (bls b 20)) :: L)
section
variable {P : Program} {w : World} {K : PySem.W.Frag} {mg : Str → Option Value} {base : Heap} {D : Nat → Addr}
theorem fn_law_classes (B : Bi mg) (G : Tops mg D) (F : Df K mg "_law_classes" s_law_classes) : Fn P w K mg base CX0 "_law_classes" 2 (spCls K D) := by
  refine fn_plain F sc_law_classes (fun _ _ _ _ _ _ us hl => match us, hl with | [_], _ => rfl) (by decide) (by tm_at "g_len") ?_
  intro X f cdv A outer s H E0 L vs Q E hX nd hr h
  subst hX
  obtain ⟨a, C, b, rfl, o, T, q⟩ := h
  show GSs _ (defBody s_law_classes) (bodyD Q) [("_law_error", some (.ref a)), ("_law_found", none)] L
  refine gss_cons ?_
  tm_at "g"
  refine gv_def (G.g 0 _ rfl) ?_
  tm_at "g"
  refine gc_isO T.ev (o.mono fun e m => by repeat (first | exact m | apply List.mem_cons_of_mem)) (.own _) (T.k 0 (by decide)) ?_
  tm_at "g"
  refine gv_def (G.g 1 _ rfl) ?_
  tm_at "g"
  refine gc_isO T.ev (o.mono fun e m => by repeat (first | exact m | apply List.mem_cons_of_mem)) (.own _) (T.k 1 (by decide)) ?_
  tm_at "g"
  refine gv_def (G.g 2 _ rfl) ?_
  tm_at "g"
  refine gc_isO T.ev (o.mono fun e m => by repeat (first | exact m | apply List.mem_cons_of_mem)) (.own _) (T.k 2 (by decide)) ?_
  tm_at "g"
  refine gv_def (G.g 3 _ rfl) ?_
  tm_at "g"
  refine gc_isO T.ev (o.mono fun e m => by repeat (first | exact m | apply List.mem_cons_of_mem)) (.own _) (T.k 3 (by decide)) ?_
  tm_at "g"
  refine gv_def (G.g 4 _ rfl) ?_
  tm_at "g"
  refine gc_isO T.ev (o.mono fun e m => by repeat (first | exact m | apply List.mem_cons_of_mem)) (.own _) (T.k 4 (by decide)) ?_
  tm_at "g"
  refine gv_def (G.g 5 _ rfl) ?_
  tm_at "g"
  refine gc_isO T.ev (o.mono fun e m => by repeat (first | exact m | apply List.mem_cons_of_mem)) (.own _) (T.k 5 (by decide)) ?_
  tm_at "g"
  refine go_cat (by tm_at "g_mem") (by tm_at "g_mem") (szL (Nat.le_of_ble_eq_true rfl)) fun r5 => ?_
  tm_at "g"
  refine gv_def (G.g 6 _ rfl) ?_
  tm_at "g"
  refine gc_isO T.ev (o.mono fun e m => by repeat (first | exact m | apply List.mem_cons_of_mem)) (.own _) (T.k 6 (by decide)) ?_
  tm_at "g"
  refine gv_def (G.g 7 _ rfl) ?_
  tm_at "g"
  refine gc_isO T.ev (o.mono fun e m => by repeat (first | exact m | apply List.mem_cons_of_mem)) (.own _) (T.k 7 (by decide)) ?_
  tm_at "g"
  refine gv_def (G.g 8 _ rfl) ?_
  tm_at "g"
  refine gc_isO T.ev (o.mono fun e m => by repeat (first | exact m | apply List.mem_cons_of_mem)) (.own _) (T.k 8 (by decide)) ?_
  tm_at "g"
  refine go_cat (by tm_at "g_mem") (by tm_at "g_mem") (szL (Nat.le_of_ble_eq_true rfl)) fun r8 => ?_
  tm_at "g"
  refine gv_def (G.g 9 _ rfl) ?_
  tm_at "g"
  refine gc_isO T.ev (o.mono fun e m => by repeat (first | exact m | apply List.mem_cons_of_mem)) (.own _) (T.k 9 (by decide)) ?_
  tm_at "g"
  refine gv_def (G.g 10 _ rfl) ?_
  tm_at "g"
  refine gc_isO T.ev (o.mono fun e m => by repeat (first | exact m | apply List.mem_cons_of_mem)) (.own _) (T.k 10 (by decide)) ?_
  tm_at "g"
  refine gv_def (G.g 11 _ rfl) ?_
  tm_at "g"
  refine gc_isO T.ev (o.mono fun e m => by repeat (first | exact m | apply List.mem_cons_of_mem)) (.own _) (T.k 11 (by decide)) ?_
  tm_at "g"
  refine go_cat (by tm_at "g_mem") (by tm_at "g_mem") (szL (Nat.le_of_ble_eq_true rfl)) fun r11 => ?_
  tm_at "g"
  refine gv_def (G.g 12 _ rfl) ?_
  tm_at "g"
  refine gc_isO T.ev (o.mono fun e m => by repeat (first | exact m | apply List.mem_cons_of_mem)) (.own _) (T.k 12 (by decide)) ?_
  tm_at "g"
  refine gv_def (G.g 13 _ rfl) ?_
  tm_at "g"
  refine gc_isO T.ev (o.mono fun e m => by repeat (first | exact m | apply List.mem_cons_of_mem)) (.own _) (T.k 13 (by decide)) ?_
  tm_at "g"
  refine gv_def (G.g 14 _ rfl) ?_
  tm_at "g"
  refine gc_isO T.ev (o.mono fun e m => by repeat (first | exact m | apply List.mem_cons_of_mem)) (.own _) (T.k 14 (by decide)) ?_
  tm_at "g"
  refine go_cat (by tm_at "g_mem") (by tm_at "g_mem") (szL (Nat.le_of_ble_eq_true rfl)) fun r14 => ?_
  tm_at "g"
  refine gv_def (G.g 15 _ rfl) ?_
  tm_at "g"
  refine gc_isO T.ev (o.mono fun e m => by repeat (first | exact m | apply List.mem_cons_of_mem)) (.own _) (T.k 15 (by decide)) ?_
  tm_at "g"
  refine gv_def (G.g 16 _ rfl) ?_
  tm_at "g"
  refine gc_isO T.ev (o.mono fun e m => by repeat (first | exact m | apply List.mem_cons_of_mem)) (.own _) (T.k 16 (by decide)) ?_
  tm_at "g"
  refine gv_def (G.g 17 _ rfl) ?_
  tm_at "g"
  refine gc_isO T.ev (o.mono fun e m => by repeat (first | exact m | apply List.mem_cons_of_mem)) (.own _) (T.k 17 (by decide)) ?_
  tm_at "g"
  refine go_cat (by tm_at "g_mem") (by tm_at "g_mem") (szL (Nat.le_of_ble_eq_true rfl)) fun r17 => ?_
  tm_at "g"
  refine gv_def (G.g 18 _ rfl) ?_
  tm_at "g"
  refine gc_isO T.ev (o.mono fun e m => by repeat (first | exact m | apply List.mem_cons_of_mem)) (.own _) (T.k 18 (by decide)) ?_
  tm_at "g"
  refine gv_def (G.g 19 _ rfl) ?_
  tm_at "g"
  refine gc_isO T.ev (o.mono fun e m => by repeat (first | exact m | apply List.mem_cons_of_mem)) (.own _) (T.k 19 (by decide)) ?_
  tm_at "g"
  refine go_cat (by tm_at "g_mem") (by tm_at "g_mem") (szL (Nat.le_of_ble_eq_true rfl)) fun r19 => ?_
  tm_at "g"
  exact ⟨_, Sub.keep (e := (r19, HO.lst (bls b 20))) (by repeat (first | exact List.Sublist.refl _ | apply List.Sublist.cons)), q r19⟩
end
/-! ### a drawn value of any kind -/
section
variable {P : Program} {w : World} {K : PySem.W.Frag} {mg : Str → Option Value} {base : Heap} {C D : Addr}
theorem rd_tupD {L : Lg} {p : Addr} {us : List V} {ds : List PyData} (m : (p, HO.tup us) ∈ L) (h : Dls L us ds) (n : (PyData.tuple ds).hasDict = false) : Rd L (.ref p) (.tuple ds) := rd_dl (dl_tup m h) n
theorem odd_of {t0 t1 l0 l1 d0 d1 : Addr} {k : Nat} {v : V} (h : ([.non, .int 0, .int 1, .bl true, .bl false, .str "", .str "wheel 2 0 0", .str "a", .ref t0, .ref t1, .ref l0, .ref l1, .ref d0, .ref d1, .int 100000000000000000000000000000000000000000000000000000000000, .int (-7)] : List V)[k]? = some v) :
    ∃ x, ∀ L : Lg, (t0, HO.tup []) ∈ L → (t1, HO.tup [.int 1, .int 0]) ∈ L → (l0, HO.lst []) ∈ L → (l1, HO.lst [.int 0]) ∈ L → (d0, HO.dK []) ∈ L → (d1, HO.dK [(.inr "x", .int 1)]) ∈ L → l0 ≠ sysModules → l1 ≠ sysModules → OddS L v x := by
  match k, h with
  | 0, h => cases h; exact ⟨.none, fun L m0 m1 m2 m3 m4 m5 n2 n3 => ⟨⟨⟨_, .non⟩, rd_non, by decide +kernel, by decide +kernel, by decide +kernel, by decide +kernel⟩, rds_non, by decide +kernel⟩⟩
  | 1, h => cases h; exact ⟨.int 0, fun L m0 m1 m2 m3 m4 m5 n2 n3 => ⟨⟨⟨_, .int⟩, rd_int, by decide +kernel, by decide +kernel, by decide +kernel, by decide +kernel⟩, rds_int, by decide +kernel⟩⟩
  | 2, h => cases h; exact ⟨.int 1, fun L m0 m1 m2 m3 m4 m5 n2 n3 => ⟨⟨⟨_, .int⟩, rd_int, by decide +kernel, by decide +kernel, by decide +kernel, by decide +kernel⟩, rds_int, by decide +kernel⟩⟩
  | 3, h => cases h; exact ⟨.bool true, fun L m0 m1 m2 m3 m4 m5 n2 n3 => ⟨⟨⟨_, .bl⟩, rd_bl, by decide +kernel, by decide +kernel, by decide +kernel, by decide +kernel⟩, rds_bl, by decide +kernel⟩⟩
  | 4, h => cases h; exact ⟨.bool false, fun L m0 m1 m2 m3 m4 m5 n2 n3 => ⟨⟨⟨_, .bl⟩, rd_bl, by decide +kernel, by decide +kernel, by decide +kernel, by decide +kernel⟩, rds_bl, by decide +kernel⟩⟩
  | 5, h => cases h; exact ⟨.str "", fun L m0 m1 m2 m3 m4 m5 n2 n3 => ⟨⟨⟨_, .str⟩, rd_str, by decide +kernel, by decide +kernel, by decide +kernel, by decide +kernel⟩, rds_str, by decide +kernel⟩⟩
  | 6, h => cases h; exact ⟨.str "wheel 2 0 0", fun L m0 m1 m2 m3 m4 m5 n2 n3 => ⟨⟨⟨_, .str⟩, rd_str, by decide +kernel, by decide +kernel, by decide +kernel, by decide +kernel⟩, rds_str, by decide +kernel⟩⟩
  | 7, h => cases h; exact ⟨.str "a", fun L m0 m1 m2 m3 m4 m5 n2 n3 => ⟨⟨⟨_, .str⟩, rd_str, by decide +kernel, by decide +kernel, by decide +kernel, by decide +kernel⟩, rds_str, by decide +kernel⟩⟩
  | 8, h => cases h; exact ⟨.tuple [], fun L m0 m1 m2 m3 m4 m5 n2 n3 => ⟨⟨⟨_, .tup m0⟩, rd_tupD m0 dls_nil (by decide +kernel), by decide +kernel, by decide +kernel, by decide +kernel, by decide +kernel⟩, rds_tup m0 .nil, by decide +kernel⟩⟩
  | 9, h => cases h; exact ⟨.tuple [.int 1, .int 0], fun L m0 m1 m2 m3 m4 m5 n2 n3 => ⟨⟨⟨_, .tup m1⟩, rd_tupD m1 (dls_ints (ns := [1, 0])) (by decide +kernel), by decide +kernel, by decide +kernel, by decide +kernel, by decide +kernel⟩, rds_tup m1 (.cons rds_int (.cons rds_int .nil)), by decide +kernel⟩⟩
  | 10, h => cases h; exact ⟨.list [], fun L m0 m1 m2 m3 m4 m5 n2 n3 => ⟨⟨⟨_, .lst m2⟩, rd_ints (ns := []) m2, by decide +kernel, by decide +kernel, by decide +kernel, by decide +kernel⟩, rds_lst m2 n2 .nil, by decide +kernel⟩⟩
  | 11, h => cases h; exact ⟨.list [.int 0], fun L m0 m1 m2 m3 m4 m5 n2 n3 => ⟨⟨⟨_, .lst m3⟩, rd_ints (ns := [0]) m3, by decide +kernel, by decide +kernel, by decide +kernel, by decide +kernel⟩, rds_lst m3 n3 (.cons rds_int .nil), by decide +kernel⟩⟩
  | 12, h => cases h; exact ⟨.dict [], fun L m0 m1 m2 m3 m4 m5 n2 n3 => ⟨⟨⟨_, .dct m4⟩, rd_dict0 m4, by decide +kernel, by decide +kernel, by decide +kernel, by decide +kernel⟩, rds_of (rd_dict0 m4) (by decide +kernel), by decide +kernel⟩⟩
  | 13, h => cases h; exact ⟨.dict [(.str "x", .int 1)], fun L m0 m1 m2 m3 m4 m5 n2 n3 => ⟨⟨⟨_, .dct m5⟩, rd_dict1 m5 (fun h u r => by obtain ⟨t, rfl⟩ := (show ∃ t, u = Value.int 1 t from r); exact Reads.int 1 t), by decide +kernel, by decide +kernel, by decide +kernel, by decide +kernel⟩, rds_of (rd_dict1 m5 (fun h u r => by obtain ⟨t, rfl⟩ := (show ∃ t, u = Value.int 1 t from r); exact Reads.int 1 t)) (by decide +kernel), by decide +kernel⟩⟩
  | 14, h => cases h; exact ⟨.int 100000000000000000000000000000000000000000000000000000000000, fun L m0 m1 m2 m3 m4 m5 n2 n3 => ⟨⟨⟨_, .int⟩, rd_int, by decide +kernel, by decide +kernel, by decide +kernel, by decide +kernel⟩, rds_int, by decide +kernel⟩⟩
  | 15, h => cases h; exact ⟨.int (-7), fun L m0 m1 m2 m3 m4 m5 n2 n3 => ⟨⟨⟨_, .int⟩, rd_int, by decide +kernel, by decide +kernel, by decide +kernel, by decide +kernel⟩, rds_int, by decide +kernel⟩⟩
  | k + 16, h => cases h
def spThing : SpL := fun vs L Q _ => ∃ (p c : Addr) (ns : List Int) (n m : Int) (R : Lg), vs = [.ref p] ∧ Sub ((p, penO c n m) :: (c, celO ns) :: R) L ∧ ns.length ≤ 63 ∧ 0 ≤ n ∧ n + 1 ≤ 100000 ∧ 0 ≤ m ∧
  ∀ v d l n' m', OddS l v d → 0 ≤ n' → n' ≤ n + 1 → 0 ≤ m' → Q v ((p, penO c n' m') :: (c, celO ns) :: (l ++ R))
local macro_rules | `(tactic| tm_at "g_e") => `(tactic| ((with_reducible show G.GE _ (PySem.Expr.List _ _) _ _ _); refine G.ge_lstN ?_))
/-- the items of a display, one by one, the others out of sight -/
theorem ga_step {X : Cx} {η : En} {L : Lg} {e : Expr} {es ES : List Expr} {Q : List V → Lg → Prop} (h : ES = e :: es) (k : ∀ T, T = es → GE X e η L fun x L1 => GA X T η L1 fun xs L2 => Q (x :: xs) L2)
    (hs : starEach (e :: es) X.env = (false, eval e X.env) :: starEach es X.env := by intros; rfl) : GA X ES η L Q := h ▸ ga_cons (k es rfl) hs
theorem ga_end {X : Cx} {η : En} {L : Lg} {ES : List Expr} {Q : List V → Lg → Prop} (h : ES = []) (q : Q [] L) : GA X ES η L Q := h ▸ ga_nil q
def lstOf : List Stmt → List Expr
  | .Assign _ (.List es _) _ :: _ => es
  | _ => []
theorem fn_law_thing (B : Bi mg) (F : Df K mg "_law_thing" s_law_thing) (D2 : Fn P w K mg base CX0 "_law_pick" 2 spPick) : Fn P w K mg base CX0 "_law_thing" 3 spThing := by
  refine fn_plain F sc_law_thing (fun _ _ _ _ _ _ us hl => match us, hl with | [_], _ => rfl) (by decide) (by tm_at "g_len") ?_
  intro X f cdv A outer s H E0 L vs Q E hX nd hr h
  subst hX
  obtain ⟨p, c, ns, n, m, R, rfl, sb, h63, n0, n1, m0, q⟩ := h
  with_reducible refine GSs.sub sb ?_
  obtain ⟨ES, hES⟩ : ∃ ES, ES = lstOf (defBody s_law_thing) := ⟨_, rfl⟩
  obtain ⟨p1, p2, p3, hB⟩ : ∃ p1 p2 p3, defBody s_law_thing = .Assign [.Name "_law_some" p1] (.List ES p2) p3 :: (defBody s_law_thing).drop 1 := ⟨_, _, _, by rw [hES]; rfl⟩
  rw [hB]
  show GSs _ (.Assign [.Name "_law_some" p1] (.List ES p2) p3 :: _) (bodyD Q) [("_law_pen_here", some (.ref p)), ("_law_some", none)] _
  refine gss_cons ?_
  refine gs_set (by tm_at "g_put") ?_
  refine ge_lstN ?_
  refine ga_step hES fun T0 h0 => ?_
  tm_at "g"
  refine ga_step h0 fun T1 h1 => ?_
  tm_at "g"
  refine ga_step h1 fun T2 h2 => ?_
  tm_at "g"
  refine ga_step h2 fun T3 h3 => ?_
  tm_at "g"
  refine ga_step h3 fun T4 h4 => ?_
  tm_at "g"
  refine ga_step h4 fun T5 h5 => ?_
  tm_at "g"
  refine ga_step h5 fun T6 h6 => ?_
  tm_at "g"
  refine ga_step h6 fun T7 h7 => ?_
  tm_at "g"
  refine ga_step h7 fun T8 h8 => ?_
  tm_at "g"
  refine ga_step h8 fun T9 h9 => ?_
  tm_at "g"
  refine ga_step h9 fun T10 h10 => ?_
  tm_at "g"
  intro n2
  refine ga_step h10 fun T11 h11 => ?_
  tm_at "g"
  intro n3
  refine ga_step h11 fun T12 h12 => ?_
  tm_at "g"
  refine ga_step h12 fun T13 h13 => ?_
  tm_at "g"
  refine ge_disp1 (k := "x") fun pd => ?_
  tm_at "g"
  refine ⟨rfl, rfl, ?_⟩
  refine ga_step h13 fun T14 h14 => ?_
  tm_at "g"
  refine go_powL (r := 100000000000000000000000000000000000000000000000000000000000) ⟨by decide, by decide, by decide⟩ (by decide) ?_
  refine ga_step h14 fun T15 h15 => ?_
  tm_at "g"
  refine ga_end h15 ?_
  refine ⟨by tm_at "g_size", fun q1 n4 => ?_⟩
  tm_at "g"
  refine gss_cons ?_
  tm_at "g"
  refine ge_call (El := NoX) D2 hr passA ?_
  tm_at "g"
  tm_at "g_pk"
  intro k x n5 m3 hx b0 b1 b2
  obtain ⟨d, hd⟩ := odd_of hx
  refine ⟨_, .cons (.cons .drop), q x d [_, _, _, _, _, _] n5 m3 (hd _ ?_ ?_ ?_ ?_ ?_ ?_ n2 n3) b0 b1 b2⟩
  all_goals tm_at "g_mem"
end
/-! ### errors made -/
section
/-- an error object of one class that keeps v as its field n -/
structure ErF (C a : Addr) (n : Str) (v : V) (L : Lg) : Prop where
  ex : ∃ dd fs, (a, exo a C (some dd)) ∈ L ∧ (dd, exd dd fs) ∈ L ∧ fs.lookup n = some v
theorem ErF.mono {C a : Addr} {n : Str} {v : V} {L M : Lg} (h : ErF C a n v L) (s : ∀ e ∈ L, e ∈ M) : ErF C a n v M := by
  obtain ⟨dd, fs, m, md, l⟩ := h.ex
  exact ⟨dd, fs, s _ m, s _ md, l⟩
theorem ErF.ero {C a : Addr} {n : Str} {v : V} {L : Lg} (h : ErF C a n v L) : ErO C a L := by
  obtain ⟨dd, fs, m, md, l⟩ := h.ex
  exact .own m md
theorem erf_of {C a d : Addr} {n : Str} {v : V} {L : Lg} (m : (a, exo a C (some d)) ∈ L) (md : (d, exd d [(n, v)]) ∈ L) : ErF C a n v L := ⟨d, _, m, md, by simp [List.lookup]⟩
/-- each class of some makes two errors in a row -/
def spTwice (D : Nat → Addr) (k0 : Nat) (n : Str) (num : Nat) : SpL := fun vs L Q _ => ∃ v, vs = [v] ∧ ∀ (t : Addr) (as : List Addr) (l : Lg), as.length = num → (∀ i a, as[i]? = some a → ErF (D (k0 + i / 2)) a n v l) → Q (.ref t) ((t, .lst (as.map V.ref)) :: (l ++ L))
variable {P : Program} {w : World} {K : PySem.W.Frag} {mg : Str → Option Value} {base : Heap} {D : Nat → Addr}
/-- an error class of one field, made in both ways -/
abbrev Both (P : Program) (w : World) (K : PySem.W.Frag) (mg : Str → Option Value) (base : Heap) (x : Str) (C : Addr) (n : Str) : Prop := ErrW P w K mg base x C [n] argsP id ∧ ErrW P w K mg base x C [n] (argsK 0 [n]) id
theorem fn_law_parted (B : Bi mg) (U2 : Both P w K mg base "BadLot" (D 2) "part") (U3 : Both P w K mg base "BadWheel" (D 3) "part") (U4 : Both P w K mg base "BadMeter" (D 4) "part") (U5 : Both P w K mg base "BadShelf" (D 5) "part") (U6 : Both P w K mg base "BadFollower" (D 6) "part") (U7 : Both P w K mg base "Unlike" (D 7) "part") (F : Df K mg "_law_parted" s_law_parted) : Fn P w K mg base CX0 "_law_parted" 3 (spTwice D 2 "part" 12) := by
  refine fn_plain F sc_law_parted (fun _ _ _ _ _ _ us hl => match us, hl with | [_], _ => rfl) (by decide) (by tm_at "g_len") ?_
  intro X f cdv A outer s H E0 L vs Q E hX nd hr h
  subst hX
  obtain ⟨v, rfl, q⟩ := h
  show GSs _ (defBody s_law_parted) (bodyD Q) [("_law_one", some v), ("_law_found", none)] L
  refine gss_cons ?_
  tm_at "g"
  refine ge_err U2.1 hr ?_
  tm_at "g"
  refine ⟨rfl, fun a0 d0 => ?_⟩
  tm_at "g"
  refine ge_errK (pmV := id) U2.2 (fun _ _ r => r) hr ?_
  tm_at "g"
  refine ⟨rfl, rfl, by decide, fun a1 d1 => ?_⟩
  tm_at "g"
  refine ge_err U3.1 hr ?_
  tm_at "g"
  refine ⟨rfl, fun a2 d2 => ?_⟩
  tm_at "g"
  refine ge_errK (pmV := id) U3.2 (fun _ _ r => r) hr ?_
  tm_at "g"
  refine ⟨rfl, rfl, by decide, fun a3 d3 => ?_⟩
  tm_at "g"
  refine ge_err U4.1 hr ?_
  tm_at "g"
  refine ⟨rfl, fun a4 d4 => ?_⟩
  tm_at "g"
  refine ge_errK (pmV := id) U4.2 (fun _ _ r => r) hr ?_
  tm_at "g"
  refine ⟨rfl, rfl, by decide, fun a5 d5 => ?_⟩
  tm_at "g"
  refine ge_err U5.1 hr ?_
  tm_at "g"
  refine ⟨rfl, fun a6 d6 => ?_⟩
  tm_at "g"
  refine ge_errK (pmV := id) U5.2 (fun _ _ r => r) hr ?_
  tm_at "g"
  refine ⟨rfl, rfl, by decide, fun a7 d7 => ?_⟩
  tm_at "g"
  refine ge_err U6.1 hr ?_
  tm_at "g"
  refine ⟨rfl, fun a8 d8 => ?_⟩
  tm_at "g"
  refine ge_errK (pmV := id) U6.2 (fun _ _ r => r) hr ?_
  tm_at "g"
  refine ⟨rfl, rfl, by decide, fun a9 d9 => ?_⟩
  tm_at "g"
  refine go_cat (by tm_at "g_mem") (by tm_at "g_mem") (szL (Nat.le_of_ble_eq_true rfl)) fun r1 => ?_
  tm_at "g"
  refine ge_err U7.1 hr ?_
  tm_at "g"
  refine ⟨rfl, fun a10 d10 => ?_⟩
  tm_at "g"
  refine ge_errK (pmV := id) U7.2 (fun _ _ r => r) hr ?_
  tm_at "g"
  refine ⟨rfl, rfl, by decide, fun a11 d11 => ?_⟩
  tm_at "g"
  refine go_cat (by tm_at "g_mem") (by tm_at "g_mem") (szL (Nat.le_of_ble_eq_true rfl)) fun r2 => ?_
  tm_at "g"
  refine ⟨_, Sub.refl, q r2 [a0, a1, a2, a3, a4, a5, a6, a7, a8, a9, a10, a11] [_, _, _, _, _, _, _, _, _, _, _, _, _, _, _, _, _, _, _, _, _, _, _, _, _, _, _, _] rfl (fun i a h => ?_)⟩
  match i, h with
  | 0, h => cases h; exact erf_of (d := d0) (by tm_at "g_memd") (by tm_at "g_memd")
  | 1, h => cases h; exact erf_of (d := d1) (by tm_at "g_memd") (by tm_at "g_memd")
  | 2, h => cases h; exact erf_of (d := d2) (by tm_at "g_memd") (by tm_at "g_memd")
  | 3, h => cases h; exact erf_of (d := d3) (by tm_at "g_memd") (by tm_at "g_memd")
  | 4, h => cases h; exact erf_of (d := d4) (by tm_at "g_memd") (by tm_at "g_memd")
  | 5, h => cases h; exact erf_of (d := d5) (by tm_at "g_memd") (by tm_at "g_memd")
  | 6, h => cases h; exact erf_of (d := d6) (by tm_at "g_memd") (by tm_at "g_memd")
  | 7, h => cases h; exact erf_of (d := d7) (by tm_at "g_memd") (by tm_at "g_memd")
  | 8, h => cases h; exact erf_of (d := d8) (by tm_at "g_memd") (by tm_at "g_memd")
  | 9, h => cases h; exact erf_of (d := d9) (by tm_at "g_memd") (by tm_at "g_memd")
  | 10, h => cases h; exact erf_of (d := d10) (by tm_at "g_memd") (by tm_at "g_memd")
  | 11, h => cases h; exact erf_of (d := d11) (by tm_at "g_memd") (by tm_at "g_memd")
  | i + 12, h => cases h
theorem fn_law_placed (B : Bi mg) (U8 : Both P w K mg base "BadMark" (D 8) "at") (U9 : Both P w K mg base "BadGear" (D 9) "at") (U10 : Both P w K mg base "BadLog" (D 10) "at") (U11 : Both P w K mg base "BadDeed" (D 11) "at") (U12 : Both P w K mg base "NoPlace" (D 12) "at") (F : Df K mg "_law_placed" s_law_placed) : Fn P w K mg base CX0 "_law_placed" 3 (spTwice D 8 "at" 10) := by
  refine fn_plain F sc_law_placed (fun _ _ _ _ _ _ us hl => match us, hl with | [_], _ => rfl) (by decide) (by tm_at "g_len") ?_
  intro X f cdv A outer s H E0 L vs Q E hX nd hr h
  subst hX
  obtain ⟨v, rfl, q⟩ := h
  show GSs _ (defBody s_law_placed) (bodyD Q) [("_law_one", some v), ("_law_found", none)] L
  refine gss_cons ?_
  tm_at "g"
  refine ge_err U8.1 hr ?_
  tm_at "g"
  refine ⟨rfl, fun a0 d0 => ?_⟩
  tm_at "g"
  refine ge_errK (pmV := id) U8.2 (fun _ _ r => r) hr ?_
  tm_at "g"
  refine ⟨rfl, rfl, by decide, fun a1 d1 => ?_⟩
  tm_at "g"
  refine ge_err U9.1 hr ?_
  tm_at "g"
  refine ⟨rfl, fun a2 d2 => ?_⟩
  tm_at "g"
  refine ge_errK (pmV := id) U9.2 (fun _ _ r => r) hr ?_
  tm_at "g"
  refine ⟨rfl, rfl, by decide, fun a3 d3 => ?_⟩
  tm_at "g"
  refine ge_err U10.1 hr ?_
  tm_at "g"
  refine ⟨rfl, fun a4 d4 => ?_⟩
  tm_at "g"
  refine ge_errK (pmV := id) U10.2 (fun _ _ r => r) hr ?_
  tm_at "g"
  refine ⟨rfl, rfl, by decide, fun a5 d5 => ?_⟩
  tm_at "g"
  refine ge_err U11.1 hr ?_
  tm_at "g"
  refine ⟨rfl, fun a6 d6 => ?_⟩
  tm_at "g"
  refine ge_errK (pmV := id) U11.2 (fun _ _ r => r) hr ?_
  tm_at "g"
  refine ⟨rfl, rfl, by decide, fun a7 d7 => ?_⟩
  tm_at "g"
  refine ge_err U12.1 hr ?_
  tm_at "g"
  refine ⟨rfl, fun a8 d8 => ?_⟩
  tm_at "g"
  refine ge_errK (pmV := id) U12.2 (fun _ _ r => r) hr ?_
  tm_at "g"
  refine ⟨rfl, rfl, by decide, fun a9 d9 => ?_⟩
  tm_at "g"
  refine go_cat (by tm_at "g_mem") (by tm_at "g_mem") (szL (Nat.le_of_ble_eq_true rfl)) fun r1 => ?_
  tm_at "g"
  refine ⟨_, Sub.refl, q r1 [a0, a1, a2, a3, a4, a5, a6, a7, a8, a9] [_, _, _, _, _, _, _, _, _, _, _, _, _, _, _, _, _, _, _, _, _, _] rfl (fun i a h => ?_)⟩
  match i, h with
  | 0, h => cases h; exact erf_of (d := d0) (by tm_at "g_memd") (by tm_at "g_memd")
  | 1, h => cases h; exact erf_of (d := d1) (by tm_at "g_memd") (by tm_at "g_memd")
  | 2, h => cases h; exact erf_of (d := d2) (by tm_at "g_memd") (by tm_at "g_memd")
  | 3, h => cases h; exact erf_of (d := d3) (by tm_at "g_memd") (by tm_at "g_memd")
  | 4, h => cases h; exact erf_of (d := d4) (by tm_at "g_memd") (by tm_at "g_memd")
  | 5, h => cases h; exact erf_of (d := d5) (by tm_at "g_memd") (by tm_at "g_memd")
  | 6, h => cases h; exact erf_of (d := d6) (by tm_at "g_memd") (by tm_at "g_memd")
  | 7, h => cases h; exact erf_of (d := d7) (by tm_at "g_memd") (by tm_at "g_memd")
  | 8, h => cases h; exact erf_of (d := d8) (by tm_at "g_memd") (by tm_at "g_memd")
  | 9, h => cases h; exact erf_of (d := d9) (by tm_at "g_memd") (by tm_at "g_memd")
  | i + 10, h => cases h
end
/-! ### the errors of two fields -/
section
variable {P : Program} {w : World} {K : PySem.W.Frag} {mg : Str → Option Value} {base : Heap} {C D : Addr}
abbrev Both2 (P : Program) (w : World) (K : PySem.W.Frag) (mg : Str → Option Value) (base : Heap) (x : Str) (C : Addr) (n m : Str) : Prop := ErrW P w K mg base x C [n, m] argsP id ∧ ErrW P w K mg base x C [n, m] (argsK 0 [m, n]) sw2
def spTwo : SpL := fun vs L Q _ => ∃ v1 v2 d1 d2, vs = [v1, v2] ∧ OddS L v1 d1 ∧ OddS L v2 d2 ∧ Q (.bl true) L
local macro_rules | `(tactic| tm_at "g_e") => `(tactic| ((with_reducible show G.GE _ (PySem.Expr.List _ _) _ _ _); refine G.ge_lstN ?_))
theorem fn_law_two_right (B : Bi mg) (V1 : ErV K C) (V2 : ErV K D) (U1 : Both2 P w K mg base "BadText" C "line" "word") (U2 : Both2 P w K mg base "TooMany" D "what" "most") (F : Df K mg "_law_two_right" s_law_two_right) : Fn P w K mg base CX0 "_law_two_right" 3 spTwo := by
  obtain ⟨_, _, G1, -, -⟩ := id U1.1.ex
  obtain ⟨_, _, G2, -, -⟩ := id U2.1.ex
  have no1 := G1.no
  have no2 := G2.no
  refine fn_plain F sc_law_two_right (fun _ _ _ _ _ _ us hl => match us, hl with | [_, _], _ => rfl) (by decide) (by tm_at "g_len") ?_
  intro X f cdv A outer s H E0 L vs Q E hX nd hr h
  subst hX
  obtain ⟨v1, v2, d1, d2, rfl, o1, o2, q⟩ := h
  show GSs _ (defBody s_law_two_right) (bodyD Q) [("_law_one", some v1), ("_law_two", some v2), ("_law_pages", none), ("_law_bounds", none), ("_law_error", none)] L
  refine gss_cons ?_
  tm_at "g"
  refine ge_err U1.1 hr ?_
  tm_at "g"
  refine ⟨rfl, fun a1 e1 => ?_⟩
  tm_at "g"
  refine ge_errK (pmV := sw2) U1.2 sw2_vals hr ?_
  tm_at "g"
  refine ⟨rfl, rfl, by decide, fun a2 e2 => ?_⟩
  tm_at "g"
  intro n1
  tm_at "g"
  refine ge_err U2.1 hr ?_
  tm_at "g"
  refine ⟨rfl, fun a3 e3 => ?_⟩
  tm_at "g"
  refine ge_errK (pmV := sw2) U2.2 sw2_vals hr ?_
  tm_at "g"
  refine ⟨rfl, rfl, by decide, fun a4 e4 => ?_⟩
  tm_at "g"
  intro n2
  tm_at "g"
  refine ge_lcNone (by tm_at "g_put") (gi_list ?_) (show blkC N_law_two_right (defScope s_law_two_right) _ [(_, List.idxOf _ N_law_two_right)] = true by decide +kernel)
  tm_at "g"
  refine ⟨fun i x E h => h.2, fun M h => h _ (by tm_at "g_memd"), fun D0 i x hi hx s1 H1 C1 cl1 fp1 => ?_, fun D0 => ?_⟩
  · replace hx := hx.1
    rcases i with _ | _ | i
    · cases hx
      tm_at "g"
      refine gb_repr2 B hr ?_
      tm_at "g"
      refine gat_exo V1 (no1 "line" (by simp)) (by tm_at "g_memd") (by tm_at "g_memd") rfl ?_
      tm_at "g"
      refine gat_exo V1 (no1 "word" (by simp)) (by tm_at "g_memd") (by tm_at "g_memd") rfl ?_
      tm_at "g"
      intro n3
      refine ⟨_, _, _, d1, d2, rfl, n3, by tm_at "g_mem", by repeat (first | exact o1 | apply OddS.drop), by repeat (first | exact o2 | apply OddS.drop), ?_⟩
      tm_at "g"
      refine gb_repr2 B hr ?_
      tm_at "g"
      intro n4
      refine ⟨_, _, _, d1, d2, rfl, n4, by tm_at "g_mem", by repeat (first | exact o1 | apply OddS.drop), by repeat (first | exact o2 | apply OddS.drop), ?_⟩
      refine go_neS rfl ?_
      exact ⟨_, rfl, rfl, by tm_at "g_end"⟩
    · cases hx
      tm_at "g"
      refine gb_repr2 B hr ?_
      tm_at "g"
      refine gat_exo V1 (no1 "line" (by simp)) (by tm_at "g_memd") (by tm_at "g_memd") rfl ?_
      tm_at "g"
      refine gat_exo V1 (no1 "word" (by simp)) (by tm_at "g_memd") (by tm_at "g_memd") rfl ?_
      tm_at "g"
      intro n3
      refine ⟨_, _, _, d1, d2, rfl, n3, by tm_at "g_mem", by repeat (first | exact o1 | apply OddS.drop), by repeat (first | exact o2 | apply OddS.drop), ?_⟩
      tm_at "g"
      refine gb_repr2 B hr ?_
      tm_at "g"
      intro n4
      refine ⟨_, _, _, d1, d2, rfl, n4, by tm_at "g_mem", by repeat (first | exact o1 | apply OddS.drop), by repeat (first | exact o2 | apply OddS.drop), ?_⟩
      refine go_neS rfl ?_
      exact ⟨_, rfl, rfl, by tm_at "g_end"⟩
    · cases hx
  tm_at "g"
  intro n5
  refine go_neD (d := .list ([].map PyData.int)) (e := .list ([].map PyData.int)) hr.toRoom (dl_lst (by tm_at "g_mem") dls_nil) (dl_lst (by tm_at "g_mem") dls_nil) (shapedL []) (shapedL []) ?_
  rw [eqvL]
  refine ⟨false, rfl, ite_f ?_⟩
  tm_at "g"
  refine ge_lcNone (by tm_at "g_put") (gi_list ?_) (show blkC N_law_two_right (defScope s_law_two_right) _ [(_, List.idxOf _ N_law_two_right)] = true by decide +kernel)
  tm_at "g"
  refine ⟨fun i x E h => h.2, fun M h => h _ (by tm_at "g_memd"), fun D0 i x hi hx s1 H1 C1 cl1 fp1 => ?_, fun D0 => ?_⟩
  · replace hx := hx.1
    rcases i with _ | _ | i
    · cases hx
      tm_at "g"
      refine gb_repr2 B hr ?_
      tm_at "g"
      refine gat_exo V2 (no2 "what" (by simp)) (by tm_at "g_memd") (by tm_at "g_memd") rfl ?_
      tm_at "g"
      refine gat_exo V2 (no2 "most" (by simp)) (by tm_at "g_memd") (by tm_at "g_memd") rfl ?_
      tm_at "g"
      intro n3
      refine ⟨_, _, _, d1, d2, rfl, n3, by tm_at "g_mem", by repeat (first | exact o1 | apply OddS.drop), by repeat (first | exact o2 | apply OddS.drop), ?_⟩
      tm_at "g"
      refine gb_repr2 B hr ?_
      tm_at "g"
      intro n4
      refine ⟨_, _, _, d1, d2, rfl, n4, by tm_at "g_mem", by repeat (first | exact o1 | apply OddS.drop), by repeat (first | exact o2 | apply OddS.drop), ?_⟩
      refine go_neS rfl ?_
      exact ⟨_, rfl, rfl, by tm_at "g_end"⟩
    · cases hx
      tm_at "g"
      refine gb_repr2 B hr ?_
      tm_at "g"
      refine gat_exo V2 (no2 "what" (by simp)) (by tm_at "g_memd") (by tm_at "g_memd") rfl ?_
      tm_at "g"
      refine gat_exo V2 (no2 "most" (by simp)) (by tm_at "g_memd") (by tm_at "g_memd") rfl ?_
      tm_at "g"
      intro n3
      refine ⟨_, _, _, d1, d2, rfl, n3, by tm_at "g_mem", by repeat (first | exact o1 | apply OddS.drop), by repeat (first | exact o2 | apply OddS.drop), ?_⟩
      tm_at "g"
      refine gb_repr2 B hr ?_
      tm_at "g"
      intro n4
      refine ⟨_, _, _, d1, d2, rfl, n4, by tm_at "g_mem", by repeat (first | exact o1 | apply OddS.drop), by repeat (first | exact o2 | apply OddS.drop), ?_⟩
      refine go_neS rfl ?_
      exact ⟨_, rfl, rfl, by tm_at "g_end"⟩
    · cases hx
  tm_at "g"
  intro n5
  refine go_eqD (d := .list ([].map PyData.int)) (e := .list ([].map PyData.int)) hr.toRoom (dl_lst (by tm_at "g_mem") dls_nil) (dl_lst (by tm_at "g_mem") dls_nil) (shapedL []) (shapedL []) ?_
  rw [eqvL]
  exact ⟨_, by tm_at "g_end", q⟩
end
/-! ### the law -/
section
theorem Odd.subM {L M : Lg} {v : V} {d : PyData} (s : Sub L M) (m : ∀ e ∈ L, e ∈ M) (h : Odd L v d) : Odd M v d := by
  obtain ⟨T, k⟩ := h.kd
  exact ⟨⟨T, k.sub m⟩, rdSub s h.rd, h.s, h.dp, h.sz, h.ok⟩
theorem OddS.subM {L M : Lg} {v : V} {d : PyData} (s : Sub L M) (m : ∀ e ∈ L, e ∈ M) (h : OddS L v d) : OddS M v d := ⟨Odd.subM s m h.o, h.r.sub s, h.dp⟩
/-- what is known of a ledger is told of any -/
theorem cutE {X : Cx} {e : Expr} {η : En} {L : Lg} {Q : QV} (φ : Lg → Prop) (h : φ L) (k : ∀ L0, φ L0 → GE X e η L0 Q) : GE X e η L Q := k L h
/-! lists of truth values -/
theorem dls_bools {L : Lg} : ∀ {bs : List Bool}, Dls L (bs.map V.bl) (bs.map PyData.bool)
  | [] => dls_nil
  | _ :: _ => dls_cons dl_bl dls_bools
theorem depthBools : ∀ ns : List Bool, PyData.depthAll (ns.map PyData.bool) = 0
  | [] => by simp [PyData.depthAll]
  | n :: r => by
    have e := depthBools r
    simp [PyData.depthAll, PyData.depth, e]
theorem layBools : ∀ ns : List Bool, PyData.canLayAll0 (ns.map PyData.bool) = true
  | [] => by simp [PyData.canLayAll0]
  | n :: r => by
    have e := layBools r
    simp [PyData.canLayAll0, PyData.canLay0, e]
theorem shapedB (ns : List Bool) : SeqAt.shaped (.list (ns.map PyData.bool)) = true := by
  have a := depthBools ns
  have b := layBools ns
  simp [SeqAt.shaped, PyData.canLay0, PyData.depth, a, b]
theorem eqvBools : ∀ ns ms : List Bool, PyData.eqvAll (ns.map PyData.bool) (ms.map PyData.bool) = decide (ns = ms)
  | [], [] => by simp [PyData.eqvAll]
  | [], m :: r => by simp [PyData.eqvAll]
  | n :: r, [] => by simp [PyData.eqvAll]
  | n :: r, m :: q => by
    have e := eqvBools r q
    simp [PyData.eqvAll, PyData.eqv, e]
    by_cases h : n = m <;> by_cases k : r = q <;> simp [h, k]
theorem eqvBL (ns ms : List Bool) : PyData.eqv (.list (ns.map PyData.bool)) (.list (ms.map PyData.bool)) = decide (ns = ms) := by
  rw [← eqvBools]
  simp [PyData.eqv]
theorem go_eqBL {X : Cx} {L : Lg} {Q : QV} {j : Nat} {p q : Addr} {xs ys : List V} {ns ms : List Bool} (hr : RoomG j X.A) (m1 : (p, HO.lst xs) ∈ L) (m2 : (q, HO.lst ys) ∈ L) (e1 : xs = ns.map V.bl) (e2 : ys = ms.map V.bl) (h : Q (.bl (decide (ns = ms))) L) : GOp X (compareOp .Eq) (.ref p) (.ref q) L Q := by
  subst e1
  subst e2
  exact go_eqD hr.toRoom (dl_lst m1 dls_bools) (dl_lst m2 dls_bools) (shapedB ns) (shapedB ms) (by rw [eqvBL]; exact h)
theorem go_neBL {X : Cx} {L : Lg} {Q : QV} {j : Nat} {p q : Addr} {xs ys : List V} {ns ms : List Bool} (hr : RoomG j X.A) (m1 : (p, HO.lst xs) ∈ L) (m2 : (q, HO.lst ys) ∈ L) (e1 : xs = ns.map V.bl) (e2 : ys = ms.map V.bl) (h : Q (.bl (!decide (ns = ms))) L) : GOp X (compareOp .NotEq) (.ref p) (.ref q) L Q := by
  subst e1
  subst e2
  exact go_neD hr.toRoom (dl_lst m1 dls_bools) (dl_lst m2 dls_bools) (shapedB ns) (shapedB ms) (by rw [eqvBL]; exact h)
theorem refs_at {as : List Addr} {i : Nat} {x : V} (h : (as.map V.ref)[i]? = some x) : ∃ a, as[i]? = some a ∧ V.ref a = x := by
  rw [List.getElem?_map] at h
  exact Option.map_eq_some_iff.mp h
theorem cutS {X : Cx} {st : Stmt} {η : En} {L : Lg} {D : GD} (φ : Lg → Prop) (h : φ L) (k : ∀ L0, φ L0 → GS X st D η L0) : GS X st D η L := k L h
/-- errors in a row, two of a class -/
def Prs (D : Nat → Addr) (k0 : Nat) (as : List Addr) (L : Lg) : Prop := ∀ i a, as[i]? = some a → ErO (D (k0 + i / 2)) a L
theorem Prs.mono {D : Nat → Addr} {k0 : Nat} {as : List Addr} {L M : Lg} (h : Prs D k0 as L) (s : ∀ e ∈ L, e ∈ M) : Prs D k0 as M := fun i a k => (h i a k).mono s
theorem Prs.app {D : Nat → Addr} {k0 k1 : Nat} {as bs : List Addr} {L : Lg} (h : Prs D k0 as L) (g : Prs D k1 bs L) (n : Nat) (e : as.length = 2 * n) (e1 : k1 = k0 + n) : Prs D k0 (as ++ bs) L := fun i a k => by
  rcases Nat.lt_or_ge i as.length with z | z
  · rw [List.getElem?_append_left z] at k
    exact h i a k
  · rw [List.getElem?_append_right z] at k
    have := g _ a k
    rw [show k1 + (i - as.length) / 2 = k0 + i / 2 by omega] at this
    exact this
variable {P : Program} {w : World} {K : PySem.W.Frag} {mg : Str → Option Value} {base : Heap} {D : Nat → Addr} {DR : Addr}
/-- what the top tells of the classes -/
structure Tops2 (K : PySem.W.Frag) (D : Nat → Addr) (DR : Addr) : Prop where
  t : ∀ j, j < 20 → Tells K D (D j) (fun n => n == j)
  kR : ∀ j, j < 20 → PySem.W.kitOne K (.ref (D j)) (.ref DR) = some true
  kV : ∀ j, j < 20 → PySem.W.kitOne K (.ref (D j)) (.type "ValueError") = some true
  kL : ∀ j, j < 20 → PySem.W.kitOne K (.ref (D j)) (.type "LookupError") = some false
  tR : Tells K D DR (fun _ => false)
  kVR : PySem.W.kitOne K (.ref DR) (.type "ValueError") = some true
set_option maxHeartbeats 16000000 in
theorem law_body (B : Bi mg) (TG : Tops mg D) (T2 : Tops2 K D DR) (A0 : Fn P w K mg base CX0 "_law_pen" 1 (fun vs L Q _ => ∃ (a : Addr) (ns : List Int), vs = [.ref a] ∧ InL K L a (ns.map V.int) ∧ ∀ p c ms, ms.length ≤ 63 → Q (.ref p) ((p, penO c 0 0) :: (c, celO ms) :: L)))
    (A1 : Fn P w K mg base CX0 "_law_thing" 3 spThing) (A2 : Fn P w K mg base CX0 "_law_classes" 2 (spCls K D)) (A3 : Fn P w K mg base CX0 "_law_parted" 3 (spTwice D 2 "part" 12)) (A4 : Fn P w K mg base CX0 "_law_placed" 3 (spTwice D 8 "at" 10)) (A5 : Fn P w K mg base CX0 "_law_two_right" 3 spTwo)
    (noP : ∀ j, 2 ≤ j → j < 8 → PySem.W.findIn K (.ref (D j)) "part" = some none) (noA : ∀ j, 8 ≤ j → j < 13 → PySem.W.findIn K (.ref (D j)) "at" = some none)
    (U0 : Both P w K mg base "BadNumber" (D 0) "value") (U1 : Both P w K mg base "BadValue" (D 1) "value") (U13 : Both P w K mg base "NoName" (D 13) "name") (U14 : Both P w K mg base "BadLine" (D 14) "word") (U15 : Both2 P w K mg base "BadText" (D 15) "line" "word") (U16 : Both2 P w K mg base "TooMany" (D 16) "what" "most")
    (N17 : ErrN K mg "NoMember" (D 17)) (N18 : ErrN K mg "Unfit" (D 18)) (N19 : ErrN K mg "Nothing" (D 19)) (NR : ErrN K mg "ReachError" DR) : BodyOf P w K mg base N_law "law" s_law 10 (spLaw K (tabsL [])) := by
  have no : ∀ {x : Str} {C : Addr} {n : Str}, Both P w K mg base x C n → PySem.W.findIn K (.ref C) n = some none := fun h => by
    obtain ⟨_, _, G1, -, -⟩ := id h.1.ex
    exact G1.no _ (by simp)
  have nov : ∀ j, j < 2 → PySem.W.findIn K (.ref (D j)) "value" = some none := fun j hj => by
    match j, hj with
    | 0, _ => exact no U0
    | 1, _ => exact no U1
  have noN : ∀ i, i < 2 → PySem.W.findIn K (.ref (D (13 + i / 2))) "name" = some none := fun i hi => by
    rw [show 13 + i / 2 = 13 by omega]
    exact no U13
  have noL : ∀ i, i < 2 → PySem.W.findIn K (.ref (D (14 + i / 2))) "word" = some none := fun i hi => by
    rw [show 14 + i / 2 = 14 by omega]
    exact no U14
  intro X f cdv A outer s H E0 L vs Q E hX nd hr h
  subst hX
  obtain ⟨a, ns, M, rfl, rfl, hi, -, q⟩ := h
  show GSs _ (defBody s_law) (bodyD Q) [("_law_script", some (.ref a)), ("_law_pen_here", none), ("_law_turn", none), ("_law_one", none), ("_law_two", none), ("_law_valued", none), ("_law_named", none), ("_law_lines", none), ("_law_rows", none), ("_law_spot", none), ("_law_error", none), ("_law_number", none)] _
  refine gss_cons ?_
  tm_at "g"
  refine ge_call (El := NoX) A0 hr passA ?_
  tm_at "g"
  refine ⟨a, ns, rfl, hi, fun p c ms h63 => ?_⟩
  tm_at "g"
  refine gs_for (gi_range1 ?_ B.range)
  tm_at "g"
  refine ⟨by decide, fun i θ N => ∃ u1 u2 u3 u4 u5 u6 u7 u8 u9 u10 n m, θ = ([("_law_script", some (.ref a)), ("_law_pen_here", some (.ref p)), ("_law_turn", u1), ("_law_one", u2), ("_law_two", u3), ("_law_valued", u4), ("_law_named", u5), ("_law_lines", u6), ("_law_rows", u7), ("_law_spot", u8), ("_law_error", u9), ("_law_number", u10)] : En) ∧ Sub ((p, penO c n m) :: (c, celO ms) :: L) N ∧ 0 ≤ n ∧ n ≤ 20 * (i : Int) ∧ 0 ≤ m, ⟨none, none, none, none, none, none, none, none, none, none, 0, 0, rfl, Sub.refl, by decide, by decide, by decide⟩, fun _ _ _ _ _ _ => True.intro, ?_, ?_⟩
  · rintro i x E1 θ N hi ⟨rfl, rfl⟩ ⟨u1, u2, u3, u4, u5, u6, u7, u8, u9, u10, n, m, rfl, sb, n0, n1, m0⟩
    dsimp only [List.nil_append] at hi ⊢
    have hi8 : i < 6 := hi
    refine gg_name (by tm_at "g_pv") ?_
    refine GSs.sub sb ?_
    tm_at "g"
    refine ge_call (El := NoX) A1 hr passA ?_
    tm_at "g"
    refine ⟨p, c, ms, n, m, _, rfl, Sub.refl, h63, n0, by omega, m0, fun v1 d1 l1 n2 m2 o1 a0 a1 a2 => ?_⟩
    tm_at "g"
    refine ge_call (El := NoX) A1 hr passA ?_
    tm_at "g"
    refine ⟨p, c, ms, n2, m2, _, rfl, Sub.refl, h63, a0, by omega, a2, fun v2 d2 l2 n3 m3 o2 b0 b1 b2 => ?_⟩
    replace o1 : OddS ((p, penO c n3 m3) :: (c, celO ms) :: (l2 ++ (l1 ++ L))) v1 d1 := ((OddS.subM (Sub.sublist (List.sublist_append_left _ _)) (fun e m => memL m) o1).app l2).drop.drop
    replace o2 : OddS ((p, penO c n3 m3) :: (c, celO ms) :: (l2 ++ (l1 ++ L))) v2 d2 := (OddS.subM (Sub.sublist (List.sublist_append_left _ _)) (fun e m => memL m) o2).drop.drop
    tm_at "g"
    refine ge_err U0.1 hr ?_
    tm_at "g"
    refine ⟨rfl, fun e0 de0 => ?_⟩
    tm_at "g"
    refine ge_errK (pmV := id) U0.2 (fun _ _ r => r) hr ?_
    tm_at "g"
    refine ⟨rfl, rfl, by decide, fun e1 de1 => ?_⟩
    tm_at "g"
    refine ge_err U1.1 hr ?_
    tm_at "g"
    refine ⟨rfl, fun e2 de2 => ?_⟩
    tm_at "g"
    refine ge_errK (pmV := id) U1.2 (fun _ _ r => r) hr ?_
    tm_at "g"
    refine ⟨rfl, rfl, by decide, fun e3 de3 => ?_⟩
    tm_at "g"
    refine ge_err U13.1 hr ?_
    tm_at "g"
    refine ⟨rfl, fun e4 de4 => ?_⟩
    tm_at "g"
    refine ge_errK (pmV := id) U13.2 (fun _ _ r => r) hr ?_
    tm_at "g"
    refine ⟨rfl, rfl, by decide, fun e5 de5 => ?_⟩
    tm_at "g"
    refine ge_err U14.1 hr ?_
    tm_at "g"
    refine ⟨rfl, fun e6 de6 => ?_⟩
    tm_at "g"
    refine ge_errK (pmV := id) U14.2 (fun _ _ r => r) hr ?_
    tm_at "g"
    refine ⟨rfl, rfl, by decide, fun e7 de7 => ?_⟩
    tm_at "g"
    rename_i pv pn pl
    refine cutE (fun L0 => Sub ((p, penO c n3 m3) :: (c, celO ms) :: L) L0 ∧ OddS L0 v1 d1 ∧ OddS L0 v2 d2 ∧ (pv, HO.lst [.ref e0, .ref e1, .ref e2, .ref e3]) ∈ L0 ∧ (pn, HO.lst [.ref e4, .ref e5]) ∈ L0 ∧ (pl, HO.lst [.ref e6, .ref e7]) ∈ L0 ∧
      (∀ i a, [e0, e1, e2, e3][i]? = some a → ErF (D (0 + i / 2)) a "value" v1 L0) ∧ (∀ i a, [e4, e5][i]? = some a → ErF (D (13 + i / 2)) a "name" v1 L0) ∧ (∀ i a, [e6, e7][i]? = some a → ErF (D (14 + i / 2)) a "word" v1 L0)) ?_ ?_
    · refine ⟨?_, by repeat (first | exact o1 | apply OddS.drop), by repeat (first | exact o2 | apply OddS.drop), by tm_at "g_memd", by tm_at "g_memd", by tm_at "g_memd", fun i a h => ?_, fun i a h => ?_, fun i a h => ?_⟩
      · exact Sub.sublist (by repeat (first | exact List.Sublist.refl _ | apply List.Sublist.cons_cons | apply List.Sublist.cons | apply G.subl_app))
      · match i, h with
        | 0, h => cases h; exact erf_of (d := de0) (by tm_at "g_memd") (by tm_at "g_memd")
        | 1, h => cases h; exact erf_of (d := de1) (by tm_at "g_memd") (by tm_at "g_memd")
        | 2, h => cases h; exact erf_of (d := de2) (by tm_at "g_memd") (by tm_at "g_memd")
        | 3, h => cases h; exact erf_of (d := de3) (by tm_at "g_memd") (by tm_at "g_memd")
        | i + 4, h => cases h
      · match i, h with
        | 0, h => cases h; exact erf_of (d := de4) (by tm_at "g_memd") (by tm_at "g_memd")
        | 1, h => cases h; exact erf_of (d := de5) (by tm_at "g_memd") (by tm_at "g_memd")
        | i + 2, h => cases h
      · match i, h with
        | 0, h => cases h; exact erf_of (d := de6) (by tm_at "g_memd") (by tm_at "g_memd")
        | 1, h => cases h; exact erf_of (d := de7) (by tm_at "g_memd") (by tm_at "g_memd")
        | i + 2, h => cases h
    rintro L0 ⟨sP, o1, o2, mv, mn, ml, fv, fn, fl⟩
    refine ge_lcNone (by tm_at "g_put") (gi_list ?_) (show blkC N_law (defScope s_law) _ [(_, List.idxOf _ N_law)] = true by decide +kernel)
    tm_at "g"
    refine ⟨fun i x E h => h.2, fun M h => h _ (by tm_at "g_mem"), fun D0 i x hi hx s1 H1 C1 cl1 fp1 => ?_, fun D0 => ?_⟩
    · obtain ⟨a', ha, rfl⟩ := refs_at (as := [e0, e1, e2, e3]) hx.1
      obtain ⟨dd, fs, ma, md, lk⟩ := (fv i a' ha).ex
      have il : i < 4 := by
        have z := (List.getElem?_eq_some_iff.mp ha).1
        first
          | exact z
          | omega
      tm_at "g"
      refine gb_reprO B hr ?_
      tm_at "g"
      refine gat_exo (T2.t (0 + i / 2) (by omega)).ev (nov _ (by omega)) (memS ma) (memS md) lk ?_
      refine ⟨d1, (by repeat (first | exact o1.o | apply Odd.drop | apply Odd.app)), ?_⟩
      tm_at "g"
      refine gb_reprO B hr ?_
      tm_at "g"
      refine ⟨d1, (by repeat (first | exact o1.o | apply Odd.drop | apply Odd.app)), ?_⟩
      refine go_neS rfl ?_
      exact ⟨_, rfl, rfl, Sub.refl⟩
    tm_at "g"
    refine go_neD (d := .list ([].map PyData.int)) (e := .list ([].map PyData.int)) hr.toRoom (dl_lst (by tm_at "g_mem") dls_nil) (dl_lst (by tm_at "g_mem") dls_nil) (shapedL []) (shapedL []) ?_
    rw [eqvL]
    refine ⟨false, rfl, ite_f ?_⟩
    tm_at "g"
    refine ge_call (El := NoX) A5 hr passA ?_
    tm_at "g"
    refine ⟨v1, v2, d1, d2, rfl, by repeat (first | exact o1 | apply OddS.drop), by repeat (first | exact o2 | apply OddS.drop), ?_⟩
    tm_at "g"
    refine ge_lcNone (by tm_at "g_put") (gi_list ?_) (show blkC N_law (defScope s_law) _ [(_, List.idxOf _ N_law)] = true by decide +kernel)
    tm_at "g"
    refine ge_call (El := NoX) A3 hr passA ?_
    tm_at "g"
    refine ⟨v1, rfl, fun t3 as3 l3 hl3 he3 => ?_⟩
    tm_at "g"
    refine ⟨fun i x E h => h.2, fun M h => h _ (by tm_at "g_mem"), fun D0 i x hi hx s1 H1 C1 cl1 fp1 => ?_, fun D0 => ?_⟩
    · obtain ⟨a', ha, rfl⟩ := refs_at (as := as3) hx.1
      obtain ⟨dd, fs, ma, md, lk⟩ := (he3 i a' ha).ex
      have il : i < 12 := by
        have z := (List.getElem?_eq_some_iff.mp ha).1
        first
          | exact z
          | omega
      tm_at "g"
      refine gb_reprO B hr ?_
      tm_at "g"
      refine gat_exo (T2.t (2 + i / 2) (by omega)).ev (noP _ (by omega) (by omega)) (memS (memS (memL ma))) (memS (memS (memL md))) lk ?_
      refine ⟨d1, (by repeat (first | exact o1.o | apply Odd.drop | apply Odd.app)), ?_⟩
      tm_at "g"
      refine gb_reprO B hr ?_
      tm_at "g"
      refine ⟨d1, (by repeat (first | exact o1.o | apply Odd.drop | apply Odd.app)), ?_⟩
      refine go_neS rfl ?_
      exact ⟨_, rfl, rfl, Sub.refl⟩
    tm_at "g"
    refine go_neD (d := .list ([].map PyData.int)) (e := .list ([].map PyData.int)) hr.toRoom (dl_lst (by tm_at "g_mem") dls_nil) (dl_lst (by tm_at "g_mem") dls_nil) (shapedL []) (shapedL []) ?_
    rw [eqvL]
    refine ⟨false, rfl, ite_f ?_⟩
    tm_at "g"
    refine ge_lcNone (by tm_at "g_put") (gi_list ?_) (show blkC N_law (defScope s_law) _ [(_, List.idxOf _ N_law)] = true by decide +kernel)
    tm_at "g"
    refine ge_call (El := NoX) A4 hr passA ?_
    tm_at "g"
    refine ⟨v1, rfl, fun t4 as4 l4 hl4 he4 => ?_⟩
    tm_at "g"
    refine ⟨fun i x E h => h.2, fun M h => h _ (by tm_at "g_mem"), fun D0 i x hi hx s1 H1 C1 cl1 fp1 => ?_, fun D0 => ?_⟩
    · obtain ⟨a', ha, rfl⟩ := refs_at (as := as4) hx.1
      obtain ⟨dd, fs, ma, md, lk⟩ := (he4 i a' ha).ex
      have il : i < 10 := by
        have z := (List.getElem?_eq_some_iff.mp ha).1
        first
          | exact z
          | omega
      tm_at "g"
      refine gb_reprO B hr ?_
      tm_at "g"
      refine gat_exo (T2.t (8 + i / 2) (by omega)).ev (noA _ (by omega) (by omega)) (memS (memS (memL ma))) (memS (memS (memL md))) lk ?_
      refine ⟨d1, (by repeat (first | exact o1.o | apply Odd.drop | apply Odd.app)), ?_⟩
      tm_at "g"
      refine gb_reprO B hr ?_
      tm_at "g"
      refine ⟨d1, (by repeat (first | exact o1.o | apply Odd.drop | apply Odd.app)), ?_⟩
      refine go_neS rfl ?_
      exact ⟨_, rfl, rfl, Sub.refl⟩
    tm_at "g"
    refine go_neD (d := .list ([].map PyData.int)) (e := .list ([].map PyData.int)) hr.toRoom (dl_lst (by tm_at "g_mem") dls_nil) (dl_lst (by tm_at "g_mem") dls_nil) (shapedL []) (shapedL []) ?_
    rw [eqvL]
    refine ⟨false, rfl, ite_f ?_⟩
    tm_at "g"
    refine ge_lcNone (by tm_at "g_put") (gi_list ?_) (show blkC N_law (defScope s_law) _ [(_, List.idxOf _ N_law)] = true by decide +kernel)
    tm_at "g"
    refine ⟨fun i x E h => h.2, fun M h => h _ (by tm_at "g_mem"), fun D0 i x hi hx s1 H1 C1 cl1 fp1 => ?_, fun D0 => ?_⟩
    · obtain ⟨a', ha, rfl⟩ := refs_at (as := [e4, e5]) hx.1
      obtain ⟨dd, fs, ma, md, lk⟩ := (fn i a' ha).ex
      have il : i < 2 := by
        have z := (List.getElem?_eq_some_iff.mp ha).1
        first
          | exact z
          | omega
      tm_at "g"
      refine gb_reprO B hr ?_
      tm_at "g"
      refine gat_exo (T2.t (13 + i / 2) (by omega)).ev (noN i il) (by tm_at "g_mem") (by tm_at "g_mem") lk ?_
      refine ⟨d1, (by repeat (first | exact o1.o | apply Odd.drop | apply Odd.app)), ?_⟩
      tm_at "g"
      refine gb_reprO B hr ?_
      tm_at "g"
      refine ⟨d1, (by repeat (first | exact o1.o | apply Odd.drop | apply Odd.app)), ?_⟩
      refine go_neS rfl ?_
      exact ⟨_, rfl, rfl, Sub.refl⟩
    tm_at "g"
    refine ge_lcNone (by tm_at "g_put") (gi_list ?_) (show blkC N_law (defScope s_law) _ [(_, List.idxOf _ N_law)] = true by decide +kernel)
    tm_at "g"
    refine ⟨fun i x E h => h.2, fun M h => h _ (by tm_at "g_mem"), fun D0 i x hi hx s1 H1 C1 cl1 fp1 => ?_, fun D0 => ?_⟩
    · obtain ⟨a', ha, rfl⟩ := refs_at (as := [e6, e7]) hx.1
      obtain ⟨dd, fs, ma, md, lk⟩ := (fl i a' ha).ex
      have il : i < 2 := by
        have z := (List.getElem?_eq_some_iff.mp ha).1
        first
          | exact z
          | omega
      tm_at "g"
      refine gb_reprO B hr ?_
      tm_at "g"
      refine gat_exo (T2.t (14 + i / 2) (by omega)).ev (noL i il) (by tm_at "g_mem") (by tm_at "g_mem") lk ?_
      refine ⟨d1, (by repeat (first | exact o1.o | apply Odd.drop | apply Odd.app)), ?_⟩
      tm_at "g"
      refine gb_reprO B hr ?_
      tm_at "g"
      refine ⟨d1, (by repeat (first | exact o1.o | apply Odd.drop | apply Odd.app)), ?_⟩
      refine go_neS rfl ?_
      exact ⟨_, rfl, rfl, Sub.refl⟩
    tm_at "g"
    refine go_cat (by tm_at "g_mem") (by tm_at "g_mem") (szL (Nat.le_of_ble_eq_true rfl)) fun rr => ?_
    rw [show (([] : List V) ++ []) = [] from rfl]
    tm_at "g"
    refine go_neD (d := .list ([].map PyData.int)) (e := .list ([].map PyData.int)) hr.toRoom (dl_lst (by tm_at "g_mem") dls_nil) (dl_lst (by tm_at "g_mem") dls_nil) (shapedL []) (shapedL []) ?_
    rw [eqvL]
    refine ⟨false, rfl, ite_f ?_⟩
    tm_at "g"
    refine ge_call (El := NoX) A3 hr passA ?_
    tm_at "g"
    refine ⟨v1, rfl, fun t5 as5 l5 hl5 he5 => ?_⟩
    tm_at "g"
    refine go_cat (by tm_at "g_mem") (by tm_at "g_mem") (szL (by simp only [List.length_append, List.length_map, List.length_cons, List.length_nil]; omega)) fun r1 => ?_
    tm_at "g"
    refine ge_call (El := NoX) A4 hr passA ?_
    tm_at "g"
    refine ⟨v1, rfl, fun t6 as6 l6 hl6 he6 => ?_⟩
    tm_at "g"
    refine go_cat (by tm_at "g_mem") (by tm_at "g_mem") (szL (by simp only [List.length_append, List.length_map, List.length_cons, List.length_nil]; omega)) fun r2 => ?_
    tm_at "g"
    refine go_cat (by tm_at "g_mem") (by tm_at "g_mem") (szL (by simp only [List.length_append, List.length_map, List.length_cons, List.length_nil]; omega)) fun r3 => ?_
    tm_at "g"
    refine go_cat (by tm_at "g_mem") (by tm_at "g_mem") (szL (by simp only [List.length_append, List.length_map, List.length_cons, List.length_nil]; omega)) fun r4 => ?_
    tm_at "g"
    refine ge_err U15.1 hr ?_
    tm_at "g"
    refine ⟨rfl, fun f0 df0 => ?_⟩
    tm_at "g"
    refine ge_err U15.1 hr ?_
    tm_at "g"
    refine ⟨rfl, fun f1 df1 => ?_⟩
    tm_at "g"
    refine go_cat (by tm_at "g_mem") (by tm_at "g_mem") (szL (by simp only [List.length_append, List.length_map, List.length_cons, List.length_nil]; omega)) fun r5 => ?_
    tm_at "g"
    refine ge_err U16.1 hr ?_
    tm_at "g"
    refine ⟨rfl, fun f2 df2 => ?_⟩
    tm_at "g"
    refine ge_err U16.1 hr ?_
    tm_at "g"
    refine ⟨rfl, fun f3 df3 => ?_⟩
    tm_at "g"
    refine ge_errN0 N17 fun f4 => ?_
    tm_at "g"
    refine ge_errN0 N17 fun f5 => ?_
    tm_at "g"
    refine ge_errN0 N18 fun f6 => ?_
    tm_at "g"
    refine ge_errN0 N18 fun f7 => ?_
    tm_at "g"
    refine ge_errN0 N19 fun f8 => ?_
    tm_at "g"
    refine ge_errN0 N19 fun f9 => ?_
    tm_at "g"
    refine go_cat (by tm_at "g_mem") (by tm_at "g_mem") (szL (by simp only [List.length_append, List.length_map, List.length_cons, List.length_nil]; omega)) fun r6 => ?_
    tm_at "g"
    refine cutS (fun L0 => ∃ rows : List Addr, Sub ((p, penO c n3 m3) :: (c, celO ms) :: L) L0 ∧ (r6, HO.lst (rows.map V.ref)) ∈ L0 ∧ Prs D 0 rows L0 ∧ rows.length = 40) ?_ ?_
    · refine ⟨[e0, e1, e2, e3] ++ as5 ++ as6 ++ [e4, e5] ++ [e6, e7] ++ [f0, f1] ++ [f2, f3, f4, f5, f6, f7, f8, f9], sP.trans ?_, ?_, ?_, ?_⟩
      · exact Sub.sublist (by repeat (first | exact List.Sublist.refl _ | apply List.Sublist.cons | apply G.subl_app))
      · simp only [List.map_append, List.map_cons, List.map_nil]
        tm_at "g_memd"
      · have z0 : Prs D 0 [e0, e1, e2, e3] L0 := fun i a k => (fv i a k).ero
        have z5 : Prs D 2 as5 l5 := fun i a k => (he5 i a k).ero
        have z6 : Prs D 8 as6 l6 := fun i a k => (he6 i a k).ero
        have z7 : Prs D 13 [e4, e5] L0 := fun i a k => (fn i a k).ero
        have z8 : Prs D 14 [e6, e7] L0 := fun i a k => (fl i a k).ero
        refine Prs.app (n := 16) (k1 := 16) ?_ ?_ (by simp only [List.length_append, List.length_cons, List.length_nil]; omega) rfl
        · refine Prs.app (n := 15) (k1 := 15) ?_ ?_ (by simp only [List.length_append, List.length_cons, List.length_nil]; omega) rfl
          · refine Prs.app (n := 14) (k1 := 14) ?_ ?_ (by simp only [List.length_append, List.length_cons, List.length_nil]; omega) rfl
            · refine Prs.app (n := 13) (k1 := 13) ?_ ?_ (by simp only [List.length_append, List.length_cons, List.length_nil]; omega) rfl
              · refine Prs.app (n := 8) (k1 := 8) ?_ ?_ (by simp only [List.length_append, List.length_cons, List.length_nil]; omega) rfl
                · refine Prs.app (n := 2) (k1 := 2) ?_ ?_ rfl rfl
                  · exact z0.mono fun e m => (by tm_at "g_mem")
                  · exact z5.mono fun e m => (by repeat (first | with_reducible exact memL m | with_reducible apply memS | with_reducible apply memR))
                · exact z6.mono fun e m => (by repeat (first | with_reducible exact memL m | with_reducible apply memS | with_reducible apply memR))
              · exact z7.mono fun e m => (by tm_at "g_mem")
            · exact z8.mono fun e m => (by tm_at "g_mem")
          · intro i a k
            match i, k with
            | 0, k => cases k; show ErO (D 15) f0 _; exact .own (dd := df0) (by tm_at "g_mem") (by tm_at "g_mem")
            | 1, k => cases k; show ErO (D 15) f1 _; exact .own (dd := df1) (by tm_at "g_mem") (by tm_at "g_mem")
            | i + 2, k => cases k
        · intro i a k
          match i, k with
          | 0, k => cases k; show ErO (D 16) f2 _; exact .own (dd := df2) (by tm_at "g_mem") (by tm_at "g_mem")
          | 1, k => cases k; show ErO (D 16) f3 _; exact .own (dd := df3) (by tm_at "g_mem") (by tm_at "g_mem")
          | 2, k => cases k; show ErO (D 17) f4 _; exact .bare (by tm_at "g_mem")
          | 3, k => cases k; show ErO (D 17) f5 _; exact .bare (by tm_at "g_mem")
          | 4, k => cases k; show ErO (D 18) f6 _; exact .bare (by tm_at "g_mem")
          | 5, k => cases k; show ErO (D 18) f7 _; exact .bare (by tm_at "g_mem")
          | 6, k => cases k; show ErO (D 19) f8 _; exact .bare (by tm_at "g_mem")
          | 7, k => cases k; show ErO (D 19) f9 _; exact .bare (by tm_at "g_mem")
          | i + 8, k => cases k
      · simp only [List.length_append, List.length_cons, List.length_nil]
        omega
    rintro L0 ⟨rows, sP, mr, hrow, l40⟩
    refine gs_for (gi_enum ?_ B.enumerate)
    tm_at "g"
    refine loopL (fun k θ => ∃ v8 v9 v10, θ = ([("_law_script", some (.ref a)), ("_law_pen_here", some (.ref p)), ("_law_turn", some (.int (i : Int))), ("_law_one", some v1), ("_law_two", some v2), ("_law_valued", some (.ref pv)), ("_law_named", some (.ref pn)), ("_law_lines", some (.ref pl)), ("_law_rows", some (.ref r6)), ("_law_spot", v8), ("_law_error", v9), ("_law_number", v10)] : En)) ⟨u8, u9, u10, rfl⟩ (fun M h => h _ (by tm_at "g_mem")) ?_ ?_
    · rintro k x E2 θ hk ⟨T, x1, x2, rfl, rfl, ea, eb⟩ ⟨v8, v9, v10, rfl⟩
      obtain rfl := Option.some.inj ea
      obtain ⟨a', ha, rfl⟩ := refs_at eb
      have hk40 : k < 40 := by
        have z := (List.getElem?_eq_some_iff.mp ha).1
        omega
      have e0' := hrow k a' ha
      rw [Nat.zero_add] at e0'
      have j20 : k / 2 < 20 := by omega
      refine gg_tup mem0 ?_
      tm_at "g"
      refine ge_call (El := NoX) A2 hr passA ?_
      tm_at "g"
      refine ⟨a', D (k / 2), _, rfl, e0'.mono fun e m => memS m, T2.t _ j20, fun t => ?_⟩
      tm_at "g"
      refine ge_lcP (by tm_at "g_put") (gi_range1 ?_ B.range) (show blkC N_law (defScope s_law) _ [(_, List.idxOf _ N_law)] = true by decide +kernel)
      tm_at "g"
      refine ⟨by decide, ?_⟩
      refine pure_fn (p := fun _ => true) (g := fun i => .bl (i == k / 2)) (by decide) (fun i2 hi2 D2 acc s1 H1 C1 cl1 fp1 => ?_) fun D3 => ?_
      · refine gts_nil ⟨rfl, Sub.refl, fun _ s2 H2 C2 cl2 fp2 => ?_⟩
        tm_at "g"
        refine go_divS (by decide) (by decide) ?_
        refine go_eq ?_
        refine ⟨?_, Sub.refl⟩
        have e4 : decide ((i2 : Int) = (k : Int) / 2) = (i2 == k / 2) := by
          rw [Bool.eq_iff_iff, decide_eq_true_iff, beq_iff_eq]
          omega
        rw [e4]
      · refine go_neBL (ns := (List.range 20).map (· == k / 2)) (ms := (List.range 20).map (· == k / 2)) hr (by tm_at "g_mem") (by tm_at "g_mem") (by rw [List.map_map]; rfl) (by rw [List.filter_eq_self.mpr fun _ _ => rfl, List.map_map]; rfl) ?_
        rw [decide_eq_true rfl]
        refine ⟨_, rfl, ite_nt ?_⟩
        tm_at "g"
        refine gv_def NR.gC ?_
        tm_at "g"
        refine gc_isO (T2.t _ j20).ev (e0'.mono fun e m => (by tm_at "g_mem")) (.own _) (T2.kR _ j20) ?_
        tm_at "g"
        refine gc_isO (T2.t _ j20).ev (e0'.mono fun e m => (by tm_at "g_mem")) (.ty _) (T2.kV _ j20) ?_
        tm_at "g"
        refine gc_isO (T2.t _ j20).ev (e0'.mono fun e m => (by tm_at "g_mem")) (.ty _) (T2.kL _ j20) ?_
        tm_at "g"
        exact ⟨⟨_, _, _, rfl⟩, by tm_at "g_end"⟩
    · rintro θ N ⟨v8, v9, v10, rfl⟩ sN
      tm_at "g"
      exact ⟨_, _, _, _, _, _, _, _, _, _, n3, m3, rfl, sP.trans sN, b0, by omega, b2⟩
  rintro θ N ⟨u1, u2, u3, u4, u5, u6, u7, u8, u9, u10, n, m, rfl, sb, -, -, -⟩
  tm_at "g"
  refine ge_call (El := NoX) A2 hr passA ?_
  tm_at "g"
  refine ge_errN NR ?_
  tm_at "g"
  refine ⟨by decide, fun r1 => ?_⟩
  tm_at "g"
  refine ⟨r1, DR, _, rfl, .bare mem0, T2.tR, fun t => ?_⟩
  tm_at "g"
  refine go_rep mem0 (by decide) (by decide) (szL (show 1 * 20 ≤ 16777216 by decide)) fun y1 => ?_
  refine go_eqBL (ns := (List.range 20).map fun _ => false) (ms := List.replicate 20 false) hr (by tm_at "g_mem") mem0 (by rw [List.map_map]; rfl) (by rfl) ?_
  rw [show decide ((List.range 20).map (fun _ => false) = List.replicate 20 false) = true by decide]
  tm_at "g"
  refine ge_errN0 NR fun r2 => ?_
  tm_at "g"
  refine gc_isO T2.tR.ev (.bare (by tm_at "g_mem")) (.ty _) T2.kVR ?_
  tm_at "g"
  exact ⟨_, Sub.refl, q _⟩
end
theorem all_mk {l : PySem.W.OpenLaw} {q : Program} {w : World} {K : PySem.W.Frag} {h : Heap} {mg : Str → Option Value} {fa : Addr} {f0 f1 f2 f3 f4 f5 f6 f7 f8 : Addr} (X : K.In h) (G : h.Ns mainGlobals mg) (hfa : mg "law" = some (.ref fa))
    {od0 an0 od1 an1 od2 an2 od3 an3 od4 an4 od5 an5 od6 an6 od7 an7 od8 an8 : Option Addr} {sl0 sl1 sl2 sl3 sl4 sl5 sl6 sl7 sl8 : Array (Option Value)} {oc0 kV0 dc0 pm0 cd0 ct0 oc1 kV1 dc1 pm1 cd1 ct1 oc2 kV2 dc2 pm2 cd2 ct2 oc3 kV3 dc3 pm3 cd3 ct3 oc4 kV4 dc4 pm4 cd4 ct4 oc5 kV5 dc5 pm5 cd5 ct5 oc6 kV6 dc6 pm6 cd6 ct6 oc7 kV7 dc7 pm7 cd7 ct7 oc8 kV8 dc8 pm8 cd8 ct8 : Value}
    (a0 : PySem.W.nsIn K mainGlobals "_law_pen" = some (some (.ref f0))) (l0 : K.lookup f0 = some ⟨oc0, od0, .func (PySem.W.fnOf "_law_pen" "_law_pen" (defArgs s_law_pen) (defBody s_law_pen) (defScope s_law_pen) .none kV0 dc0 pm0 an0 cd0 ct0), sl0⟩) (c0 : PySem.W.codeIn K cd0 "_law_pen" = true) (k0 : PySem.W.keepIn K (.ref f0) = true)
    (a1 : PySem.W.nsIn K mainGlobals "_law_draw" = some (some (.ref f1))) (l1 : K.lookup f1 = some ⟨oc1, od1, .func (PySem.W.fnOf "_law_draw" "_law_draw" (defArgs s_law_draw) (defBody s_law_draw) (defScope s_law_draw) .none kV1 dc1 pm1 an1 cd1 ct1), sl1⟩) (c1 : PySem.W.codeIn K cd1 "_law_draw" = true) (k1 : PySem.W.keepIn K (.ref f1) = true)
    (a2 : PySem.W.nsIn K mainGlobals "_law_pick" = some (some (.ref f2))) (l2 : K.lookup f2 = some ⟨oc2, od2, .func (PySem.W.fnOf "_law_pick" "_law_pick" (defArgs s_law_pick) (defBody s_law_pick) (defScope s_law_pick) .none kV2 dc2 pm2 an2 cd2 ct2), sl2⟩) (c2 : PySem.W.codeIn K cd2 "_law_pick" = true) (k2 : PySem.W.keepIn K (.ref f2) = true)
    (a3 : PySem.W.nsIn K mainGlobals "_law_thing" = some (some (.ref f3))) (l3 : K.lookup f3 = some ⟨oc3, od3, .func (PySem.W.fnOf "_law_thing" "_law_thing" (defArgs s_law_thing) (defBody s_law_thing) (defScope s_law_thing) .none kV3 dc3 pm3 an3 cd3 ct3), sl3⟩) (c3 : PySem.W.codeIn K cd3 "_law_thing" = true) (k3 : PySem.W.keepIn K (.ref f3) = true)
    (a4 : PySem.W.nsIn K mainGlobals "_law_classes" = some (some (.ref f4))) (l4 : K.lookup f4 = some ⟨oc4, od4, .func (PySem.W.fnOf "_law_classes" "_law_classes" (defArgs s_law_classes) (defBody s_law_classes) (defScope s_law_classes) .none kV4 dc4 pm4 an4 cd4 ct4), sl4⟩) (c4 : PySem.W.codeIn K cd4 "_law_classes" = true) (k4 : PySem.W.keepIn K (.ref f4) = true)
    (a5 : PySem.W.nsIn K mainGlobals "_law_parted" = some (some (.ref f5))) (l5 : K.lookup f5 = some ⟨oc5, od5, .func (PySem.W.fnOf "_law_parted" "_law_parted" (defArgs s_law_parted) (defBody s_law_parted) (defScope s_law_parted) .none kV5 dc5 pm5 an5 cd5 ct5), sl5⟩) (c5 : PySem.W.codeIn K cd5 "_law_parted" = true) (k5 : PySem.W.keepIn K (.ref f5) = true)
    (a6 : PySem.W.nsIn K mainGlobals "_law_placed" = some (some (.ref f6))) (l6 : K.lookup f6 = some ⟨oc6, od6, .func (PySem.W.fnOf "_law_placed" "_law_placed" (defArgs s_law_placed) (defBody s_law_placed) (defScope s_law_placed) .none kV6 dc6 pm6 an6 cd6 ct6), sl6⟩) (c6 : PySem.W.codeIn K cd6 "_law_placed" = true) (k6 : PySem.W.keepIn K (.ref f6) = true)
    (a7 : PySem.W.nsIn K mainGlobals "_law_two_right" = some (some (.ref f7))) (l7 : K.lookup f7 = some ⟨oc7, od7, .func (PySem.W.fnOf "_law_two_right" "_law_two_right" (defArgs s_law_two_right) (defBody s_law_two_right) (defScope s_law_two_right) .none kV7 dc7 pm7 an7 cd7 ct7), sl7⟩) (c7 : PySem.W.codeIn K cd7 "_law_two_right" = true) (k7 : PySem.W.keepIn K (.ref f7) = true)
    (a8 : PySem.W.nsIn K mainGlobals "law" = some (some (.ref f8))) (l8 : K.lookup f8 = some ⟨oc8, od8, .func (PySem.W.fnOf "law" "law" (defArgs s_law) (defBody s_law) (defScope s_law) .none kV8 dc8 pm8 an8 cd8 ct8), sl8⟩) (c8 : PySem.W.codeIn K cd8 "law" = true) (k8 : PySem.W.keepIn K (.ref f8) = true)
    (z0 : PySem.W.nsIn K mainGlobals "len" = some none) (z1 : PySem.W.nsIn K mainGlobals "int" = some none) (z2 : PySem.W.nsIn K mainGlobals "abs" = some none) (z3 : PySem.W.nsIn K mainGlobals "min" = some none) (z4 : PySem.W.nsIn K mainGlobals "max" = some none) (z5 : PySem.W.nsIn K mainGlobals "range" = some none) (z6 : PySem.W.nsIn K mainGlobals "isinstance" = some none) (z7 : PySem.W.nsIn K mainGlobals "list" = some none) (z8 : PySem.W.nsIn K mainGlobals "tuple" = some none) (z9 : PySem.W.nsIn K mainGlobals "bool" = some none) (z10 : PySem.W.nsIn K mainGlobals "str" = some none) (z11 : PySem.W.nsIn K mainGlobals "repr" = some none) (z12 : PySem.W.nsIn K mainGlobals "sum" = some none) (z13 : PySem.W.nsIn K mainGlobals "sorted" = some none) (z14 : PySem.W.nsIn K mainGlobals "any" = some none) (z15 : PySem.W.nsIn K mainGlobals "all" = some none) (z16 : PySem.W.nsIn K mainGlobals "enumerate" = some none) (z17 : PySem.W.nsIn K mainGlobals "zip" = some none) (z18 : PySem.W.nsIn K mainGlobals "ValueError" = some none) (z19 : PySem.W.nsIn K mainGlobals "LookupError" = some none) (z20 : PySem.W.nsIn K mainGlobals "reversed" = some none) (z21 : PySem.W.nsIn K mainGlobals "set" = some none) (z22 : PySem.W.nsIn K mainGlobals "dict" = some none) (z23 : PySem.W.nsIn K mainGlobals "iter" = some none) (z24 : PySem.W.nsIn K mainGlobals "next" = some none) (z25 : PySem.W.nsIn K mainGlobals "type" = some none) (zs : PySem.W.nsIn K mainGlobals "super" = some none) (op : PySem.W.nsIn K cStatics "thirdparty.any" = some none)
    (g1 : PySem.W.specialIn K (.builtin "object.__class__") "__get__" = some (some (.builtin "getset_descriptor.__get__"))) (g2 : PySem.W.takesIn K (.builtin "object.__class__") = some true) (g3 : (l.prog.main.scope.names.lookup ("super" : Str)).isSome = false)
    {C_0 fI_0 c_0 cc_0 N_0 : Addr} {nm_0 qn_0 fl_0 : Str} {bs_0 bm_0 sub_0 : List Value} {sn_0 : List Str} {ab_0 : Bool} {col_0 : Option Bool} {k0_0 k1_0 k2_0 k3_0 k5_0 : Option Value} {oc_0 kV_0 doc_0 pm_0 ct_0 cl_0 ccl_0 : Value} {dd_0 od_0 an_0 cld_0 cdd_0 : Option Addr} {osl_0 csl_0 ccs_0 : Array (Option Value)} {vs_0 : Array Value} {tf_0 : Tok} {cd_0 : ClassData}
    (E_0 : ErrFacts l.prog K "BadNumber" "BadNumber.__init__" s_BadNumber_init C_0 fI_0 c_0 cc_0 nm_0 qn_0 N_0 bs_0 bm_0 sn_0 sub_0 ab_0 col_0 dd_0 k0_0 k1_0 k2_0 k3_0 k5_0 oc_0 kV_0 doc_0 pm_0 ct_0 cl_0 ccl_0 od_0 an_0 cld_0 cdd_0 osl_0 csl_0 ccs_0 vs_0 fl_0 tf_0 cd_0)
    (e0_0 : PySem.W.findIn K (.ref C_0) "value" = some none)
    {C_1 fI_1 c_1 cc_1 N_1 : Addr} {nm_1 qn_1 fl_1 : Str} {bs_1 bm_1 sub_1 : List Value} {sn_1 : List Str} {ab_1 : Bool} {col_1 : Option Bool} {k0_1 k1_1 k2_1 k3_1 k5_1 : Option Value} {oc_1 kV_1 doc_1 pm_1 ct_1 cl_1 ccl_1 : Value} {dd_1 od_1 an_1 cld_1 cdd_1 : Option Addr} {osl_1 csl_1 ccs_1 : Array (Option Value)} {vs_1 : Array Value} {tf_1 : Tok} {cd_1 : ClassData}
    (E_1 : ErrFacts l.prog K "BadLot" "BadLot.__init__" s_BadLot_init C_1 fI_1 c_1 cc_1 nm_1 qn_1 N_1 bs_1 bm_1 sn_1 sub_1 ab_1 col_1 dd_1 k0_1 k1_1 k2_1 k3_1 k5_1 oc_1 kV_1 doc_1 pm_1 ct_1 cl_1 ccl_1 od_1 an_1 cld_1 cdd_1 osl_1 csl_1 ccs_1 vs_1 fl_1 tf_1 cd_1)
    (e1_0 : PySem.W.findIn K (.ref C_1) "part" = some none)
    {C_2 fI_2 c_2 cc_2 N_2 : Addr} {nm_2 qn_2 fl_2 : Str} {bs_2 bm_2 sub_2 : List Value} {sn_2 : List Str} {ab_2 : Bool} {col_2 : Option Bool} {k0_2 k1_2 k2_2 k3_2 k5_2 : Option Value} {oc_2 kV_2 doc_2 pm_2 ct_2 cl_2 ccl_2 : Value} {dd_2 od_2 an_2 cld_2 cdd_2 : Option Addr} {osl_2 csl_2 ccs_2 : Array (Option Value)} {vs_2 : Array Value} {tf_2 : Tok} {cd_2 : ClassData}
    (E_2 : ErrFacts l.prog K "BadWheel" "BadWheel.__init__" s_BadWheel_init C_2 fI_2 c_2 cc_2 nm_2 qn_2 N_2 bs_2 bm_2 sn_2 sub_2 ab_2 col_2 dd_2 k0_2 k1_2 k2_2 k3_2 k5_2 oc_2 kV_2 doc_2 pm_2 ct_2 cl_2 ccl_2 od_2 an_2 cld_2 cdd_2 osl_2 csl_2 ccs_2 vs_2 fl_2 tf_2 cd_2)
    (e2_0 : PySem.W.findIn K (.ref C_2) "part" = some none)
    {C_3 fI_3 c_3 cc_3 N_3 : Addr} {nm_3 qn_3 fl_3 : Str} {bs_3 bm_3 sub_3 : List Value} {sn_3 : List Str} {ab_3 : Bool} {col_3 : Option Bool} {k0_3 k1_3 k2_3 k3_3 k5_3 : Option Value} {oc_3 kV_3 doc_3 pm_3 ct_3 cl_3 ccl_3 : Value} {dd_3 od_3 an_3 cld_3 cdd_3 : Option Addr} {osl_3 csl_3 ccs_3 : Array (Option Value)} {vs_3 : Array Value} {tf_3 : Tok} {cd_3 : ClassData}
    (E_3 : ErrFacts l.prog K "BadMeter" "BadMeter.__init__" s_BadMeter_init C_3 fI_3 c_3 cc_3 nm_3 qn_3 N_3 bs_3 bm_3 sn_3 sub_3 ab_3 col_3 dd_3 k0_3 k1_3 k2_3 k3_3 k5_3 oc_3 kV_3 doc_3 pm_3 ct_3 cl_3 ccl_3 od_3 an_3 cld_3 cdd_3 osl_3 csl_3 ccs_3 vs_3 fl_3 tf_3 cd_3)
    (e3_0 : PySem.W.findIn K (.ref C_3) "part" = some none)
    {C_4 fI_4 c_4 cc_4 N_4 : Addr} {nm_4 qn_4 fl_4 : Str} {bs_4 bm_4 sub_4 : List Value} {sn_4 : List Str} {ab_4 : Bool} {col_4 : Option Bool} {k0_4 k1_4 k2_4 k3_4 k5_4 : Option Value} {oc_4 kV_4 doc_4 pm_4 ct_4 cl_4 ccl_4 : Value} {dd_4 od_4 an_4 cld_4 cdd_4 : Option Addr} {osl_4 csl_4 ccs_4 : Array (Option Value)} {vs_4 : Array Value} {tf_4 : Tok} {cd_4 : ClassData}
    (E_4 : ErrFacts l.prog K "BadMark" "BadMark.__init__" s_BadMark_init C_4 fI_4 c_4 cc_4 nm_4 qn_4 N_4 bs_4 bm_4 sn_4 sub_4 ab_4 col_4 dd_4 k0_4 k1_4 k2_4 k3_4 k5_4 oc_4 kV_4 doc_4 pm_4 ct_4 cl_4 ccl_4 od_4 an_4 cld_4 cdd_4 osl_4 csl_4 ccs_4 vs_4 fl_4 tf_4 cd_4)
    (e4_0 : PySem.W.findIn K (.ref C_4) "at" = some none)
    {C_5 fI_5 c_5 cc_5 N_5 : Addr} {nm_5 qn_5 fl_5 : Str} {bs_5 bm_5 sub_5 : List Value} {sn_5 : List Str} {ab_5 : Bool} {col_5 : Option Bool} {k0_5 k1_5 k2_5 k3_5 k5_5 : Option Value} {oc_5 kV_5 doc_5 pm_5 ct_5 cl_5 ccl_5 : Value} {dd_5 od_5 an_5 cld_5 cdd_5 : Option Addr} {osl_5 csl_5 ccs_5 : Array (Option Value)} {vs_5 : Array Value} {tf_5 : Tok} {cd_5 : ClassData}
    (E_5 : ErrFacts l.prog K "BadValue" "BadValue.__init__" s_BadValue_init C_5 fI_5 c_5 cc_5 nm_5 qn_5 N_5 bs_5 bm_5 sn_5 sub_5 ab_5 col_5 dd_5 k0_5 k1_5 k2_5 k3_5 k5_5 oc_5 kV_5 doc_5 pm_5 ct_5 cl_5 ccl_5 od_5 an_5 cld_5 cdd_5 osl_5 csl_5 ccs_5 vs_5 fl_5 tf_5 cd_5)
    (e5_0 : PySem.W.findIn K (.ref C_5) "value" = some none)
    {C_6 fI_6 c_6 cc_6 N_6 : Addr} {nm_6 qn_6 fl_6 : Str} {bs_6 bm_6 sub_6 : List Value} {sn_6 : List Str} {ab_6 : Bool} {col_6 : Option Bool} {k0_6 k1_6 k2_6 k3_6 k5_6 : Option Value} {oc_6 kV_6 doc_6 pm_6 ct_6 cl_6 ccl_6 : Value} {dd_6 od_6 an_6 cld_6 cdd_6 : Option Addr} {osl_6 csl_6 ccs_6 : Array (Option Value)} {vs_6 : Array Value} {tf_6 : Tok} {cd_6 : ClassData}
    (E_6 : ErrFacts l.prog K "BadGear" "BadGear.__init__" s_BadGear_init C_6 fI_6 c_6 cc_6 nm_6 qn_6 N_6 bs_6 bm_6 sn_6 sub_6 ab_6 col_6 dd_6 k0_6 k1_6 k2_6 k3_6 k5_6 oc_6 kV_6 doc_6 pm_6 ct_6 cl_6 ccl_6 od_6 an_6 cld_6 cdd_6 osl_6 csl_6 ccs_6 vs_6 fl_6 tf_6 cd_6)
    (e6_0 : PySem.W.findIn K (.ref C_6) "at" = some none)
    {C_7 fI_7 c_7 cc_7 N_7 : Addr} {nm_7 qn_7 fl_7 : Str} {bs_7 bm_7 sub_7 : List Value} {sn_7 : List Str} {ab_7 : Bool} {col_7 : Option Bool} {k0_7 k1_7 k2_7 k3_7 k5_7 : Option Value} {oc_7 kV_7 doc_7 pm_7 ct_7 cl_7 ccl_7 : Value} {dd_7 od_7 an_7 cld_7 cdd_7 : Option Addr} {osl_7 csl_7 ccs_7 : Array (Option Value)} {vs_7 : Array Value} {tf_7 : Tok} {cd_7 : ClassData}
    (E_7 : ErrFacts l.prog K "BadShelf" "BadShelf.__init__" s_BadShelf_init C_7 fI_7 c_7 cc_7 nm_7 qn_7 N_7 bs_7 bm_7 sn_7 sub_7 ab_7 col_7 dd_7 k0_7 k1_7 k2_7 k3_7 k5_7 oc_7 kV_7 doc_7 pm_7 ct_7 cl_7 ccl_7 od_7 an_7 cld_7 cdd_7 osl_7 csl_7 ccs_7 vs_7 fl_7 tf_7 cd_7)
    (e7_0 : PySem.W.findIn K (.ref C_7) "part" = some none)
    {C_8 fI_8 c_8 cc_8 N_8 : Addr} {nm_8 qn_8 fl_8 : Str} {bs_8 bm_8 sub_8 : List Value} {sn_8 : List Str} {ab_8 : Bool} {col_8 : Option Bool} {k0_8 k1_8 k2_8 k3_8 k5_8 : Option Value} {oc_8 kV_8 doc_8 pm_8 ct_8 cl_8 ccl_8 : Value} {dd_8 od_8 an_8 cld_8 cdd_8 : Option Addr} {osl_8 csl_8 ccs_8 : Array (Option Value)} {vs_8 : Array Value} {tf_8 : Tok} {cd_8 : ClassData}
    (E_8 : ErrFacts l.prog K "BadLog" "BadLog.__init__" s_BadLog_init C_8 fI_8 c_8 cc_8 nm_8 qn_8 N_8 bs_8 bm_8 sn_8 sub_8 ab_8 col_8 dd_8 k0_8 k1_8 k2_8 k3_8 k5_8 oc_8 kV_8 doc_8 pm_8 ct_8 cl_8 ccl_8 od_8 an_8 cld_8 cdd_8 osl_8 csl_8 ccs_8 vs_8 fl_8 tf_8 cd_8)
    (e8_0 : PySem.W.findIn K (.ref C_8) "at" = some none)
    {C_9 fI_9 c_9 cc_9 N_9 : Addr} {nm_9 qn_9 fl_9 : Str} {bs_9 bm_9 sub_9 : List Value} {sn_9 : List Str} {ab_9 : Bool} {col_9 : Option Bool} {k0_9 k1_9 k2_9 k3_9 k5_9 : Option Value} {oc_9 kV_9 doc_9 pm_9 ct_9 cl_9 ccl_9 : Value} {dd_9 od_9 an_9 cld_9 cdd_9 : Option Addr} {osl_9 csl_9 ccs_9 : Array (Option Value)} {vs_9 : Array Value} {tf_9 : Tok} {cd_9 : ClassData}
    (E_9 : ErrFacts l.prog K "BadFollower" "BadFollower.__init__" s_BadFollower_init C_9 fI_9 c_9 cc_9 nm_9 qn_9 N_9 bs_9 bm_9 sn_9 sub_9 ab_9 col_9 dd_9 k0_9 k1_9 k2_9 k3_9 k5_9 oc_9 kV_9 doc_9 pm_9 ct_9 cl_9 ccl_9 od_9 an_9 cld_9 cdd_9 osl_9 csl_9 ccs_9 vs_9 fl_9 tf_9 cd_9)
    (e9_0 : PySem.W.findIn K (.ref C_9) "part" = some none)
    {C_10 fI_10 c_10 cc_10 N_10 : Addr} {nm_10 qn_10 fl_10 : Str} {bs_10 bm_10 sub_10 : List Value} {sn_10 : List Str} {ab_10 : Bool} {col_10 : Option Bool} {k0_10 k1_10 k2_10 k3_10 k5_10 : Option Value} {oc_10 kV_10 doc_10 pm_10 ct_10 cl_10 ccl_10 : Value} {dd_10 od_10 an_10 cld_10 cdd_10 : Option Addr} {osl_10 csl_10 ccs_10 : Array (Option Value)} {vs_10 : Array Value} {tf_10 : Tok} {cd_10 : ClassData}
    (E_10 : ErrFacts l.prog K "BadDeed" "BadDeed.__init__" s_BadDeed_init C_10 fI_10 c_10 cc_10 nm_10 qn_10 N_10 bs_10 bm_10 sn_10 sub_10 ab_10 col_10 dd_10 k0_10 k1_10 k2_10 k3_10 k5_10 oc_10 kV_10 doc_10 pm_10 ct_10 cl_10 ccl_10 od_10 an_10 cld_10 cdd_10 osl_10 csl_10 ccs_10 vs_10 fl_10 tf_10 cd_10)
    (e10_0 : PySem.W.findIn K (.ref C_10) "at" = some none)
    {C_11 fI_11 c_11 cc_11 N_11 : Addr} {nm_11 qn_11 fl_11 : Str} {bs_11 bm_11 sub_11 : List Value} {sn_11 : List Str} {ab_11 : Bool} {col_11 : Option Bool} {k0_11 k1_11 k2_11 k3_11 k5_11 : Option Value} {oc_11 kV_11 doc_11 pm_11 ct_11 cl_11 ccl_11 : Value} {dd_11 od_11 an_11 cld_11 cdd_11 : Option Addr} {osl_11 csl_11 ccs_11 : Array (Option Value)} {vs_11 : Array Value} {tf_11 : Tok} {cd_11 : ClassData}
    (E_11 : ErrFacts l.prog K "BadText" "BadText.__init__" s_BadText_init C_11 fI_11 c_11 cc_11 nm_11 qn_11 N_11 bs_11 bm_11 sn_11 sub_11 ab_11 col_11 dd_11 k0_11 k1_11 k2_11 k3_11 k5_11 oc_11 kV_11 doc_11 pm_11 ct_11 cl_11 ccl_11 od_11 an_11 cld_11 cdd_11 osl_11 csl_11 ccs_11 vs_11 fl_11 tf_11 cd_11)
    (e11_0 : PySem.W.findIn K (.ref C_11) "line" = some none)
    (e11_1 : PySem.W.findIn K (.ref C_11) "word" = some none)
    {C_12 fI_12 c_12 cc_12 N_12 : Addr} {nm_12 qn_12 fl_12 : Str} {bs_12 bm_12 sub_12 : List Value} {sn_12 : List Str} {ab_12 : Bool} {col_12 : Option Bool} {k0_12 k1_12 k2_12 k3_12 k5_12 : Option Value} {oc_12 kV_12 doc_12 pm_12 ct_12 cl_12 ccl_12 : Value} {dd_12 od_12 an_12 cld_12 cdd_12 : Option Addr} {osl_12 csl_12 ccs_12 : Array (Option Value)} {vs_12 : Array Value} {tf_12 : Tok} {cd_12 : ClassData}
    (E_12 : ErrFacts l.prog K "BadLine" "BadLine.__init__" s_BadLine_init C_12 fI_12 c_12 cc_12 nm_12 qn_12 N_12 bs_12 bm_12 sn_12 sub_12 ab_12 col_12 dd_12 k0_12 k1_12 k2_12 k3_12 k5_12 oc_12 kV_12 doc_12 pm_12 ct_12 cl_12 ccl_12 od_12 an_12 cld_12 cdd_12 osl_12 csl_12 ccs_12 vs_12 fl_12 tf_12 cd_12)
    (e12_0 : PySem.W.findIn K (.ref C_12) "word" = some none)
    {C_13 fI_13 c_13 cc_13 N_13 : Addr} {nm_13 qn_13 fl_13 : Str} {bs_13 bm_13 sub_13 : List Value} {sn_13 : List Str} {ab_13 : Bool} {col_13 : Option Bool} {k0_13 k1_13 k2_13 k3_13 k5_13 : Option Value} {oc_13 kV_13 doc_13 pm_13 ct_13 cl_13 ccl_13 : Value} {dd_13 od_13 an_13 cld_13 cdd_13 : Option Addr} {osl_13 csl_13 ccs_13 : Array (Option Value)} {vs_13 : Array Value} {tf_13 : Tok} {cd_13 : ClassData}
    (E_13 : ErrFacts l.prog K "NoName" "NoName.__init__" s_NoName_init C_13 fI_13 c_13 cc_13 nm_13 qn_13 N_13 bs_13 bm_13 sn_13 sub_13 ab_13 col_13 dd_13 k0_13 k1_13 k2_13 k3_13 k5_13 oc_13 kV_13 doc_13 pm_13 ct_13 cl_13 ccl_13 od_13 an_13 cld_13 cdd_13 osl_13 csl_13 ccs_13 vs_13 fl_13 tf_13 cd_13)
    (e13_0 : PySem.W.findIn K (.ref C_13) "name" = some none)
    {C_14 fI_14 c_14 cc_14 N_14 : Addr} {nm_14 qn_14 fl_14 : Str} {bs_14 bm_14 sub_14 : List Value} {sn_14 : List Str} {ab_14 : Bool} {col_14 : Option Bool} {k0_14 k1_14 k2_14 k3_14 k5_14 : Option Value} {oc_14 kV_14 doc_14 pm_14 ct_14 cl_14 ccl_14 : Value} {dd_14 od_14 an_14 cld_14 cdd_14 : Option Addr} {osl_14 csl_14 ccs_14 : Array (Option Value)} {vs_14 : Array Value} {tf_14 : Tok} {cd_14 : ClassData}
    (E_14 : ErrFacts l.prog K "NoPlace" "NoPlace.__init__" s_NoPlace_init C_14 fI_14 c_14 cc_14 nm_14 qn_14 N_14 bs_14 bm_14 sn_14 sub_14 ab_14 col_14 dd_14 k0_14 k1_14 k2_14 k3_14 k5_14 oc_14 kV_14 doc_14 pm_14 ct_14 cl_14 ccl_14 od_14 an_14 cld_14 cdd_14 osl_14 csl_14 ccs_14 vs_14 fl_14 tf_14 cd_14)
    (e14_0 : PySem.W.findIn K (.ref C_14) "at" = some none)
    {C_15 fI_15 c_15 cc_15 N_15 : Addr} {nm_15 qn_15 fl_15 : Str} {bs_15 bm_15 sub_15 : List Value} {sn_15 : List Str} {ab_15 : Bool} {col_15 : Option Bool} {k0_15 k1_15 k2_15 k3_15 k5_15 : Option Value} {oc_15 kV_15 doc_15 pm_15 ct_15 cl_15 ccl_15 : Value} {dd_15 od_15 an_15 cld_15 cdd_15 : Option Addr} {osl_15 csl_15 ccs_15 : Array (Option Value)} {vs_15 : Array Value} {tf_15 : Tok} {cd_15 : ClassData}
    (E_15 : ErrFacts l.prog K "Unlike" "Unlike.__init__" s_Unlike_init C_15 fI_15 c_15 cc_15 nm_15 qn_15 N_15 bs_15 bm_15 sn_15 sub_15 ab_15 col_15 dd_15 k0_15 k1_15 k2_15 k3_15 k5_15 oc_15 kV_15 doc_15 pm_15 ct_15 cl_15 ccl_15 od_15 an_15 cld_15 cdd_15 osl_15 csl_15 ccs_15 vs_15 fl_15 tf_15 cd_15)
    (e15_0 : PySem.W.findIn K (.ref C_15) "part" = some none)
    {C_16 fI_16 c_16 cc_16 N_16 : Addr} {nm_16 qn_16 fl_16 : Str} {bs_16 bm_16 sub_16 : List Value} {sn_16 : List Str} {ab_16 : Bool} {col_16 : Option Bool} {k0_16 k1_16 k2_16 k3_16 k5_16 : Option Value} {oc_16 kV_16 doc_16 pm_16 ct_16 cl_16 ccl_16 : Value} {dd_16 od_16 an_16 cld_16 cdd_16 : Option Addr} {osl_16 csl_16 ccs_16 : Array (Option Value)} {vs_16 : Array Value} {tf_16 : Tok} {cd_16 : ClassData}
    (E_16 : ErrFacts l.prog K "TooMany" "TooMany.__init__" s_TooMany_init C_16 fI_16 c_16 cc_16 nm_16 qn_16 N_16 bs_16 bm_16 sn_16 sub_16 ab_16 col_16 dd_16 k0_16 k1_16 k2_16 k3_16 k5_16 oc_16 kV_16 doc_16 pm_16 ct_16 cl_16 ccl_16 od_16 an_16 cld_16 cdd_16 osl_16 csl_16 ccs_16 vs_16 fl_16 tf_16 cd_16)
    (e16_0 : PySem.W.findIn K (.ref C_16) "what" = some none)
    (e16_1 : PySem.W.findIn K (.ref C_16) "most" = some none)
    {D_0 : Addr} (d0 : PySem.W.nsIn K mainGlobals "ReachError" = some (some (.ref D_0)))
    {D_1 : Addr} (d1 : PySem.W.nsIn K mainGlobals "NoMember" = some (some (.ref D_1)))
    {D_2 : Addr} (d2 : PySem.W.nsIn K mainGlobals "Unfit" = some (some (.ref D_2)))
    {D_3 : Addr} (d3 : PySem.W.nsIn K mainGlobals "Nothing" = some (some (.ref D_3)))
    (na_NoMember : PySem.W.excIn K D_1 [.type "ValueError", .type "Exception", .type "BaseException", .type "object"] "ValueError.__new__" = true)
    (nb_NoMember : PySem.W.keepIn K (.ref D_1) = true)
    (nc_NoMember : PySem.W.findIn K (.ref D_1) "__getattribute__" = some (some (.builtin "BaseException.__getattribute__")))
    (nd_NoMember : PySem.W.findIn K (.ref D_1) "__getattr__" = some none)
    (ne_NoMember : PySem.W.subIn K (.ref D_1) (.type "BaseException") = some true)
    (nf_NoMember : PySem.W.hasDictIn K D_1 = true)
    (ng_NoMember : PySem.W.findIn K (.ref D_1) "__class__" = some (some (.builtin "object.__class__")))
    (nh_NoMember : PySem.W.mroIn K D_1 (.type "object") = some true)
    (na_Unfit : PySem.W.excIn K D_2 [.type "ValueError", .type "Exception", .type "BaseException", .type "object"] "ValueError.__new__" = true)
    (nb_Unfit : PySem.W.keepIn K (.ref D_2) = true)
    (nc_Unfit : PySem.W.findIn K (.ref D_2) "__getattribute__" = some (some (.builtin "BaseException.__getattribute__")))
    (nd_Unfit : PySem.W.findIn K (.ref D_2) "__getattr__" = some none)
    (ne_Unfit : PySem.W.subIn K (.ref D_2) (.type "BaseException") = some true)
    (nf_Unfit : PySem.W.hasDictIn K D_2 = true)
    (ng_Unfit : PySem.W.findIn K (.ref D_2) "__class__" = some (some (.builtin "object.__class__")))
    (nh_Unfit : PySem.W.mroIn K D_2 (.type "object") = some true)
    (na_Nothing : PySem.W.excIn K D_3 [.type "ValueError", .type "Exception", .type "BaseException", .type "object"] "ValueError.__new__" = true)
    (nb_Nothing : PySem.W.keepIn K (.ref D_3) = true)
    (nc_Nothing : PySem.W.findIn K (.ref D_3) "__getattribute__" = some (some (.builtin "BaseException.__getattribute__")))
    (nd_Nothing : PySem.W.findIn K (.ref D_3) "__getattr__" = some none)
    (ne_Nothing : PySem.W.subIn K (.ref D_3) (.type "BaseException") = some true)
    (nf_Nothing : PySem.W.hasDictIn K D_3 = true)
    (ng_Nothing : PySem.W.findIn K (.ref D_3) "__class__" = some (some (.builtin "object.__class__")))
    (nh_Nothing : PySem.W.mroIn K D_3 (.type "object") = some true)
    (na_ReachError : PySem.W.excIn K D_0 [.type "ValueError", .type "Exception", .type "BaseException", .type "object"] "ValueError.__new__" = true)
    (nb_ReachError : PySem.W.keepIn K (.ref D_0) = true)
    (nc_ReachError : PySem.W.findIn K (.ref D_0) "__getattribute__" = some (some (.builtin "BaseException.__getattribute__")))
    (nd_ReachError : PySem.W.findIn K (.ref D_0) "__getattr__" = some none)
    (ne_ReachError : PySem.W.subIn K (.ref D_0) (.type "BaseException") = some true)
    (nf_ReachError : PySem.W.hasDictIn K D_0 = true)
    (ng_ReachError : PySem.W.findIn K (.ref D_0) "__class__" = some (some (.builtin "object.__class__")))
    (nh_ReachError : PySem.W.mroIn K D_0 (.type "object") = some true)
    (k_0_0 : PySem.W.kitOne K (.ref C_0) (.ref C_0) = some true)
    (k_0_1 : PySem.W.kitOne K (.ref C_0) (.ref C_5) = some false)
    (k_0_2 : PySem.W.kitOne K (.ref C_0) (.ref C_1) = some false)
    (k_0_3 : PySem.W.kitOne K (.ref C_0) (.ref C_2) = some false)
    (k_0_4 : PySem.W.kitOne K (.ref C_0) (.ref C_3) = some false)
    (k_0_5 : PySem.W.kitOne K (.ref C_0) (.ref C_7) = some false)
    (k_0_6 : PySem.W.kitOne K (.ref C_0) (.ref C_9) = some false)
    (k_0_7 : PySem.W.kitOne K (.ref C_0) (.ref C_15) = some false)
    (k_0_8 : PySem.W.kitOne K (.ref C_0) (.ref C_4) = some false)
    (k_0_9 : PySem.W.kitOne K (.ref C_0) (.ref C_6) = some false)
    (k_0_10 : PySem.W.kitOne K (.ref C_0) (.ref C_8) = some false)
    (k_0_11 : PySem.W.kitOne K (.ref C_0) (.ref C_10) = some false)
    (k_0_12 : PySem.W.kitOne K (.ref C_0) (.ref C_14) = some false)
    (k_0_13 : PySem.W.kitOne K (.ref C_0) (.ref C_13) = some false)
    (k_0_14 : PySem.W.kitOne K (.ref C_0) (.ref C_12) = some false)
    (k_0_15 : PySem.W.kitOne K (.ref C_0) (.ref C_11) = some false)
    (k_0_16 : PySem.W.kitOne K (.ref C_0) (.ref C_16) = some false)
    (k_0_17 : PySem.W.kitOne K (.ref C_0) (.ref D_1) = some false)
    (k_0_18 : PySem.W.kitOne K (.ref C_0) (.ref D_2) = some false)
    (k_0_19 : PySem.W.kitOne K (.ref C_0) (.ref D_3) = some false)
    (kR_0 : PySem.W.kitOne K (.ref C_0) (.ref D_0) = some true)
    (kV_0 : PySem.W.kitOne K (.ref C_0) (.type "ValueError") = some true)
    (kL_0 : PySem.W.kitOne K (.ref C_0) (.type "LookupError") = some false)
    (k_1_0 : PySem.W.kitOne K (.ref C_5) (.ref C_0) = some false)
    (k_1_1 : PySem.W.kitOne K (.ref C_5) (.ref C_5) = some true)
    (k_1_2 : PySem.W.kitOne K (.ref C_5) (.ref C_1) = some false)
    (k_1_3 : PySem.W.kitOne K (.ref C_5) (.ref C_2) = some false)
    (k_1_4 : PySem.W.kitOne K (.ref C_5) (.ref C_3) = some false)
    (k_1_5 : PySem.W.kitOne K (.ref C_5) (.ref C_7) = some false)
    (k_1_6 : PySem.W.kitOne K (.ref C_5) (.ref C_9) = some false)
    (k_1_7 : PySem.W.kitOne K (.ref C_5) (.ref C_15) = some false)
    (k_1_8 : PySem.W.kitOne K (.ref C_5) (.ref C_4) = some false)
    (k_1_9 : PySem.W.kitOne K (.ref C_5) (.ref C_6) = some false)
    (k_1_10 : PySem.W.kitOne K (.ref C_5) (.ref C_8) = some false)
    (k_1_11 : PySem.W.kitOne K (.ref C_5) (.ref C_10) = some false)
    (k_1_12 : PySem.W.kitOne K (.ref C_5) (.ref C_14) = some false)
    (k_1_13 : PySem.W.kitOne K (.ref C_5) (.ref C_13) = some false)
    (k_1_14 : PySem.W.kitOne K (.ref C_5) (.ref C_12) = some false)
    (k_1_15 : PySem.W.kitOne K (.ref C_5) (.ref C_11) = some false)
    (k_1_16 : PySem.W.kitOne K (.ref C_5) (.ref C_16) = some false)
    (k_1_17 : PySem.W.kitOne K (.ref C_5) (.ref D_1) = some false)
    (k_1_18 : PySem.W.kitOne K (.ref C_5) (.ref D_2) = some false)
    (k_1_19 : PySem.W.kitOne K (.ref C_5) (.ref D_3) = some false)
    (kR_1 : PySem.W.kitOne K (.ref C_5) (.ref D_0) = some true)
    (kV_1 : PySem.W.kitOne K (.ref C_5) (.type "ValueError") = some true)
    (kL_1 : PySem.W.kitOne K (.ref C_5) (.type "LookupError") = some false)
    (k_2_0 : PySem.W.kitOne K (.ref C_1) (.ref C_0) = some false)
    (k_2_1 : PySem.W.kitOne K (.ref C_1) (.ref C_5) = some false)
    (k_2_2 : PySem.W.kitOne K (.ref C_1) (.ref C_1) = some true)
    (k_2_3 : PySem.W.kitOne K (.ref C_1) (.ref C_2) = some false)
    (k_2_4 : PySem.W.kitOne K (.ref C_1) (.ref C_3) = some false)
    (k_2_5 : PySem.W.kitOne K (.ref C_1) (.ref C_7) = some false)
    (k_2_6 : PySem.W.kitOne K (.ref C_1) (.ref C_9) = some false)
    (k_2_7 : PySem.W.kitOne K (.ref C_1) (.ref C_15) = some false)
    (k_2_8 : PySem.W.kitOne K (.ref C_1) (.ref C_4) = some false)
    (k_2_9 : PySem.W.kitOne K (.ref C_1) (.ref C_6) = some false)
    (k_2_10 : PySem.W.kitOne K (.ref C_1) (.ref C_8) = some false)
    (k_2_11 : PySem.W.kitOne K (.ref C_1) (.ref C_10) = some false)
    (k_2_12 : PySem.W.kitOne K (.ref C_1) (.ref C_14) = some false)
    (k_2_13 : PySem.W.kitOne K (.ref C_1) (.ref C_13) = some false)
    (k_2_14 : PySem.W.kitOne K (.ref C_1) (.ref C_12) = some false)
    (k_2_15 : PySem.W.kitOne K (.ref C_1) (.ref C_11) = some false)
    (k_2_16 : PySem.W.kitOne K (.ref C_1) (.ref C_16) = some false)
    (k_2_17 : PySem.W.kitOne K (.ref C_1) (.ref D_1) = some false)
    (k_2_18 : PySem.W.kitOne K (.ref C_1) (.ref D_2) = some false)
    (k_2_19 : PySem.W.kitOne K (.ref C_1) (.ref D_3) = some false)
    (kR_2 : PySem.W.kitOne K (.ref C_1) (.ref D_0) = some true)
    (kV_2 : PySem.W.kitOne K (.ref C_1) (.type "ValueError") = some true)
    (kL_2 : PySem.W.kitOne K (.ref C_1) (.type "LookupError") = some false)
    (k_3_0 : PySem.W.kitOne K (.ref C_2) (.ref C_0) = some false)
    (k_3_1 : PySem.W.kitOne K (.ref C_2) (.ref C_5) = some false)
    (k_3_2 : PySem.W.kitOne K (.ref C_2) (.ref C_1) = some false)
    (k_3_3 : PySem.W.kitOne K (.ref C_2) (.ref C_2) = some true)
    (k_3_4 : PySem.W.kitOne K (.ref C_2) (.ref C_3) = some false)
    (k_3_5 : PySem.W.kitOne K (.ref C_2) (.ref C_7) = some false)
    (k_3_6 : PySem.W.kitOne K (.ref C_2) (.ref C_9) = some false)
    (k_3_7 : PySem.W.kitOne K (.ref C_2) (.ref C_15) = some false)
    (k_3_8 : PySem.W.kitOne K (.ref C_2) (.ref C_4) = some false)
    (k_3_9 : PySem.W.kitOne K (.ref C_2) (.ref C_6) = some false)
    (k_3_10 : PySem.W.kitOne K (.ref C_2) (.ref C_8) = some false)
    (k_3_11 : PySem.W.kitOne K (.ref C_2) (.ref C_10) = some false)
    (k_3_12 : PySem.W.kitOne K (.ref C_2) (.ref C_14) = some false)
    (k_3_13 : PySem.W.kitOne K (.ref C_2) (.ref C_13) = some false)
    (k_3_14 : PySem.W.kitOne K (.ref C_2) (.ref C_12) = some false)
    (k_3_15 : PySem.W.kitOne K (.ref C_2) (.ref C_11) = some false)
    (k_3_16 : PySem.W.kitOne K (.ref C_2) (.ref C_16) = some false)
    (k_3_17 : PySem.W.kitOne K (.ref C_2) (.ref D_1) = some false)
    (k_3_18 : PySem.W.kitOne K (.ref C_2) (.ref D_2) = some false)
    (k_3_19 : PySem.W.kitOne K (.ref C_2) (.ref D_3) = some false)
    (kR_3 : PySem.W.kitOne K (.ref C_2) (.ref D_0) = some true)
    (kV_3 : PySem.W.kitOne K (.ref C_2) (.type "ValueError") = some true)
    (kL_3 : PySem.W.kitOne K (.ref C_2) (.type "LookupError") = some false)
    (k_4_0 : PySem.W.kitOne K (.ref C_3) (.ref C_0) = some false)
    (k_4_1 : PySem.W.kitOne K (.ref C_3) (.ref C_5) = some false)
    (k_4_2 : PySem.W.kitOne K (.ref C_3) (.ref C_1) = some false)
    (k_4_3 : PySem.W.kitOne K (.ref C_3) (.ref C_2) = some false)
    (k_4_4 : PySem.W.kitOne K (.ref C_3) (.ref C_3) = some true)
    (k_4_5 : PySem.W.kitOne K (.ref C_3) (.ref C_7) = some false)
    (k_4_6 : PySem.W.kitOne K (.ref C_3) (.ref C_9) = some false)
    (k_4_7 : PySem.W.kitOne K (.ref C_3) (.ref C_15) = some false)
    (k_4_8 : PySem.W.kitOne K (.ref C_3) (.ref C_4) = some false)
    (k_4_9 : PySem.W.kitOne K (.ref C_3) (.ref C_6) = some false)
    (k_4_10 : PySem.W.kitOne K (.ref C_3) (.ref C_8) = some false)
    (k_4_11 : PySem.W.kitOne K (.ref C_3) (.ref C_10) = some false)
    (k_4_12 : PySem.W.kitOne K (.ref C_3) (.ref C_14) = some false)
    (k_4_13 : PySem.W.kitOne K (.ref C_3) (.ref C_13) = some false)
    (k_4_14 : PySem.W.kitOne K (.ref C_3) (.ref C_12) = some false)
    (k_4_15 : PySem.W.kitOne K (.ref C_3) (.ref C_11) = some false)
    (k_4_16 : PySem.W.kitOne K (.ref C_3) (.ref C_16) = some false)
    (k_4_17 : PySem.W.kitOne K (.ref C_3) (.ref D_1) = some false)
    (k_4_18 : PySem.W.kitOne K (.ref C_3) (.ref D_2) = some false)
    (k_4_19 : PySem.W.kitOne K (.ref C_3) (.ref D_3) = some false)
    (kR_4 : PySem.W.kitOne K (.ref C_3) (.ref D_0) = some true)
    (kV_4 : PySem.W.kitOne K (.ref C_3) (.type "ValueError") = some true)
    (kL_4 : PySem.W.kitOne K (.ref C_3) (.type "LookupError") = some false)
    (k_5_0 : PySem.W.kitOne K (.ref C_7) (.ref C_0) = some false)
    (k_5_1 : PySem.W.kitOne K (.ref C_7) (.ref C_5) = some false)
    (k_5_2 : PySem.W.kitOne K (.ref C_7) (.ref C_1) = some false)
    (k_5_3 : PySem.W.kitOne K (.ref C_7) (.ref C_2) = some false)
    (k_5_4 : PySem.W.kitOne K (.ref C_7) (.ref C_3) = some false)
    (k_5_5 : PySem.W.kitOne K (.ref C_7) (.ref C_7) = some true)
    (k_5_6 : PySem.W.kitOne K (.ref C_7) (.ref C_9) = some false)
    (k_5_7 : PySem.W.kitOne K (.ref C_7) (.ref C_15) = some false)
    (k_5_8 : PySem.W.kitOne K (.ref C_7) (.ref C_4) = some false)
    (k_5_9 : PySem.W.kitOne K (.ref C_7) (.ref C_6) = some false)
    (k_5_10 : PySem.W.kitOne K (.ref C_7) (.ref C_8) = some false)
    (k_5_11 : PySem.W.kitOne K (.ref C_7) (.ref C_10) = some false)
    (k_5_12 : PySem.W.kitOne K (.ref C_7) (.ref C_14) = some false)
    (k_5_13 : PySem.W.kitOne K (.ref C_7) (.ref C_13) = some false)
    (k_5_14 : PySem.W.kitOne K (.ref C_7) (.ref C_12) = some false)
    (k_5_15 : PySem.W.kitOne K (.ref C_7) (.ref C_11) = some false)
    (k_5_16 : PySem.W.kitOne K (.ref C_7) (.ref C_16) = some false)
    (k_5_17 : PySem.W.kitOne K (.ref C_7) (.ref D_1) = some false)
    (k_5_18 : PySem.W.kitOne K (.ref C_7) (.ref D_2) = some false)
    (k_5_19 : PySem.W.kitOne K (.ref C_7) (.ref D_3) = some false)
    (kR_5 : PySem.W.kitOne K (.ref C_7) (.ref D_0) = some true)
    (kV_5 : PySem.W.kitOne K (.ref C_7) (.type "ValueError") = some true)
    (kL_5 : PySem.W.kitOne K (.ref C_7) (.type "LookupError") = some false)
    (k_6_0 : PySem.W.kitOne K (.ref C_9) (.ref C_0) = some false)
    (k_6_1 : PySem.W.kitOne K (.ref C_9) (.ref C_5) = some false)
    (k_6_2 : PySem.W.kitOne K (.ref C_9) (.ref C_1) = some false)
    (k_6_3 : PySem.W.kitOne K (.ref C_9) (.ref C_2) = some false)
    (k_6_4 : PySem.W.kitOne K (.ref C_9) (.ref C_3) = some false)
    (k_6_5 : PySem.W.kitOne K (.ref C_9) (.ref C_7) = some false)
    (k_6_6 : PySem.W.kitOne K (.ref C_9) (.ref C_9) = some true)
    (k_6_7 : PySem.W.kitOne K (.ref C_9) (.ref C_15) = some false)
    (k_6_8 : PySem.W.kitOne K (.ref C_9) (.ref C_4) = some false)
    (k_6_9 : PySem.W.kitOne K (.ref C_9) (.ref C_6) = some false)
    (k_6_10 : PySem.W.kitOne K (.ref C_9) (.ref C_8) = some false)
    (k_6_11 : PySem.W.kitOne K (.ref C_9) (.ref C_10) = some false)
    (k_6_12 : PySem.W.kitOne K (.ref C_9) (.ref C_14) = some false)
    (k_6_13 : PySem.W.kitOne K (.ref C_9) (.ref C_13) = some false)
    (k_6_14 : PySem.W.kitOne K (.ref C_9) (.ref C_12) = some false)
    (k_6_15 : PySem.W.kitOne K (.ref C_9) (.ref C_11) = some false)
    (k_6_16 : PySem.W.kitOne K (.ref C_9) (.ref C_16) = some false)
    (k_6_17 : PySem.W.kitOne K (.ref C_9) (.ref D_1) = some false)
    (k_6_18 : PySem.W.kitOne K (.ref C_9) (.ref D_2) = some false)
    (k_6_19 : PySem.W.kitOne K (.ref C_9) (.ref D_3) = some false)
    (kR_6 : PySem.W.kitOne K (.ref C_9) (.ref D_0) = some true)
    (kV_6 : PySem.W.kitOne K (.ref C_9) (.type "ValueError") = some true)
    (kL_6 : PySem.W.kitOne K (.ref C_9) (.type "LookupError") = some false)
    (k_7_0 : PySem.W.kitOne K (.ref C_15) (.ref C_0) = some false)
    (k_7_1 : PySem.W.kitOne K (.ref C_15) (.ref C_5) = some false)
    (k_7_2 : PySem.W.kitOne K (.ref C_15) (.ref C_1) = some false)
    (k_7_3 : PySem.W.kitOne K (.ref C_15) (.ref C_2) = some false)
    (k_7_4 : PySem.W.kitOne K (.ref C_15) (.ref C_3) = some false)
    (k_7_5 : PySem.W.kitOne K (.ref C_15) (.ref C_7) = some false)
    (k_7_6 : PySem.W.kitOne K (.ref C_15) (.ref C_9) = some false)
    (k_7_7 : PySem.W.kitOne K (.ref C_15) (.ref C_15) = some true)
    (k_7_8 : PySem.W.kitOne K (.ref C_15) (.ref C_4) = some false)
    (k_7_9 : PySem.W.kitOne K (.ref C_15) (.ref C_6) = some false)
    (k_7_10 : PySem.W.kitOne K (.ref C_15) (.ref C_8) = some false)
    (k_7_11 : PySem.W.kitOne K (.ref C_15) (.ref C_10) = some false)
    (k_7_12 : PySem.W.kitOne K (.ref C_15) (.ref C_14) = some false)
    (k_7_13 : PySem.W.kitOne K (.ref C_15) (.ref C_13) = some false)
    (k_7_14 : PySem.W.kitOne K (.ref C_15) (.ref C_12) = some false)
    (k_7_15 : PySem.W.kitOne K (.ref C_15) (.ref C_11) = some false)
    (k_7_16 : PySem.W.kitOne K (.ref C_15) (.ref C_16) = some false)
    (k_7_17 : PySem.W.kitOne K (.ref C_15) (.ref D_1) = some false)
    (k_7_18 : PySem.W.kitOne K (.ref C_15) (.ref D_2) = some false)
    (k_7_19 : PySem.W.kitOne K (.ref C_15) (.ref D_3) = some false)
    (kR_7 : PySem.W.kitOne K (.ref C_15) (.ref D_0) = some true)
    (kV_7 : PySem.W.kitOne K (.ref C_15) (.type "ValueError") = some true)
    (kL_7 : PySem.W.kitOne K (.ref C_15) (.type "LookupError") = some false)
    (k_8_0 : PySem.W.kitOne K (.ref C_4) (.ref C_0) = some false)
    (k_8_1 : PySem.W.kitOne K (.ref C_4) (.ref C_5) = some false)
    (k_8_2 : PySem.W.kitOne K (.ref C_4) (.ref C_1) = some false)
    (k_8_3 : PySem.W.kitOne K (.ref C_4) (.ref C_2) = some false)
    (k_8_4 : PySem.W.kitOne K (.ref C_4) (.ref C_3) = some false)
    (k_8_5 : PySem.W.kitOne K (.ref C_4) (.ref C_7) = some false)
    (k_8_6 : PySem.W.kitOne K (.ref C_4) (.ref C_9) = some false)
    (k_8_7 : PySem.W.kitOne K (.ref C_4) (.ref C_15) = some false)
    (k_8_8 : PySem.W.kitOne K (.ref C_4) (.ref C_4) = some true)
    (k_8_9 : PySem.W.kitOne K (.ref C_4) (.ref C_6) = some false)
    (k_8_10 : PySem.W.kitOne K (.ref C_4) (.ref C_8) = some false)
    (k_8_11 : PySem.W.kitOne K (.ref C_4) (.ref C_10) = some false)
    (k_8_12 : PySem.W.kitOne K (.ref C_4) (.ref C_14) = some false)
    (k_8_13 : PySem.W.kitOne K (.ref C_4) (.ref C_13) = some false)
    (k_8_14 : PySem.W.kitOne K (.ref C_4) (.ref C_12) = some false)
    (k_8_15 : PySem.W.kitOne K (.ref C_4) (.ref C_11) = some false)
    (k_8_16 : PySem.W.kitOne K (.ref C_4) (.ref C_16) = some false)
    (k_8_17 : PySem.W.kitOne K (.ref C_4) (.ref D_1) = some false)
    (k_8_18 : PySem.W.kitOne K (.ref C_4) (.ref D_2) = some false)
    (k_8_19 : PySem.W.kitOne K (.ref C_4) (.ref D_3) = some false)
    (kR_8 : PySem.W.kitOne K (.ref C_4) (.ref D_0) = some true)
    (kV_8 : PySem.W.kitOne K (.ref C_4) (.type "ValueError") = some true)
    (kL_8 : PySem.W.kitOne K (.ref C_4) (.type "LookupError") = some false)
    (k_9_0 : PySem.W.kitOne K (.ref C_6) (.ref C_0) = some false)
    (k_9_1 : PySem.W.kitOne K (.ref C_6) (.ref C_5) = some false)
    (k_9_2 : PySem.W.kitOne K (.ref C_6) (.ref C_1) = some false)
    (k_9_3 : PySem.W.kitOne K (.ref C_6) (.ref C_2) = some false)
    (k_9_4 : PySem.W.kitOne K (.ref C_6) (.ref C_3) = some false)
    (k_9_5 : PySem.W.kitOne K (.ref C_6) (.ref C_7) = some false)
    (k_9_6 : PySem.W.kitOne K (.ref C_6) (.ref C_9) = some false)
    (k_9_7 : PySem.W.kitOne K (.ref C_6) (.ref C_15) = some false)
    (k_9_8 : PySem.W.kitOne K (.ref C_6) (.ref C_4) = some false)
    (k_9_9 : PySem.W.kitOne K (.ref C_6) (.ref C_6) = some true)
    (k_9_10 : PySem.W.kitOne K (.ref C_6) (.ref C_8) = some false)
    (k_9_11 : PySem.W.kitOne K (.ref C_6) (.ref C_10) = some false)
    (k_9_12 : PySem.W.kitOne K (.ref C_6) (.ref C_14) = some false)
    (k_9_13 : PySem.W.kitOne K (.ref C_6) (.ref C_13) = some false)
    (k_9_14 : PySem.W.kitOne K (.ref C_6) (.ref C_12) = some false)
    (k_9_15 : PySem.W.kitOne K (.ref C_6) (.ref C_11) = some false)
    (k_9_16 : PySem.W.kitOne K (.ref C_6) (.ref C_16) = some false)
    (k_9_17 : PySem.W.kitOne K (.ref C_6) (.ref D_1) = some false)
    (k_9_18 : PySem.W.kitOne K (.ref C_6) (.ref D_2) = some false)
    (k_9_19 : PySem.W.kitOne K (.ref C_6) (.ref D_3) = some false)
    (kR_9 : PySem.W.kitOne K (.ref C_6) (.ref D_0) = some true)
    (kV_9 : PySem.W.kitOne K (.ref C_6) (.type "ValueError") = some true)
    (kL_9 : PySem.W.kitOne K (.ref C_6) (.type "LookupError") = some false)
    (k_10_0 : PySem.W.kitOne K (.ref C_8) (.ref C_0) = some false)
    (k_10_1 : PySem.W.kitOne K (.ref C_8) (.ref C_5) = some false)
    (k_10_2 : PySem.W.kitOne K (.ref C_8) (.ref C_1) = some false)
    (k_10_3 : PySem.W.kitOne K (.ref C_8) (.ref C_2) = some false)
    (k_10_4 : PySem.W.kitOne K (.ref C_8) (.ref C_3) = some false)
    (k_10_5 : PySem.W.kitOne K (.ref C_8) (.ref C_7) = some false)
    (k_10_6 : PySem.W.kitOne K (.ref C_8) (.ref C_9) = some false)
    (k_10_7 : PySem.W.kitOne K (.ref C_8) (.ref C_15) = some false)
    (k_10_8 : PySem.W.kitOne K (.ref C_8) (.ref C_4) = some false)
    (k_10_9 : PySem.W.kitOne K (.ref C_8) (.ref C_6) = some false)
    (k_10_10 : PySem.W.kitOne K (.ref C_8) (.ref C_8) = some true)
    (k_10_11 : PySem.W.kitOne K (.ref C_8) (.ref C_10) = some false)
    (k_10_12 : PySem.W.kitOne K (.ref C_8) (.ref C_14) = some false)
    (k_10_13 : PySem.W.kitOne K (.ref C_8) (.ref C_13) = some false)
    (k_10_14 : PySem.W.kitOne K (.ref C_8) (.ref C_12) = some false)
    (k_10_15 : PySem.W.kitOne K (.ref C_8) (.ref C_11) = some false)
    (k_10_16 : PySem.W.kitOne K (.ref C_8) (.ref C_16) = some false)
    (k_10_17 : PySem.W.kitOne K (.ref C_8) (.ref D_1) = some false)
    (k_10_18 : PySem.W.kitOne K (.ref C_8) (.ref D_2) = some false)
    (k_10_19 : PySem.W.kitOne K (.ref C_8) (.ref D_3) = some false)
    (kR_10 : PySem.W.kitOne K (.ref C_8) (.ref D_0) = some true)
    (kV_10 : PySem.W.kitOne K (.ref C_8) (.type "ValueError") = some true)
    (kL_10 : PySem.W.kitOne K (.ref C_8) (.type "LookupError") = some false)
    (k_11_0 : PySem.W.kitOne K (.ref C_10) (.ref C_0) = some false)
    (k_11_1 : PySem.W.kitOne K (.ref C_10) (.ref C_5) = some false)
    (k_11_2 : PySem.W.kitOne K (.ref C_10) (.ref C_1) = some false)
    (k_11_3 : PySem.W.kitOne K (.ref C_10) (.ref C_2) = some false)
    (k_11_4 : PySem.W.kitOne K (.ref C_10) (.ref C_3) = some false)
    (k_11_5 : PySem.W.kitOne K (.ref C_10) (.ref C_7) = some false)
    (k_11_6 : PySem.W.kitOne K (.ref C_10) (.ref C_9) = some false)
    (k_11_7 : PySem.W.kitOne K (.ref C_10) (.ref C_15) = some false)
    (k_11_8 : PySem.W.kitOne K (.ref C_10) (.ref C_4) = some false)
    (k_11_9 : PySem.W.kitOne K (.ref C_10) (.ref C_6) = some false)
    (k_11_10 : PySem.W.kitOne K (.ref C_10) (.ref C_8) = some false)
    (k_11_11 : PySem.W.kitOne K (.ref C_10) (.ref C_10) = some true)
    (k_11_12 : PySem.W.kitOne K (.ref C_10) (.ref C_14) = some false)
    (k_11_13 : PySem.W.kitOne K (.ref C_10) (.ref C_13) = some false)
    (k_11_14 : PySem.W.kitOne K (.ref C_10) (.ref C_12) = some false)
    (k_11_15 : PySem.W.kitOne K (.ref C_10) (.ref C_11) = some false)
    (k_11_16 : PySem.W.kitOne K (.ref C_10) (.ref C_16) = some false)
    (k_11_17 : PySem.W.kitOne K (.ref C_10) (.ref D_1) = some false)
    (k_11_18 : PySem.W.kitOne K (.ref C_10) (.ref D_2) = some false)
    (k_11_19 : PySem.W.kitOne K (.ref C_10) (.ref D_3) = some false)
    (kR_11 : PySem.W.kitOne K (.ref C_10) (.ref D_0) = some true)
    (kV_11 : PySem.W.kitOne K (.ref C_10) (.type "ValueError") = some true)
    (kL_11 : PySem.W.kitOne K (.ref C_10) (.type "LookupError") = some false)
    (k_12_0 : PySem.W.kitOne K (.ref C_14) (.ref C_0) = some false)
    (k_12_1 : PySem.W.kitOne K (.ref C_14) (.ref C_5) = some false)
    (k_12_2 : PySem.W.kitOne K (.ref C_14) (.ref C_1) = some false)
    (k_12_3 : PySem.W.kitOne K (.ref C_14) (.ref C_2) = some false)
    (k_12_4 : PySem.W.kitOne K (.ref C_14) (.ref C_3) = some false)
    (k_12_5 : PySem.W.kitOne K (.ref C_14) (.ref C_7) = some false)
    (k_12_6 : PySem.W.kitOne K (.ref C_14) (.ref C_9) = some false)
    (k_12_7 : PySem.W.kitOne K (.ref C_14) (.ref C_15) = some false)
    (k_12_8 : PySem.W.kitOne K (.ref C_14) (.ref C_4) = some false)
    (k_12_9 : PySem.W.kitOne K (.ref C_14) (.ref C_6) = some false)
    (k_12_10 : PySem.W.kitOne K (.ref C_14) (.ref C_8) = some false)
    (k_12_11 : PySem.W.kitOne K (.ref C_14) (.ref C_10) = some false)
    (k_12_12 : PySem.W.kitOne K (.ref C_14) (.ref C_14) = some true)
    (k_12_13 : PySem.W.kitOne K (.ref C_14) (.ref C_13) = some false)
    (k_12_14 : PySem.W.kitOne K (.ref C_14) (.ref C_12) = some false)
    (k_12_15 : PySem.W.kitOne K (.ref C_14) (.ref C_11) = some false)
    (k_12_16 : PySem.W.kitOne K (.ref C_14) (.ref C_16) = some false)
    (k_12_17 : PySem.W.kitOne K (.ref C_14) (.ref D_1) = some false)
    (k_12_18 : PySem.W.kitOne K (.ref C_14) (.ref D_2) = some false)
    (k_12_19 : PySem.W.kitOne K (.ref C_14) (.ref D_3) = some false)
    (kR_12 : PySem.W.kitOne K (.ref C_14) (.ref D_0) = some true)
    (kV_12 : PySem.W.kitOne K (.ref C_14) (.type "ValueError") = some true)
    (kL_12 : PySem.W.kitOne K (.ref C_14) (.type "LookupError") = some false)
    (k_13_0 : PySem.W.kitOne K (.ref C_13) (.ref C_0) = some false)
    (k_13_1 : PySem.W.kitOne K (.ref C_13) (.ref C_5) = some false)
    (k_13_2 : PySem.W.kitOne K (.ref C_13) (.ref C_1) = some false)
    (k_13_3 : PySem.W.kitOne K (.ref C_13) (.ref C_2) = some false)
    (k_13_4 : PySem.W.kitOne K (.ref C_13) (.ref C_3) = some false)
    (k_13_5 : PySem.W.kitOne K (.ref C_13) (.ref C_7) = some false)
    (k_13_6 : PySem.W.kitOne K (.ref C_13) (.ref C_9) = some false)
    (k_13_7 : PySem.W.kitOne K (.ref C_13) (.ref C_15) = some false)
    (k_13_8 : PySem.W.kitOne K (.ref C_13) (.ref C_4) = some false)
    (k_13_9 : PySem.W.kitOne K (.ref C_13) (.ref C_6) = some false)
    (k_13_10 : PySem.W.kitOne K (.ref C_13) (.ref C_8) = some false)
    (k_13_11 : PySem.W.kitOne K (.ref C_13) (.ref C_10) = some false)
    (k_13_12 : PySem.W.kitOne K (.ref C_13) (.ref C_14) = some false)
    (k_13_13 : PySem.W.kitOne K (.ref C_13) (.ref C_13) = some true)
    (k_13_14 : PySem.W.kitOne K (.ref C_13) (.ref C_12) = some false)
    (k_13_15 : PySem.W.kitOne K (.ref C_13) (.ref C_11) = some false)
    (k_13_16 : PySem.W.kitOne K (.ref C_13) (.ref C_16) = some false)
    (k_13_17 : PySem.W.kitOne K (.ref C_13) (.ref D_1) = some false)
    (k_13_18 : PySem.W.kitOne K (.ref C_13) (.ref D_2) = some false)
    (k_13_19 : PySem.W.kitOne K (.ref C_13) (.ref D_3) = some false)
    (kR_13 : PySem.W.kitOne K (.ref C_13) (.ref D_0) = some true)
    (kV_13 : PySem.W.kitOne K (.ref C_13) (.type "ValueError") = some true)
    (kL_13 : PySem.W.kitOne K (.ref C_13) (.type "LookupError") = some false)
    (k_14_0 : PySem.W.kitOne K (.ref C_12) (.ref C_0) = some false)
    (k_14_1 : PySem.W.kitOne K (.ref C_12) (.ref C_5) = some false)
    (k_14_2 : PySem.W.kitOne K (.ref C_12) (.ref C_1) = some false)
    (k_14_3 : PySem.W.kitOne K (.ref C_12) (.ref C_2) = some false)
    (k_14_4 : PySem.W.kitOne K (.ref C_12) (.ref C_3) = some false)
    (k_14_5 : PySem.W.kitOne K (.ref C_12) (.ref C_7) = some false)
    (k_14_6 : PySem.W.kitOne K (.ref C_12) (.ref C_9) = some false)
    (k_14_7 : PySem.W.kitOne K (.ref C_12) (.ref C_15) = some false)
    (k_14_8 : PySem.W.kitOne K (.ref C_12) (.ref C_4) = some false)
    (k_14_9 : PySem.W.kitOne K (.ref C_12) (.ref C_6) = some false)
    (k_14_10 : PySem.W.kitOne K (.ref C_12) (.ref C_8) = some false)
    (k_14_11 : PySem.W.kitOne K (.ref C_12) (.ref C_10) = some false)
    (k_14_12 : PySem.W.kitOne K (.ref C_12) (.ref C_14) = some false)
    (k_14_13 : PySem.W.kitOne K (.ref C_12) (.ref C_13) = some false)
    (k_14_14 : PySem.W.kitOne K (.ref C_12) (.ref C_12) = some true)
    (k_14_15 : PySem.W.kitOne K (.ref C_12) (.ref C_11) = some false)
    (k_14_16 : PySem.W.kitOne K (.ref C_12) (.ref C_16) = some false)
    (k_14_17 : PySem.W.kitOne K (.ref C_12) (.ref D_1) = some false)
    (k_14_18 : PySem.W.kitOne K (.ref C_12) (.ref D_2) = some false)
    (k_14_19 : PySem.W.kitOne K (.ref C_12) (.ref D_3) = some false)
    (kR_14 : PySem.W.kitOne K (.ref C_12) (.ref D_0) = some true)
    (kV_14 : PySem.W.kitOne K (.ref C_12) (.type "ValueError") = some true)
    (kL_14 : PySem.W.kitOne K (.ref C_12) (.type "LookupError") = some false)
    (k_15_0 : PySem.W.kitOne K (.ref C_11) (.ref C_0) = some false)
    (k_15_1 : PySem.W.kitOne K (.ref C_11) (.ref C_5) = some false)
    (k_15_2 : PySem.W.kitOne K (.ref C_11) (.ref C_1) = some false)
    (k_15_3 : PySem.W.kitOne K (.ref C_11) (.ref C_2) = some false)
    (k_15_4 : PySem.W.kitOne K (.ref C_11) (.ref C_3) = some false)
    (k_15_5 : PySem.W.kitOne K (.ref C_11) (.ref C_7) = some false)
    (k_15_6 : PySem.W.kitOne K (.ref C_11) (.ref C_9) = some false)
    (k_15_7 : PySem.W.kitOne K (.ref C_11) (.ref C_15) = some false)
    (k_15_8 : PySem.W.kitOne K (.ref C_11) (.ref C_4) = some false)
    (k_15_9 : PySem.W.kitOne K (.ref C_11) (.ref C_6) = some false)
    (k_15_10 : PySem.W.kitOne K (.ref C_11) (.ref C_8) = some false)
    (k_15_11 : PySem.W.kitOne K (.ref C_11) (.ref C_10) = some false)
    (k_15_12 : PySem.W.kitOne K (.ref C_11) (.ref C_14) = some false)
    (k_15_13 : PySem.W.kitOne K (.ref C_11) (.ref C_13) = some false)
    (k_15_14 : PySem.W.kitOne K (.ref C_11) (.ref C_12) = some false)
    (k_15_15 : PySem.W.kitOne K (.ref C_11) (.ref C_11) = some true)
    (k_15_16 : PySem.W.kitOne K (.ref C_11) (.ref C_16) = some false)
    (k_15_17 : PySem.W.kitOne K (.ref C_11) (.ref D_1) = some false)
    (k_15_18 : PySem.W.kitOne K (.ref C_11) (.ref D_2) = some false)
    (k_15_19 : PySem.W.kitOne K (.ref C_11) (.ref D_3) = some false)
    (kR_15 : PySem.W.kitOne K (.ref C_11) (.ref D_0) = some true)
    (kV_15 : PySem.W.kitOne K (.ref C_11) (.type "ValueError") = some true)
    (kL_15 : PySem.W.kitOne K (.ref C_11) (.type "LookupError") = some false)
    (k_16_0 : PySem.W.kitOne K (.ref C_16) (.ref C_0) = some false)
    (k_16_1 : PySem.W.kitOne K (.ref C_16) (.ref C_5) = some false)
    (k_16_2 : PySem.W.kitOne K (.ref C_16) (.ref C_1) = some false)
    (k_16_3 : PySem.W.kitOne K (.ref C_16) (.ref C_2) = some false)
    (k_16_4 : PySem.W.kitOne K (.ref C_16) (.ref C_3) = some false)
    (k_16_5 : PySem.W.kitOne K (.ref C_16) (.ref C_7) = some false)
    (k_16_6 : PySem.W.kitOne K (.ref C_16) (.ref C_9) = some false)
    (k_16_7 : PySem.W.kitOne K (.ref C_16) (.ref C_15) = some false)
    (k_16_8 : PySem.W.kitOne K (.ref C_16) (.ref C_4) = some false)
    (k_16_9 : PySem.W.kitOne K (.ref C_16) (.ref C_6) = some false)
    (k_16_10 : PySem.W.kitOne K (.ref C_16) (.ref C_8) = some false)
    (k_16_11 : PySem.W.kitOne K (.ref C_16) (.ref C_10) = some false)
    (k_16_12 : PySem.W.kitOne K (.ref C_16) (.ref C_14) = some false)
    (k_16_13 : PySem.W.kitOne K (.ref C_16) (.ref C_13) = some false)
    (k_16_14 : PySem.W.kitOne K (.ref C_16) (.ref C_12) = some false)
    (k_16_15 : PySem.W.kitOne K (.ref C_16) (.ref C_11) = some false)
    (k_16_16 : PySem.W.kitOne K (.ref C_16) (.ref C_16) = some true)
    (k_16_17 : PySem.W.kitOne K (.ref C_16) (.ref D_1) = some false)
    (k_16_18 : PySem.W.kitOne K (.ref C_16) (.ref D_2) = some false)
    (k_16_19 : PySem.W.kitOne K (.ref C_16) (.ref D_3) = some false)
    (kR_16 : PySem.W.kitOne K (.ref C_16) (.ref D_0) = some true)
    (kV_16 : PySem.W.kitOne K (.ref C_16) (.type "ValueError") = some true)
    (kL_16 : PySem.W.kitOne K (.ref C_16) (.type "LookupError") = some false)
    (k_17_0 : PySem.W.kitOne K (.ref D_1) (.ref C_0) = some false)
    (k_17_1 : PySem.W.kitOne K (.ref D_1) (.ref C_5) = some false)
    (k_17_2 : PySem.W.kitOne K (.ref D_1) (.ref C_1) = some false)
    (k_17_3 : PySem.W.kitOne K (.ref D_1) (.ref C_2) = some false)
    (k_17_4 : PySem.W.kitOne K (.ref D_1) (.ref C_3) = some false)
    (k_17_5 : PySem.W.kitOne K (.ref D_1) (.ref C_7) = some false)
    (k_17_6 : PySem.W.kitOne K (.ref D_1) (.ref C_9) = some false)
    (k_17_7 : PySem.W.kitOne K (.ref D_1) (.ref C_15) = some false)
    (k_17_8 : PySem.W.kitOne K (.ref D_1) (.ref C_4) = some false)
    (k_17_9 : PySem.W.kitOne K (.ref D_1) (.ref C_6) = some false)
    (k_17_10 : PySem.W.kitOne K (.ref D_1) (.ref C_8) = some false)
    (k_17_11 : PySem.W.kitOne K (.ref D_1) (.ref C_10) = some false)
    (k_17_12 : PySem.W.kitOne K (.ref D_1) (.ref C_14) = some false)
    (k_17_13 : PySem.W.kitOne K (.ref D_1) (.ref C_13) = some false)
    (k_17_14 : PySem.W.kitOne K (.ref D_1) (.ref C_12) = some false)
    (k_17_15 : PySem.W.kitOne K (.ref D_1) (.ref C_11) = some false)
    (k_17_16 : PySem.W.kitOne K (.ref D_1) (.ref C_16) = some false)
    (k_17_17 : PySem.W.kitOne K (.ref D_1) (.ref D_1) = some true)
    (k_17_18 : PySem.W.kitOne K (.ref D_1) (.ref D_2) = some false)
    (k_17_19 : PySem.W.kitOne K (.ref D_1) (.ref D_3) = some false)
    (kR_17 : PySem.W.kitOne K (.ref D_1) (.ref D_0) = some true)
    (kV_17 : PySem.W.kitOne K (.ref D_1) (.type "ValueError") = some true)
    (kL_17 : PySem.W.kitOne K (.ref D_1) (.type "LookupError") = some false)
    (k_18_0 : PySem.W.kitOne K (.ref D_2) (.ref C_0) = some false)
    (k_18_1 : PySem.W.kitOne K (.ref D_2) (.ref C_5) = some false)
    (k_18_2 : PySem.W.kitOne K (.ref D_2) (.ref C_1) = some false)
    (k_18_3 : PySem.W.kitOne K (.ref D_2) (.ref C_2) = some false)
    (k_18_4 : PySem.W.kitOne K (.ref D_2) (.ref C_3) = some false)
    (k_18_5 : PySem.W.kitOne K (.ref D_2) (.ref C_7) = some false)
    (k_18_6 : PySem.W.kitOne K (.ref D_2) (.ref C_9) = some false)
    (k_18_7 : PySem.W.kitOne K (.ref D_2) (.ref C_15) = some false)
    (k_18_8 : PySem.W.kitOne K (.ref D_2) (.ref C_4) = some false)
    (k_18_9 : PySem.W.kitOne K (.ref D_2) (.ref C_6) = some false)
    (k_18_10 : PySem.W.kitOne K (.ref D_2) (.ref C_8) = some false)
    (k_18_11 : PySem.W.kitOne K (.ref D_2) (.ref C_10) = some false)
    (k_18_12 : PySem.W.kitOne K (.ref D_2) (.ref C_14) = some false)
    (k_18_13 : PySem.W.kitOne K (.ref D_2) (.ref C_13) = some false)
    (k_18_14 : PySem.W.kitOne K (.ref D_2) (.ref C_12) = some false)
    (k_18_15 : PySem.W.kitOne K (.ref D_2) (.ref C_11) = some false)
    (k_18_16 : PySem.W.kitOne K (.ref D_2) (.ref C_16) = some false)
    (k_18_17 : PySem.W.kitOne K (.ref D_2) (.ref D_1) = some false)
    (k_18_18 : PySem.W.kitOne K (.ref D_2) (.ref D_2) = some true)
    (k_18_19 : PySem.W.kitOne K (.ref D_2) (.ref D_3) = some false)
    (kR_18 : PySem.W.kitOne K (.ref D_2) (.ref D_0) = some true)
    (kV_18 : PySem.W.kitOne K (.ref D_2) (.type "ValueError") = some true)
    (kL_18 : PySem.W.kitOne K (.ref D_2) (.type "LookupError") = some false)
    (k_19_0 : PySem.W.kitOne K (.ref D_3) (.ref C_0) = some false)
    (k_19_1 : PySem.W.kitOne K (.ref D_3) (.ref C_5) = some false)
    (k_19_2 : PySem.W.kitOne K (.ref D_3) (.ref C_1) = some false)
    (k_19_3 : PySem.W.kitOne K (.ref D_3) (.ref C_2) = some false)
    (k_19_4 : PySem.W.kitOne K (.ref D_3) (.ref C_3) = some false)
    (k_19_5 : PySem.W.kitOne K (.ref D_3) (.ref C_7) = some false)
    (k_19_6 : PySem.W.kitOne K (.ref D_3) (.ref C_9) = some false)
    (k_19_7 : PySem.W.kitOne K (.ref D_3) (.ref C_15) = some false)
    (k_19_8 : PySem.W.kitOne K (.ref D_3) (.ref C_4) = some false)
    (k_19_9 : PySem.W.kitOne K (.ref D_3) (.ref C_6) = some false)
    (k_19_10 : PySem.W.kitOne K (.ref D_3) (.ref C_8) = some false)
    (k_19_11 : PySem.W.kitOne K (.ref D_3) (.ref C_10) = some false)
    (k_19_12 : PySem.W.kitOne K (.ref D_3) (.ref C_14) = some false)
    (k_19_13 : PySem.W.kitOne K (.ref D_3) (.ref C_13) = some false)
    (k_19_14 : PySem.W.kitOne K (.ref D_3) (.ref C_12) = some false)
    (k_19_15 : PySem.W.kitOne K (.ref D_3) (.ref C_11) = some false)
    (k_19_16 : PySem.W.kitOne K (.ref D_3) (.ref C_16) = some false)
    (k_19_17 : PySem.W.kitOne K (.ref D_3) (.ref D_1) = some false)
    (k_19_18 : PySem.W.kitOne K (.ref D_3) (.ref D_2) = some false)
    (k_19_19 : PySem.W.kitOne K (.ref D_3) (.ref D_3) = some true)
    (kR_19 : PySem.W.kitOne K (.ref D_3) (.ref D_0) = some true)
    (kV_19 : PySem.W.kitOne K (.ref D_3) (.type "ValueError") = some true)
    (kL_19 : PySem.W.kitOne K (.ref D_3) (.type "LookupError") = some false)
    (k_R_0 : PySem.W.kitOne K (.ref D_0) (.ref C_0) = some false)
    (k_R_1 : PySem.W.kitOne K (.ref D_0) (.ref C_5) = some false)
    (k_R_2 : PySem.W.kitOne K (.ref D_0) (.ref C_1) = some false)
    (k_R_3 : PySem.W.kitOne K (.ref D_0) (.ref C_2) = some false)
    (k_R_4 : PySem.W.kitOne K (.ref D_0) (.ref C_3) = some false)
    (k_R_5 : PySem.W.kitOne K (.ref D_0) (.ref C_7) = some false)
    (k_R_6 : PySem.W.kitOne K (.ref D_0) (.ref C_9) = some false)
    (k_R_7 : PySem.W.kitOne K (.ref D_0) (.ref C_15) = some false)
    (k_R_8 : PySem.W.kitOne K (.ref D_0) (.ref C_4) = some false)
    (k_R_9 : PySem.W.kitOne K (.ref D_0) (.ref C_6) = some false)
    (k_R_10 : PySem.W.kitOne K (.ref D_0) (.ref C_8) = some false)
    (k_R_11 : PySem.W.kitOne K (.ref D_0) (.ref C_10) = some false)
    (k_R_12 : PySem.W.kitOne K (.ref D_0) (.ref C_14) = some false)
    (k_R_13 : PySem.W.kitOne K (.ref D_0) (.ref C_13) = some false)
    (k_R_14 : PySem.W.kitOne K (.ref D_0) (.ref C_12) = some false)
    (k_R_15 : PySem.W.kitOne K (.ref D_0) (.ref C_11) = some false)
    (k_R_16 : PySem.W.kitOne K (.ref D_0) (.ref C_16) = some false)
    (k_R_17 : PySem.W.kitOne K (.ref D_0) (.ref D_1) = some false)
    (k_R_18 : PySem.W.kitOne K (.ref D_0) (.ref D_2) = some false)
    (k_R_19 : PySem.W.kitOne K (.ref D_0) (.ref D_3) = some false)
    (kVR : PySem.W.kitOne K (.ref D_0) (.type "ValueError") = some true) :
    LawG q l.prog w K 11 mg fa := by
  have e := hfa.symm.trans (PySem.W.mg_of X G a8)
  cases e
  have B : Bi mg := ⟨PySem.W.mg_none_of X G z0, PySem.W.mg_none_of X G z1, PySem.W.mg_none_of X G z2, PySem.W.mg_none_of X G z3, PySem.W.mg_none_of X G z4, PySem.W.mg_none_of X G z5, PySem.W.mg_none_of X G z6, PySem.W.mg_none_of X G z7, PySem.W.mg_none_of X G z8, PySem.W.mg_none_of X G z9, PySem.W.mg_none_of X G z10, PySem.W.mg_none_of X G z11, PySem.W.mg_none_of X G z12, PySem.W.mg_none_of X G z13, PySem.W.mg_none_of X G z14, PySem.W.mg_none_of X G z15, PySem.W.mg_none_of X G z16, PySem.W.mg_none_of X G z17, PySem.W.mg_none_of X G z18, PySem.W.mg_none_of X G z19, PySem.W.mg_none_of X G z20, PySem.W.mg_none_of X G z21, PySem.W.mg_none_of X G z22, PySem.W.mg_none_of X G z23, PySem.W.mg_none_of X G z24, PySem.W.mg_none_of X G z25⟩
  have F_law_pen : Df K mg "_law_pen" s_law_pen := ⟨_, _, PySem.W.mg_of X G a0, fun_mk l0 c0 k0⟩
  have F_law_draw : Df K mg "_law_draw" s_law_draw := ⟨_, _, PySem.W.mg_of X G a1, fun_mk l1 c1 k1⟩
  have F_law_pick : Df K mg "_law_pick" s_law_pick := ⟨_, _, PySem.W.mg_of X G a2, fun_mk l2 c2 k2⟩
  have F_law_thing : Df K mg "_law_thing" s_law_thing := ⟨_, _, PySem.W.mg_of X G a3, fun_mk l3 c3 k3⟩
  have F_law_classes : Df K mg "_law_classes" s_law_classes := ⟨_, _, PySem.W.mg_of X G a4, fun_mk l4 c4 k4⟩
  have F_law_parted : Df K mg "_law_parted" s_law_parted := ⟨_, _, PySem.W.mg_of X G a5, fun_mk l5 c5 k5⟩
  have F_law_placed : Df K mg "_law_placed" s_law_placed := ⟨_, _, PySem.W.mg_of X G a6, fun_mk l6 c6 k6⟩
  have F_law_two_right : Df K mg "_law_two_right" s_law_two_right := ⟨_, _, PySem.W.mg_of X G a7, fun_mk l7 c7 k7⟩
  have FL := fun_mk (st := s_law) l8 c8 k8
  have A : ErrAll l.prog K mg := ⟨g3, op, PySem.W.mg_none_of X G zs, g1, g2⟩
  refine ⟨[], List.nodup_nil, fun p hp => absurd hp (List.not_mem_nil)
  , fun base hK hG hT => ?_⟩
  have T_BadNumber : ErrT l.prog w K mg base "BadNumber" C_0 ["value"] := err_mk1 "value" X G A E_0 e0_0 sc_BadNumber_init rfl rfl rfl rfl (fun _ => rfl) (fun _ => rfl) (fun _ => ⟨_, rfl⟩) (fun _ => rfl) (by decide) (by decide) (fun us hl => match us, hl with | [_, _], _ => rfl)
  have T_BadLot : ErrT l.prog w K mg base "BadLot" C_1 ["part"] := err_mk1 "part" X G A E_1 e1_0 sc_BadLot_init rfl rfl rfl rfl (fun _ => rfl) (fun _ => rfl) (fun _ => ⟨_, rfl⟩) (fun _ => rfl) (by decide) (by decide) (fun us hl => match us, hl with | [_, _], _ => rfl)
  have T_BadWheel : ErrT l.prog w K mg base "BadWheel" C_2 ["part"] := err_mk1 "part" X G A E_2 e2_0 sc_BadWheel_init rfl rfl rfl rfl (fun _ => rfl) (fun _ => rfl) (fun _ => ⟨_, rfl⟩) (fun _ => rfl) (by decide) (by decide) (fun us hl => match us, hl with | [_, _], _ => rfl)
  have T_BadMeter : ErrT l.prog w K mg base "BadMeter" C_3 ["part"] := err_mk1 "part" X G A E_3 e3_0 sc_BadMeter_init rfl rfl rfl rfl (fun _ => rfl) (fun _ => rfl) (fun _ => ⟨_, rfl⟩) (fun _ => rfl) (by decide) (by decide) (fun us hl => match us, hl with | [_, _], _ => rfl)
  have T_BadMark : ErrT l.prog w K mg base "BadMark" C_4 ["at"] := err_mk1 "at" X G A E_4 e4_0 sc_BadMark_init rfl rfl rfl rfl (fun _ => rfl) (fun _ => rfl) (fun _ => ⟨_, rfl⟩) (fun _ => rfl) (by decide) (by decide) (fun us hl => match us, hl with | [_, _], _ => rfl)
  have T_BadValue : ErrT l.prog w K mg base "BadValue" C_5 ["value"] := err_mk1 "value" X G A E_5 e5_0 sc_BadValue_init rfl rfl rfl rfl (fun _ => rfl) (fun _ => rfl) (fun _ => ⟨_, rfl⟩) (fun _ => rfl) (by decide) (by decide) (fun us hl => match us, hl with | [_, _], _ => rfl)
  have T_BadGear : ErrT l.prog w K mg base "BadGear" C_6 ["at"] := err_mk1 "at" X G A E_6 e6_0 sc_BadGear_init rfl rfl rfl rfl (fun _ => rfl) (fun _ => rfl) (fun _ => ⟨_, rfl⟩) (fun _ => rfl) (by decide) (by decide) (fun us hl => match us, hl with | [_, _], _ => rfl)
  have T_BadShelf : ErrT l.prog w K mg base "BadShelf" C_7 ["part"] := err_mk1 "part" X G A E_7 e7_0 sc_BadShelf_init rfl rfl rfl rfl (fun _ => rfl) (fun _ => rfl) (fun _ => ⟨_, rfl⟩) (fun _ => rfl) (by decide) (by decide) (fun us hl => match us, hl with | [_, _], _ => rfl)
  have T_BadLog : ErrT l.prog w K mg base "BadLog" C_8 ["at"] := err_mk1 "at" X G A E_8 e8_0 sc_BadLog_init rfl rfl rfl rfl (fun _ => rfl) (fun _ => rfl) (fun _ => ⟨_, rfl⟩) (fun _ => rfl) (by decide) (by decide) (fun us hl => match us, hl with | [_, _], _ => rfl)
  have T_BadFollower : ErrT l.prog w K mg base "BadFollower" C_9 ["part"] := err_mk1 "part" X G A E_9 e9_0 sc_BadFollower_init rfl rfl rfl rfl (fun _ => rfl) (fun _ => rfl) (fun _ => ⟨_, rfl⟩) (fun _ => rfl) (by decide) (by decide) (fun us hl => match us, hl with | [_, _], _ => rfl)
  have T_BadDeed : ErrT l.prog w K mg base "BadDeed" C_10 ["at"] := err_mk1 "at" X G A E_10 e10_0 sc_BadDeed_init rfl rfl rfl rfl (fun _ => rfl) (fun _ => rfl) (fun _ => ⟨_, rfl⟩) (fun _ => rfl) (by decide) (by decide) (fun us hl => match us, hl with | [_, _], _ => rfl)
  have T_BadText : ErrT l.prog w K mg base "BadText" C_11 ["line", "word"] := err_mk2 "line" "word" X G A E_11 e11_0 e11_1 sc_BadText_init rfl rfl rfl rfl (fun _ => rfl) (fun _ => rfl) (fun _ => ⟨_, rfl⟩) (fun _ => rfl) (fun _ => rfl) (by decide) (by decide) (by decide) (by decide) (fun us hl => match us, hl with | [_, _, _], _ => rfl)
  have T_BadLine : ErrT l.prog w K mg base "BadLine" C_12 ["word"] := err_mk1 "word" X G A E_12 e12_0 sc_BadLine_init rfl rfl rfl rfl (fun _ => rfl) (fun _ => rfl) (fun _ => ⟨_, rfl⟩) (fun _ => rfl) (by decide) (by decide) (fun us hl => match us, hl with | [_, _], _ => rfl)
  have T_NoName : ErrT l.prog w K mg base "NoName" C_13 ["name"] := err_mk1 "name" X G A E_13 e13_0 sc_NoName_init rfl rfl rfl rfl (fun _ => rfl) (fun _ => rfl) (fun _ => ⟨_, rfl⟩) (fun _ => rfl) (by decide) (by decide) (fun us hl => match us, hl with | [_, _], _ => rfl)
  have T_NoPlace : ErrT l.prog w K mg base "NoPlace" C_14 ["at"] := err_mk1 "at" X G A E_14 e14_0 sc_NoPlace_init rfl rfl rfl rfl (fun _ => rfl) (fun _ => rfl) (fun _ => ⟨_, rfl⟩) (fun _ => rfl) (by decide) (by decide) (fun us hl => match us, hl with | [_, _], _ => rfl)
  have T_Unlike : ErrT l.prog w K mg base "Unlike" C_15 ["part"] := err_mk1 "part" X G A E_15 e15_0 sc_Unlike_init rfl rfl rfl rfl (fun _ => rfl) (fun _ => rfl) (fun _ => ⟨_, rfl⟩) (fun _ => rfl) (by decide) (by decide) (fun us hl => match us, hl with | [_, _], _ => rfl)
  have T_TooMany : ErrT l.prog w K mg base "TooMany" C_16 ["what", "most"] := err_mk2 "what" "most" X G A E_16 e16_0 e16_1 sc_TooMany_init rfl rfl rfl rfl (fun _ => rfl) (fun _ => rfl) (fun _ => ⟨_, rfl⟩) (fun _ => rfl) (fun _ => rfl) (by decide) (by decide) (by decide) (by decide) (fun us hl => match us, hl with | [_, _, _], _ => rfl)
  have G_ReachError : mg "ReachError" = some (.ref D_0) := PySem.W.mg_of X G d0
  have G_NoMember : mg "NoMember" = some (.ref D_1) := PySem.W.mg_of X G d1
  have G_Unfit : mg "Unfit" = some (.ref D_2) := PySem.W.mg_of X G d2
  have G_Nothing : mg "Nothing" = some (.ref D_3) := PySem.W.mg_of X G d3
  have U_BadNumber := err_w1 (P := l.prog) (w := w) (mg := mg) (base := base) "value" X G A E_0 e0_0 sc_BadNumber_init rfl rfl rfl rfl (fun _ => rfl) (fun _ => rfl) (fun _ => ⟨_, rfl⟩) (fun _ => rfl) (by decide) (by decide) (fun y us hl => match us, hl with | [_], _ => rfl) (fun y us hl => match us, hl with | [_], _ => rfl)
  have U_BadValue := err_w1 (P := l.prog) (w := w) (mg := mg) (base := base) "value" X G A E_5 e5_0 sc_BadValue_init rfl rfl rfl rfl (fun _ => rfl) (fun _ => rfl) (fun _ => ⟨_, rfl⟩) (fun _ => rfl) (by decide) (by decide) (fun y us hl => match us, hl with | [_], _ => rfl) (fun y us hl => match us, hl with | [_], _ => rfl)
  have U_BadLot := err_w1 (P := l.prog) (w := w) (mg := mg) (base := base) "part" X G A E_1 e1_0 sc_BadLot_init rfl rfl rfl rfl (fun _ => rfl) (fun _ => rfl) (fun _ => ⟨_, rfl⟩) (fun _ => rfl) (by decide) (by decide) (fun y us hl => match us, hl with | [_], _ => rfl) (fun y us hl => match us, hl with | [_], _ => rfl)
  have U_BadWheel := err_w1 (P := l.prog) (w := w) (mg := mg) (base := base) "part" X G A E_2 e2_0 sc_BadWheel_init rfl rfl rfl rfl (fun _ => rfl) (fun _ => rfl) (fun _ => ⟨_, rfl⟩) (fun _ => rfl) (by decide) (by decide) (fun y us hl => match us, hl with | [_], _ => rfl) (fun y us hl => match us, hl with | [_], _ => rfl)
  have U_BadMeter := err_w1 (P := l.prog) (w := w) (mg := mg) (base := base) "part" X G A E_3 e3_0 sc_BadMeter_init rfl rfl rfl rfl (fun _ => rfl) (fun _ => rfl) (fun _ => ⟨_, rfl⟩) (fun _ => rfl) (by decide) (by decide) (fun y us hl => match us, hl with | [_], _ => rfl) (fun y us hl => match us, hl with | [_], _ => rfl)
  have U_BadShelf := err_w1 (P := l.prog) (w := w) (mg := mg) (base := base) "part" X G A E_7 e7_0 sc_BadShelf_init rfl rfl rfl rfl (fun _ => rfl) (fun _ => rfl) (fun _ => ⟨_, rfl⟩) (fun _ => rfl) (by decide) (by decide) (fun y us hl => match us, hl with | [_], _ => rfl) (fun y us hl => match us, hl with | [_], _ => rfl)
  have U_BadFollower := err_w1 (P := l.prog) (w := w) (mg := mg) (base := base) "part" X G A E_9 e9_0 sc_BadFollower_init rfl rfl rfl rfl (fun _ => rfl) (fun _ => rfl) (fun _ => ⟨_, rfl⟩) (fun _ => rfl) (by decide) (by decide) (fun y us hl => match us, hl with | [_], _ => rfl) (fun y us hl => match us, hl with | [_], _ => rfl)
  have U_Unlike := err_w1 (P := l.prog) (w := w) (mg := mg) (base := base) "part" X G A E_15 e15_0 sc_Unlike_init rfl rfl rfl rfl (fun _ => rfl) (fun _ => rfl) (fun _ => ⟨_, rfl⟩) (fun _ => rfl) (by decide) (by decide) (fun y us hl => match us, hl with | [_], _ => rfl) (fun y us hl => match us, hl with | [_], _ => rfl)
  have U_BadMark := err_w1 (P := l.prog) (w := w) (mg := mg) (base := base) "at" X G A E_4 e4_0 sc_BadMark_init rfl rfl rfl rfl (fun _ => rfl) (fun _ => rfl) (fun _ => ⟨_, rfl⟩) (fun _ => rfl) (by decide) (by decide) (fun y us hl => match us, hl with | [_], _ => rfl) (fun y us hl => match us, hl with | [_], _ => rfl)
  have U_BadGear := err_w1 (P := l.prog) (w := w) (mg := mg) (base := base) "at" X G A E_6 e6_0 sc_BadGear_init rfl rfl rfl rfl (fun _ => rfl) (fun _ => rfl) (fun _ => ⟨_, rfl⟩) (fun _ => rfl) (by decide) (by decide) (fun y us hl => match us, hl with | [_], _ => rfl) (fun y us hl => match us, hl with | [_], _ => rfl)
  have U_BadLog := err_w1 (P := l.prog) (w := w) (mg := mg) (base := base) "at" X G A E_8 e8_0 sc_BadLog_init rfl rfl rfl rfl (fun _ => rfl) (fun _ => rfl) (fun _ => ⟨_, rfl⟩) (fun _ => rfl) (by decide) (by decide) (fun y us hl => match us, hl with | [_], _ => rfl) (fun y us hl => match us, hl with | [_], _ => rfl)
  have U_BadDeed := err_w1 (P := l.prog) (w := w) (mg := mg) (base := base) "at" X G A E_10 e10_0 sc_BadDeed_init rfl rfl rfl rfl (fun _ => rfl) (fun _ => rfl) (fun _ => ⟨_, rfl⟩) (fun _ => rfl) (by decide) (by decide) (fun y us hl => match us, hl with | [_], _ => rfl) (fun y us hl => match us, hl with | [_], _ => rfl)
  have U_NoPlace := err_w1 (P := l.prog) (w := w) (mg := mg) (base := base) "at" X G A E_14 e14_0 sc_NoPlace_init rfl rfl rfl rfl (fun _ => rfl) (fun _ => rfl) (fun _ => ⟨_, rfl⟩) (fun _ => rfl) (by decide) (by decide) (fun y us hl => match us, hl with | [_], _ => rfl) (fun y us hl => match us, hl with | [_], _ => rfl)
  have U_NoName := err_w1 (P := l.prog) (w := w) (mg := mg) (base := base) "name" X G A E_13 e13_0 sc_NoName_init rfl rfl rfl rfl (fun _ => rfl) (fun _ => rfl) (fun _ => ⟨_, rfl⟩) (fun _ => rfl) (by decide) (by decide) (fun y us hl => match us, hl with | [_], _ => rfl) (fun y us hl => match us, hl with | [_], _ => rfl)
  have U_BadLine := err_w1 (P := l.prog) (w := w) (mg := mg) (base := base) "word" X G A E_12 e12_0 sc_BadLine_init rfl rfl rfl rfl (fun _ => rfl) (fun _ => rfl) (fun _ => ⟨_, rfl⟩) (fun _ => rfl) (by decide) (by decide) (fun y us hl => match us, hl with | [_], _ => rfl) (fun y us hl => match us, hl with | [_], _ => rfl)
  have U_BadText := err_w2 (P := l.prog) (w := w) (mg := mg) (base := base) "line" "word" X G A E_11 e11_0 e11_1 sc_BadText_init rfl rfl rfl rfl (fun _ => rfl) (fun _ => rfl) (fun _ => ⟨_, rfl⟩) (fun _ => rfl) (fun _ => rfl) (by decide) (by decide) (by decide) (by decide) (fun y us hl => match us, hl with | [_, _], _ => rfl) (fun y us hl => match us, hl with | [_, _], _ => rfl)
  have U_TooMany := err_w2 (P := l.prog) (w := w) (mg := mg) (base := base) "what" "most" X G A E_16 e16_0 e16_1 sc_TooMany_init rfl rfl rfl rfl (fun _ => rfl) (fun _ => rfl) (fun _ => ⟨_, rfl⟩) (fun _ => rfl) (fun _ => rfl) (by decide) (by decide) (by decide) (by decide) (fun y us hl => match us, hl with | [_, _], _ => rfl) (fun y us hl => match us, hl with | [_, _], _ => rfl)
  have ev_NoMember : ErV K D_1 := ⟨nc_NoMember, nd_NoMember, ne_NoMember, nf_NoMember, ng_NoMember, g1, g2, nh_NoMember⟩
  have N_NoMember : ErrN K mg "NoMember" D_1 := ⟨G_NoMember, nb_NoMember, _, _, _, _, PySem.F.excBase_ValueError, na_NoMember⟩
  have ev_Unfit : ErV K D_2 := ⟨nc_Unfit, nd_Unfit, ne_Unfit, nf_Unfit, ng_Unfit, g1, g2, nh_Unfit⟩
  have N_Unfit : ErrN K mg "Unfit" D_2 := ⟨G_Unfit, nb_Unfit, _, _, _, _, PySem.F.excBase_ValueError, na_Unfit⟩
  have ev_Nothing : ErV K D_3 := ⟨nc_Nothing, nd_Nothing, ne_Nothing, nf_Nothing, ng_Nothing, g1, g2, nh_Nothing⟩
  have N_Nothing : ErrN K mg "Nothing" D_3 := ⟨G_Nothing, nb_Nothing, _, _, _, _, PySem.F.excBase_ValueError, na_Nothing⟩
  have ev_ReachError : ErV K D_0 := ⟨nc_ReachError, nd_ReachError, ne_ReachError, nf_ReachError, ng_ReachError, g1, g2, nh_ReachError⟩
  have N_ReachError : ErrN K mg "ReachError" D_0 := ⟨G_ReachError, nb_ReachError, _, _, _, _, PySem.F.excBase_ValueError, na_ReachError⟩
  have D_pen := fn_law_pen (P := l.prog) (w := w) (base := base) B F_law_pen
  have D_draw := fn_law_draw (P := l.prog) (w := w) (base := base) B F_law_draw
  have D_pick := fn_law_pick B F_law_pick D_draw
  have D_thing := fn_law_thing B F_law_thing D_pick
  have TG : Tops mg (fun i => ([C_0, C_5, C_1, C_2, C_3, C_7, C_9, C_15, C_4, C_6, C_8, C_10, C_14, C_13, C_12, C_11, C_16, D_1, D_2, D_3] : List Addr).getD i 0 : Nat → Addr) := ⟨fun i n h => by
    match i, h with
    | 0, h => cases h; exact T_BadNumber.gC
    | 1, h => cases h; exact T_BadValue.gC
    | 2, h => cases h; exact T_BadLot.gC
    | 3, h => cases h; exact T_BadWheel.gC
    | 4, h => cases h; exact T_BadMeter.gC
    | 5, h => cases h; exact T_BadShelf.gC
    | 6, h => cases h; exact T_BadFollower.gC
    | 7, h => cases h; exact T_Unlike.gC
    | 8, h => cases h; exact T_BadMark.gC
    | 9, h => cases h; exact T_BadGear.gC
    | 10, h => cases h; exact T_BadLog.gC
    | 11, h => cases h; exact T_BadDeed.gC
    | 12, h => cases h; exact T_NoPlace.gC
    | 13, h => cases h; exact T_NoName.gC
    | 14, h => cases h; exact T_BadLine.gC
    | 15, h => cases h; exact T_BadText.gC
    | 16, h => cases h; exact T_TooMany.gC
    | 17, h => cases h; exact G_NoMember
    | 18, h => cases h; exact G_Unfit
    | 19, h => cases h; exact G_Nothing
    | i + 20, h => cases h⟩
  have tl_0 : Tells K (fun i => ([C_0, C_5, C_1, C_2, C_3, C_7, C_9, C_15, C_4, C_6, C_8, C_10, C_14, C_13, C_12, C_11, C_16, D_1, D_2, D_3] : List Addr).getD i 0 : Nat → Addr) C_0 (fun n => n == 0) := ⟨T_BadNumber.ev, fun i hi => match i, hi with | 0, _ => k_0_0 | 1, _ => k_0_1 | 2, _ => k_0_2 | 3, _ => k_0_3 | 4, _ => k_0_4 | 5, _ => k_0_5 | 6, _ => k_0_6 | 7, _ => k_0_7 | 8, _ => k_0_8 | 9, _ => k_0_9 | 10, _ => k_0_10 | 11, _ => k_0_11 | 12, _ => k_0_12 | 13, _ => k_0_13 | 14, _ => k_0_14 | 15, _ => k_0_15 | 16, _ => k_0_16 | 17, _ => k_0_17 | 18, _ => k_0_18 | 19, _ => k_0_19 | i + 20, h => absurd h (by omega)⟩
  have tl_1 : Tells K (fun i => ([C_0, C_5, C_1, C_2, C_3, C_7, C_9, C_15, C_4, C_6, C_8, C_10, C_14, C_13, C_12, C_11, C_16, D_1, D_2, D_3] : List Addr).getD i 0 : Nat → Addr) C_5 (fun n => n == 1) := ⟨T_BadValue.ev, fun i hi => match i, hi with | 0, _ => k_1_0 | 1, _ => k_1_1 | 2, _ => k_1_2 | 3, _ => k_1_3 | 4, _ => k_1_4 | 5, _ => k_1_5 | 6, _ => k_1_6 | 7, _ => k_1_7 | 8, _ => k_1_8 | 9, _ => k_1_9 | 10, _ => k_1_10 | 11, _ => k_1_11 | 12, _ => k_1_12 | 13, _ => k_1_13 | 14, _ => k_1_14 | 15, _ => k_1_15 | 16, _ => k_1_16 | 17, _ => k_1_17 | 18, _ => k_1_18 | 19, _ => k_1_19 | i + 20, h => absurd h (by omega)⟩
  have tl_2 : Tells K (fun i => ([C_0, C_5, C_1, C_2, C_3, C_7, C_9, C_15, C_4, C_6, C_8, C_10, C_14, C_13, C_12, C_11, C_16, D_1, D_2, D_3] : List Addr).getD i 0 : Nat → Addr) C_1 (fun n => n == 2) := ⟨T_BadLot.ev, fun i hi => match i, hi with | 0, _ => k_2_0 | 1, _ => k_2_1 | 2, _ => k_2_2 | 3, _ => k_2_3 | 4, _ => k_2_4 | 5, _ => k_2_5 | 6, _ => k_2_6 | 7, _ => k_2_7 | 8, _ => k_2_8 | 9, _ => k_2_9 | 10, _ => k_2_10 | 11, _ => k_2_11 | 12, _ => k_2_12 | 13, _ => k_2_13 | 14, _ => k_2_14 | 15, _ => k_2_15 | 16, _ => k_2_16 | 17, _ => k_2_17 | 18, _ => k_2_18 | 19, _ => k_2_19 | i + 20, h => absurd h (by omega)⟩
  have tl_3 : Tells K (fun i => ([C_0, C_5, C_1, C_2, C_3, C_7, C_9, C_15, C_4, C_6, C_8, C_10, C_14, C_13, C_12, C_11, C_16, D_1, D_2, D_3] : List Addr).getD i 0 : Nat → Addr) C_2 (fun n => n == 3) := ⟨T_BadWheel.ev, fun i hi => match i, hi with | 0, _ => k_3_0 | 1, _ => k_3_1 | 2, _ => k_3_2 | 3, _ => k_3_3 | 4, _ => k_3_4 | 5, _ => k_3_5 | 6, _ => k_3_6 | 7, _ => k_3_7 | 8, _ => k_3_8 | 9, _ => k_3_9 | 10, _ => k_3_10 | 11, _ => k_3_11 | 12, _ => k_3_12 | 13, _ => k_3_13 | 14, _ => k_3_14 | 15, _ => k_3_15 | 16, _ => k_3_16 | 17, _ => k_3_17 | 18, _ => k_3_18 | 19, _ => k_3_19 | i + 20, h => absurd h (by omega)⟩
  have tl_4 : Tells K (fun i => ([C_0, C_5, C_1, C_2, C_3, C_7, C_9, C_15, C_4, C_6, C_8, C_10, C_14, C_13, C_12, C_11, C_16, D_1, D_2, D_3] : List Addr).getD i 0 : Nat → Addr) C_3 (fun n => n == 4) := ⟨T_BadMeter.ev, fun i hi => match i, hi with | 0, _ => k_4_0 | 1, _ => k_4_1 | 2, _ => k_4_2 | 3, _ => k_4_3 | 4, _ => k_4_4 | 5, _ => k_4_5 | 6, _ => k_4_6 | 7, _ => k_4_7 | 8, _ => k_4_8 | 9, _ => k_4_9 | 10, _ => k_4_10 | 11, _ => k_4_11 | 12, _ => k_4_12 | 13, _ => k_4_13 | 14, _ => k_4_14 | 15, _ => k_4_15 | 16, _ => k_4_16 | 17, _ => k_4_17 | 18, _ => k_4_18 | 19, _ => k_4_19 | i + 20, h => absurd h (by omega)⟩
  have tl_5 : Tells K (fun i => ([C_0, C_5, C_1, C_2, C_3, C_7, C_9, C_15, C_4, C_6, C_8, C_10, C_14, C_13, C_12, C_11, C_16, D_1, D_2, D_3] : List Addr).getD i 0 : Nat → Addr) C_7 (fun n => n == 5) := ⟨T_BadShelf.ev, fun i hi => match i, hi with | 0, _ => k_5_0 | 1, _ => k_5_1 | 2, _ => k_5_2 | 3, _ => k_5_3 | 4, _ => k_5_4 | 5, _ => k_5_5 | 6, _ => k_5_6 | 7, _ => k_5_7 | 8, _ => k_5_8 | 9, _ => k_5_9 | 10, _ => k_5_10 | 11, _ => k_5_11 | 12, _ => k_5_12 | 13, _ => k_5_13 | 14, _ => k_5_14 | 15, _ => k_5_15 | 16, _ => k_5_16 | 17, _ => k_5_17 | 18, _ => k_5_18 | 19, _ => k_5_19 | i + 20, h => absurd h (by omega)⟩
  have tl_6 : Tells K (fun i => ([C_0, C_5, C_1, C_2, C_3, C_7, C_9, C_15, C_4, C_6, C_8, C_10, C_14, C_13, C_12, C_11, C_16, D_1, D_2, D_3] : List Addr).getD i 0 : Nat → Addr) C_9 (fun n => n == 6) := ⟨T_BadFollower.ev, fun i hi => match i, hi with | 0, _ => k_6_0 | 1, _ => k_6_1 | 2, _ => k_6_2 | 3, _ => k_6_3 | 4, _ => k_6_4 | 5, _ => k_6_5 | 6, _ => k_6_6 | 7, _ => k_6_7 | 8, _ => k_6_8 | 9, _ => k_6_9 | 10, _ => k_6_10 | 11, _ => k_6_11 | 12, _ => k_6_12 | 13, _ => k_6_13 | 14, _ => k_6_14 | 15, _ => k_6_15 | 16, _ => k_6_16 | 17, _ => k_6_17 | 18, _ => k_6_18 | 19, _ => k_6_19 | i + 20, h => absurd h (by omega)⟩
  have tl_7 : Tells K (fun i => ([C_0, C_5, C_1, C_2, C_3, C_7, C_9, C_15, C_4, C_6, C_8, C_10, C_14, C_13, C_12, C_11, C_16, D_1, D_2, D_3] : List Addr).getD i 0 : Nat → Addr) C_15 (fun n => n == 7) := ⟨T_Unlike.ev, fun i hi => match i, hi with | 0, _ => k_7_0 | 1, _ => k_7_1 | 2, _ => k_7_2 | 3, _ => k_7_3 | 4, _ => k_7_4 | 5, _ => k_7_5 | 6, _ => k_7_6 | 7, _ => k_7_7 | 8, _ => k_7_8 | 9, _ => k_7_9 | 10, _ => k_7_10 | 11, _ => k_7_11 | 12, _ => k_7_12 | 13, _ => k_7_13 | 14, _ => k_7_14 | 15, _ => k_7_15 | 16, _ => k_7_16 | 17, _ => k_7_17 | 18, _ => k_7_18 | 19, _ => k_7_19 | i + 20, h => absurd h (by omega)⟩
  have tl_8 : Tells K (fun i => ([C_0, C_5, C_1, C_2, C_3, C_7, C_9, C_15, C_4, C_6, C_8, C_10, C_14, C_13, C_12, C_11, C_16, D_1, D_2, D_3] : List Addr).getD i 0 : Nat → Addr) C_4 (fun n => n == 8) := ⟨T_BadMark.ev, fun i hi => match i, hi with | 0, _ => k_8_0 | 1, _ => k_8_1 | 2, _ => k_8_2 | 3, _ => k_8_3 | 4, _ => k_8_4 | 5, _ => k_8_5 | 6, _ => k_8_6 | 7, _ => k_8_7 | 8, _ => k_8_8 | 9, _ => k_8_9 | 10, _ => k_8_10 | 11, _ => k_8_11 | 12, _ => k_8_12 | 13, _ => k_8_13 | 14, _ => k_8_14 | 15, _ => k_8_15 | 16, _ => k_8_16 | 17, _ => k_8_17 | 18, _ => k_8_18 | 19, _ => k_8_19 | i + 20, h => absurd h (by omega)⟩
  have tl_9 : Tells K (fun i => ([C_0, C_5, C_1, C_2, C_3, C_7, C_9, C_15, C_4, C_6, C_8, C_10, C_14, C_13, C_12, C_11, C_16, D_1, D_2, D_3] : List Addr).getD i 0 : Nat → Addr) C_6 (fun n => n == 9) := ⟨T_BadGear.ev, fun i hi => match i, hi with | 0, _ => k_9_0 | 1, _ => k_9_1 | 2, _ => k_9_2 | 3, _ => k_9_3 | 4, _ => k_9_4 | 5, _ => k_9_5 | 6, _ => k_9_6 | 7, _ => k_9_7 | 8, _ => k_9_8 | 9, _ => k_9_9 | 10, _ => k_9_10 | 11, _ => k_9_11 | 12, _ => k_9_12 | 13, _ => k_9_13 | 14, _ => k_9_14 | 15, _ => k_9_15 | 16, _ => k_9_16 | 17, _ => k_9_17 | 18, _ => k_9_18 | 19, _ => k_9_19 | i + 20, h => absurd h (by omega)⟩
  have tl_10 : Tells K (fun i => ([C_0, C_5, C_1, C_2, C_3, C_7, C_9, C_15, C_4, C_6, C_8, C_10, C_14, C_13, C_12, C_11, C_16, D_1, D_2, D_3] : List Addr).getD i 0 : Nat → Addr) C_8 (fun n => n == 10) := ⟨T_BadLog.ev, fun i hi => match i, hi with | 0, _ => k_10_0 | 1, _ => k_10_1 | 2, _ => k_10_2 | 3, _ => k_10_3 | 4, _ => k_10_4 | 5, _ => k_10_5 | 6, _ => k_10_6 | 7, _ => k_10_7 | 8, _ => k_10_8 | 9, _ => k_10_9 | 10, _ => k_10_10 | 11, _ => k_10_11 | 12, _ => k_10_12 | 13, _ => k_10_13 | 14, _ => k_10_14 | 15, _ => k_10_15 | 16, _ => k_10_16 | 17, _ => k_10_17 | 18, _ => k_10_18 | 19, _ => k_10_19 | i + 20, h => absurd h (by omega)⟩
  have tl_11 : Tells K (fun i => ([C_0, C_5, C_1, C_2, C_3, C_7, C_9, C_15, C_4, C_6, C_8, C_10, C_14, C_13, C_12, C_11, C_16, D_1, D_2, D_3] : List Addr).getD i 0 : Nat → Addr) C_10 (fun n => n == 11) := ⟨T_BadDeed.ev, fun i hi => match i, hi with | 0, _ => k_11_0 | 1, _ => k_11_1 | 2, _ => k_11_2 | 3, _ => k_11_3 | 4, _ => k_11_4 | 5, _ => k_11_5 | 6, _ => k_11_6 | 7, _ => k_11_7 | 8, _ => k_11_8 | 9, _ => k_11_9 | 10, _ => k_11_10 | 11, _ => k_11_11 | 12, _ => k_11_12 | 13, _ => k_11_13 | 14, _ => k_11_14 | 15, _ => k_11_15 | 16, _ => k_11_16 | 17, _ => k_11_17 | 18, _ => k_11_18 | 19, _ => k_11_19 | i + 20, h => absurd h (by omega)⟩
  have tl_12 : Tells K (fun i => ([C_0, C_5, C_1, C_2, C_3, C_7, C_9, C_15, C_4, C_6, C_8, C_10, C_14, C_13, C_12, C_11, C_16, D_1, D_2, D_3] : List Addr).getD i 0 : Nat → Addr) C_14 (fun n => n == 12) := ⟨T_NoPlace.ev, fun i hi => match i, hi with | 0, _ => k_12_0 | 1, _ => k_12_1 | 2, _ => k_12_2 | 3, _ => k_12_3 | 4, _ => k_12_4 | 5, _ => k_12_5 | 6, _ => k_12_6 | 7, _ => k_12_7 | 8, _ => k_12_8 | 9, _ => k_12_9 | 10, _ => k_12_10 | 11, _ => k_12_11 | 12, _ => k_12_12 | 13, _ => k_12_13 | 14, _ => k_12_14 | 15, _ => k_12_15 | 16, _ => k_12_16 | 17, _ => k_12_17 | 18, _ => k_12_18 | 19, _ => k_12_19 | i + 20, h => absurd h (by omega)⟩
  have tl_13 : Tells K (fun i => ([C_0, C_5, C_1, C_2, C_3, C_7, C_9, C_15, C_4, C_6, C_8, C_10, C_14, C_13, C_12, C_11, C_16, D_1, D_2, D_3] : List Addr).getD i 0 : Nat → Addr) C_13 (fun n => n == 13) := ⟨T_NoName.ev, fun i hi => match i, hi with | 0, _ => k_13_0 | 1, _ => k_13_1 | 2, _ => k_13_2 | 3, _ => k_13_3 | 4, _ => k_13_4 | 5, _ => k_13_5 | 6, _ => k_13_6 | 7, _ => k_13_7 | 8, _ => k_13_8 | 9, _ => k_13_9 | 10, _ => k_13_10 | 11, _ => k_13_11 | 12, _ => k_13_12 | 13, _ => k_13_13 | 14, _ => k_13_14 | 15, _ => k_13_15 | 16, _ => k_13_16 | 17, _ => k_13_17 | 18, _ => k_13_18 | 19, _ => k_13_19 | i + 20, h => absurd h (by omega)⟩
  have tl_14 : Tells K (fun i => ([C_0, C_5, C_1, C_2, C_3, C_7, C_9, C_15, C_4, C_6, C_8, C_10, C_14, C_13, C_12, C_11, C_16, D_1, D_2, D_3] : List Addr).getD i 0 : Nat → Addr) C_12 (fun n => n == 14) := ⟨T_BadLine.ev, fun i hi => match i, hi with | 0, _ => k_14_0 | 1, _ => k_14_1 | 2, _ => k_14_2 | 3, _ => k_14_3 | 4, _ => k_14_4 | 5, _ => k_14_5 | 6, _ => k_14_6 | 7, _ => k_14_7 | 8, _ => k_14_8 | 9, _ => k_14_9 | 10, _ => k_14_10 | 11, _ => k_14_11 | 12, _ => k_14_12 | 13, _ => k_14_13 | 14, _ => k_14_14 | 15, _ => k_14_15 | 16, _ => k_14_16 | 17, _ => k_14_17 | 18, _ => k_14_18 | 19, _ => k_14_19 | i + 20, h => absurd h (by omega)⟩
  have tl_15 : Tells K (fun i => ([C_0, C_5, C_1, C_2, C_3, C_7, C_9, C_15, C_4, C_6, C_8, C_10, C_14, C_13, C_12, C_11, C_16, D_1, D_2, D_3] : List Addr).getD i 0 : Nat → Addr) C_11 (fun n => n == 15) := ⟨T_BadText.ev, fun i hi => match i, hi with | 0, _ => k_15_0 | 1, _ => k_15_1 | 2, _ => k_15_2 | 3, _ => k_15_3 | 4, _ => k_15_4 | 5, _ => k_15_5 | 6, _ => k_15_6 | 7, _ => k_15_7 | 8, _ => k_15_8 | 9, _ => k_15_9 | 10, _ => k_15_10 | 11, _ => k_15_11 | 12, _ => k_15_12 | 13, _ => k_15_13 | 14, _ => k_15_14 | 15, _ => k_15_15 | 16, _ => k_15_16 | 17, _ => k_15_17 | 18, _ => k_15_18 | 19, _ => k_15_19 | i + 20, h => absurd h (by omega)⟩
  have tl_16 : Tells K (fun i => ([C_0, C_5, C_1, C_2, C_3, C_7, C_9, C_15, C_4, C_6, C_8, C_10, C_14, C_13, C_12, C_11, C_16, D_1, D_2, D_3] : List Addr).getD i 0 : Nat → Addr) C_16 (fun n => n == 16) := ⟨T_TooMany.ev, fun i hi => match i, hi with | 0, _ => k_16_0 | 1, _ => k_16_1 | 2, _ => k_16_2 | 3, _ => k_16_3 | 4, _ => k_16_4 | 5, _ => k_16_5 | 6, _ => k_16_6 | 7, _ => k_16_7 | 8, _ => k_16_8 | 9, _ => k_16_9 | 10, _ => k_16_10 | 11, _ => k_16_11 | 12, _ => k_16_12 | 13, _ => k_16_13 | 14, _ => k_16_14 | 15, _ => k_16_15 | 16, _ => k_16_16 | 17, _ => k_16_17 | 18, _ => k_16_18 | 19, _ => k_16_19 | i + 20, h => absurd h (by omega)⟩
  have tl_17 : Tells K (fun i => ([C_0, C_5, C_1, C_2, C_3, C_7, C_9, C_15, C_4, C_6, C_8, C_10, C_14, C_13, C_12, C_11, C_16, D_1, D_2, D_3] : List Addr).getD i 0 : Nat → Addr) D_1 (fun n => n == 17) := ⟨ev_NoMember, fun i hi => match i, hi with | 0, _ => k_17_0 | 1, _ => k_17_1 | 2, _ => k_17_2 | 3, _ => k_17_3 | 4, _ => k_17_4 | 5, _ => k_17_5 | 6, _ => k_17_6 | 7, _ => k_17_7 | 8, _ => k_17_8 | 9, _ => k_17_9 | 10, _ => k_17_10 | 11, _ => k_17_11 | 12, _ => k_17_12 | 13, _ => k_17_13 | 14, _ => k_17_14 | 15, _ => k_17_15 | 16, _ => k_17_16 | 17, _ => k_17_17 | 18, _ => k_17_18 | 19, _ => k_17_19 | i + 20, h => absurd h (by omega)⟩
  have tl_18 : Tells K (fun i => ([C_0, C_5, C_1, C_2, C_3, C_7, C_9, C_15, C_4, C_6, C_8, C_10, C_14, C_13, C_12, C_11, C_16, D_1, D_2, D_3] : List Addr).getD i 0 : Nat → Addr) D_2 (fun n => n == 18) := ⟨ev_Unfit, fun i hi => match i, hi with | 0, _ => k_18_0 | 1, _ => k_18_1 | 2, _ => k_18_2 | 3, _ => k_18_3 | 4, _ => k_18_4 | 5, _ => k_18_5 | 6, _ => k_18_6 | 7, _ => k_18_7 | 8, _ => k_18_8 | 9, _ => k_18_9 | 10, _ => k_18_10 | 11, _ => k_18_11 | 12, _ => k_18_12 | 13, _ => k_18_13 | 14, _ => k_18_14 | 15, _ => k_18_15 | 16, _ => k_18_16 | 17, _ => k_18_17 | 18, _ => k_18_18 | 19, _ => k_18_19 | i + 20, h => absurd h (by omega)⟩
  have tl_19 : Tells K (fun i => ([C_0, C_5, C_1, C_2, C_3, C_7, C_9, C_15, C_4, C_6, C_8, C_10, C_14, C_13, C_12, C_11, C_16, D_1, D_2, D_3] : List Addr).getD i 0 : Nat → Addr) D_3 (fun n => n == 19) := ⟨ev_Nothing, fun i hi => match i, hi with | 0, _ => k_19_0 | 1, _ => k_19_1 | 2, _ => k_19_2 | 3, _ => k_19_3 | 4, _ => k_19_4 | 5, _ => k_19_5 | 6, _ => k_19_6 | 7, _ => k_19_7 | 8, _ => k_19_8 | 9, _ => k_19_9 | 10, _ => k_19_10 | 11, _ => k_19_11 | 12, _ => k_19_12 | 13, _ => k_19_13 | 14, _ => k_19_14 | 15, _ => k_19_15 | 16, _ => k_19_16 | 17, _ => k_19_17 | 18, _ => k_19_18 | 19, _ => k_19_19 | i + 20, h => absurd h (by omega)⟩
  have tl_R : Tells K (fun i => ([C_0, C_5, C_1, C_2, C_3, C_7, C_9, C_15, C_4, C_6, C_8, C_10, C_14, C_13, C_12, C_11, C_16, D_1, D_2, D_3] : List Addr).getD i 0 : Nat → Addr) D_0 (fun _ => false) := ⟨ev_ReachError, fun i hi => match i, hi with | 0, _ => k_R_0 | 1, _ => k_R_1 | 2, _ => k_R_2 | 3, _ => k_R_3 | 4, _ => k_R_4 | 5, _ => k_R_5 | 6, _ => k_R_6 | 7, _ => k_R_7 | 8, _ => k_R_8 | 9, _ => k_R_9 | 10, _ => k_R_10 | 11, _ => k_R_11 | 12, _ => k_R_12 | 13, _ => k_R_13 | 14, _ => k_R_14 | 15, _ => k_R_15 | 16, _ => k_R_16 | 17, _ => k_R_17 | 18, _ => k_R_18 | 19, _ => k_R_19 | i + 20, h => absurd h (by omega)⟩
  have T2 : Tops2 K (fun i => ([C_0, C_5, C_1, C_2, C_3, C_7, C_9, C_15, C_4, C_6, C_8, C_10, C_14, C_13, C_12, C_11, C_16, D_1, D_2, D_3] : List Addr).getD i 0 : Nat → Addr) D_0 := ⟨fun i hi => match i, hi with | 0, _ => tl_0 | 1, _ => tl_1 | 2, _ => tl_2 | 3, _ => tl_3 | 4, _ => tl_4 | 5, _ => tl_5 | 6, _ => tl_6 | 7, _ => tl_7 | 8, _ => tl_8 | 9, _ => tl_9 | 10, _ => tl_10 | 11, _ => tl_11 | 12, _ => tl_12 | 13, _ => tl_13 | 14, _ => tl_14 | 15, _ => tl_15 | 16, _ => tl_16 | 17, _ => tl_17 | 18, _ => tl_18 | 19, _ => tl_19 | i + 20, h => absurd h (by omega), fun i hi => match i, hi with | 0, _ => kR_0 | 1, _ => kR_1 | 2, _ => kR_2 | 3, _ => kR_3 | 4, _ => kR_4 | 5, _ => kR_5 | 6, _ => kR_6 | 7, _ => kR_7 | 8, _ => kR_8 | 9, _ => kR_9 | 10, _ => kR_10 | 11, _ => kR_11 | 12, _ => kR_12 | 13, _ => kR_13 | 14, _ => kR_14 | 15, _ => kR_15 | 16, _ => kR_16 | 17, _ => kR_17 | 18, _ => kR_18 | 19, _ => kR_19 | i + 20, h => absurd h (by omega), fun i hi => match i, hi with | 0, _ => kV_0 | 1, _ => kV_1 | 2, _ => kV_2 | 3, _ => kV_3 | 4, _ => kV_4 | 5, _ => kV_5 | 6, _ => kV_6 | 7, _ => kV_7 | 8, _ => kV_8 | 9, _ => kV_9 | 10, _ => kV_10 | 11, _ => kV_11 | 12, _ => kV_12 | 13, _ => kV_13 | 14, _ => kV_14 | 15, _ => kV_15 | 16, _ => kV_16 | 17, _ => kV_17 | 18, _ => kV_18 | 19, _ => kV_19 | i + 20, h => absurd h (by omega), fun i hi => match i, hi with | 0, _ => kL_0 | 1, _ => kL_1 | 2, _ => kL_2 | 3, _ => kL_3 | 4, _ => kL_4 | 5, _ => kL_5 | 6, _ => kL_6 | 7, _ => kL_7 | 8, _ => kL_8 | 9, _ => kL_9 | 10, _ => kL_10 | 11, _ => kL_11 | 12, _ => kL_12 | 13, _ => kL_13 | 14, _ => kL_14 | 15, _ => kL_15 | 16, _ => kL_16 | 17, _ => kL_17 | 18, _ => kL_18 | 19, _ => kL_19 | i + 20, h => absurd h (by omega), tl_R, kVR⟩
  have D_cls := fn_law_classes (P := l.prog) (w := w) (base := base) (D := (fun i => ([C_0, C_5, C_1, C_2, C_3, C_7, C_9, C_15, C_4, C_6, C_8, C_10, C_14, C_13, C_12, C_11, C_16, D_1, D_2, D_3] : List Addr).getD i 0 : Nat → Addr)) B TG F_law_classes
  have D_parted := fn_law_parted (D := (fun i => ([C_0, C_5, C_1, C_2, C_3, C_7, C_9, C_15, C_4, C_6, C_8, C_10, C_14, C_13, C_12, C_11, C_16, D_1, D_2, D_3] : List Addr).getD i 0 : Nat → Addr)) B U_BadLot U_BadWheel U_BadMeter U_BadShelf U_BadFollower U_Unlike F_law_parted
  have D_placed := fn_law_placed (D := (fun i => ([C_0, C_5, C_1, C_2, C_3, C_7, C_9, C_15, C_4, C_6, C_8, C_10, C_14, C_13, C_12, C_11, C_16, D_1, D_2, D_3] : List Addr).getD i 0 : Nat → Addr)) B U_BadMark U_BadGear U_BadLog U_BadDeed U_NoPlace F_law_placed
  have D_two := fn_law_two_right B T_BadText.ev T_TooMany.ev U_BadText U_TooMany F_law_two_right
  have noP : ∀ j, 2 ≤ j → j < 8 → PySem.W.findIn K (.ref ((fun i => ([C_0, C_5, C_1, C_2, C_3, C_7, C_9, C_15, C_4, C_6, C_8, C_10, C_14, C_13, C_12, C_11, C_16, D_1, D_2, D_3] : List Addr).getD i 0 : Nat → Addr) j)) "part" = some none := fun j h1 h2 => by
    match j, h1, h2 with
    | 2, _, _ => exact T_BadLot.no "part" (by simp)
    | 3, _, _ => exact T_BadWheel.no "part" (by simp)
    | 4, _, _ => exact T_BadMeter.no "part" (by simp)
    | 5, _, _ => exact T_BadShelf.no "part" (by simp)
    | 6, _, _ => exact T_BadFollower.no "part" (by simp)
    | 7, _, _ => exact T_Unlike.no "part" (by simp)
    | 0, h, _ => omega
    | 1, h, _ => omega
    | j + 8, _, h => omega
  have noA : ∀ j, 8 ≤ j → j < 13 → PySem.W.findIn K (.ref ((fun i => ([C_0, C_5, C_1, C_2, C_3, C_7, C_9, C_15, C_4, C_6, C_8, C_10, C_14, C_13, C_12, C_11, C_16, D_1, D_2, D_3] : List Addr).getD i 0 : Nat → Addr) j)) "at" = some none := fun j h1 h2 => by
    rcases (show j = 8 ∨ j = 9 ∨ j = 10 ∨ j = 11 ∨ j = 12 by omega) with rfl | rfl | rfl | rfl | rfl
    · exact T_BadMark.no "at" (by simp)
    · exact T_BadGear.no "at" (by simp)
    · exact T_BadLog.no "at" (by simp)
    · exact T_BadDeed.no "at" (by simp)
    · exact T_NoPlace.no "at" (by simp)
  exact (fn_entry FL sc_law (fun _ _ _ _ _ _ us hl => match us, hl with | [_], _ => rfl) (by decide) (by tm_at "g_len") (law_body (D := (fun i => ([C_0, C_5, C_1, C_2, C_3, C_7, C_9, C_15, C_4, C_6, C_8, C_10, C_14, C_13, C_12, C_11, C_16, D_1, D_2, D_3] : List Addr).getD i 0 : Nat → Addr)) B TG T2 D_pen D_thing D_cls D_parted D_placed D_two noP noA U_BadNumber U_BadValue U_NoName U_BadLine U_BadText U_TooMany N_NoMember N_Unfit N_Nothing N_ReachError)).mono (by decide)
theorem walk {l : PySem.W.OpenLaw} {q : Program} {loose : List Str} {XP : (Str → Option Value) → Heap → Prop} {YP : World → Heap → Prop} {d : DefRec} {K : Params → PySem.W.Frag} (hn : l.most = some 63) (hdf : d.params.defaults = [])
    (hY : ∀ (w : World) (h : Heap), YP w h → (K w.params).In h)
    (F : ∀ (w : World) (mg : Str → Option Value) (fa : Addr) (h : Heap), (K w.params).In h → h.Ns mainGlobals mg → mg d.name = some (.ref fa) → LawG q l.prog w (K w.params) 11 mg fa) : PySem.W.WalkO q loose XP YP l.row.toRowW d [] (fun f vs => PySem.call f vs) :=
  walkG (n := 63) hn (by decide) hdf ⟨rfl, by decide, by decide⟩ hY F
end T
open PySem PySem.W PyProof.Rows G in
set_option maxRecDepth 100000 in
set_option maxHeartbeats 0 in
theorem PySem.Challenge.cw_wheelreach_k01_errors_keep_their_fields_holds : PySem.Challenge.rw_wheelreach_k01_errors_keep_their_fields.Holds := by
  w_on; o_law; k_head; (case hw => w_witness2)
  k_fill
  refine T.walk (l := PySem.Challenge.rw_wheelreach_k01_errors_keep_their_fields) rfl rfl (fun w h Y => by first | exact PySem.W.kIn_of Y | exact PySem.W.km_in_of Y) ?F
  case F =>
    intro w mg fa h KX G hmg
    refine' T.all_mk KX G hmg ?a0 ?l0 ?c0 ?k0 ?a1 ?l1 ?c1 ?k1 ?a2 ?l2 ?c2 ?k2 ?a3 ?l3 ?c3 ?k3 ?a4 ?l4 ?c4 ?k4 ?a5 ?l5 ?c5 ?k5 ?a6 ?l6 ?c6 ?k6 ?a7 ?l7 ?c7 ?k7 ?a8 ?l8 ?c8 ?k8 ?z0 ?z1 ?z2 ?z3 ?z4 ?z5 ?z6 ?z7 ?z8 ?z9 ?z10 ?z11 ?z12 ?z13 ?z14 ?z15 ?z16 ?z17 ?z18 ?z19 ?z20 ?z21 ?z22 ?z23 ?z24 ?z25 ?zs ?op ?g1 ?g2 ?g3 ?E_0 ?e0_0 ?E_1 ?e1_0 ?E_2 ?e2_0 ?E_3 ?e3_0 ?E_4 ?e4_0 ?E_5 ?e5_0 ?E_6 ?e6_0 ?E_7 ?e7_0 ?E_8 ?e8_0 ?E_9 ?e9_0 ?E_10 ?e10_0 ?E_11 ?e11_0 ?e11_1 ?E_12 ?e12_0 ?E_13 ?e13_0 ?E_14 ?e14_0 ?E_15 ?e15_0 ?E_16 ?e16_0 ?e16_1 ?d0 ?d1 ?d2 ?d3 ?na_NoMember ?nb_NoMember ?nc_NoMember ?nd_NoMember ?ne_NoMember ?nf_NoMember ?ng_NoMember ?nh_NoMember ?na_Unfit ?nb_Unfit ?nc_Unfit ?nd_Unfit ?ne_Unfit ?nf_Unfit ?ng_Unfit ?nh_Unfit ?na_Nothing ?nb_Nothing ?nc_Nothing ?nd_Nothing ?ne_Nothing ?nf_Nothing ?ng_Nothing ?nh_Nothing ?na_ReachError ?nb_ReachError ?nc_ReachError ?nd_ReachError ?ne_ReachError ?nf_ReachError ?ng_ReachError ?nh_ReachError ?k_0_0 ?k_0_1 ?k_0_2 ?k_0_3 ?k_0_4 ?k_0_5 ?k_0_6 ?k_0_7 ?k_0_8 ?k_0_9 ?k_0_10 ?k_0_11 ?k_0_12 ?k_0_13 ?k_0_14 ?k_0_15 ?k_0_16 ?k_0_17 ?k_0_18 ?k_0_19 ?kR_0 ?kV_0 ?kL_0 ?k_1_0 ?k_1_1 ?k_1_2 ?k_1_3 ?k_1_4 ?k_1_5 ?k_1_6 ?k_1_7 ?k_1_8 ?k_1_9 ?k_1_10 ?k_1_11 ?k_1_12 ?k_1_13 ?k_1_14 ?k_1_15 ?k_1_16 ?k_1_17 ?k_1_18 ?k_1_19 ?kR_1 ?kV_1 ?kL_1 ?k_2_0 ?k_2_1 ?k_2_2 ?k_2_3 ?k_2_4 ?k_2_5 ?k_2_6 ?k_2_7 ?k_2_8 ?k_2_9 ?k_2_10 ?k_2_11 ?k_2_12 ?k_2_13 ?k_2_14 ?k_2_15 ?k_2_16 ?k_2_17 ?k_2_18 ?k_2_19 ?kR_2 ?kV_2 ?kL_2 ?k_3_0 ?k_3_1 ?k_3_2 ?k_3_3 ?k_3_4 ?k_3_5 ?k_3_6 ?k_3_7 ?k_3_8 ?k_3_9 ?k_3_10 ?k_3_11 ?k_3_12 ?k_3_13 ?k_3_14 ?k_3_15 ?k_3_16 ?k_3_17 ?k_3_18 ?k_3_19 ?kR_3 ?kV_3 ?kL_3 ?k_4_0 ?k_4_1 ?k_4_2 ?k_4_3 ?k_4_4 ?k_4_5 ?k_4_6 ?k_4_7 ?k_4_8 ?k_4_9 ?k_4_10 ?k_4_11 ?k_4_12 ?k_4_13 ?k_4_14 ?k_4_15 ?k_4_16 ?k_4_17 ?k_4_18 ?k_4_19 ?kR_4 ?kV_4 ?kL_4 ?k_5_0 ?k_5_1 ?k_5_2 ?k_5_3 ?k_5_4 ?k_5_5 ?k_5_6 ?k_5_7 ?k_5_8 ?k_5_9 ?k_5_10 ?k_5_11 ?k_5_12 ?k_5_13 ?k_5_14 ?k_5_15 ?k_5_16 ?k_5_17 ?k_5_18 ?k_5_19 ?kR_5 ?kV_5 ?kL_5 ?k_6_0 ?k_6_1 ?k_6_2 ?k_6_3 ?k_6_4 ?k_6_5 ?k_6_6 ?k_6_7 ?k_6_8 ?k_6_9 ?k_6_10 ?k_6_11 ?k_6_12 ?k_6_13 ?k_6_14 ?k_6_15 ?k_6_16 ?k_6_17 ?k_6_18 ?k_6_19 ?kR_6 ?kV_6 ?kL_6 ?k_7_0 ?k_7_1 ?k_7_2 ?k_7_3 ?k_7_4 ?k_7_5 ?k_7_6 ?k_7_7 ?k_7_8 ?k_7_9 ?k_7_10 ?k_7_11 ?k_7_12 ?k_7_13 ?k_7_14 ?k_7_15 ?k_7_16 ?k_7_17 ?k_7_18 ?k_7_19 ?kR_7 ?kV_7 ?kL_7 ?k_8_0 ?k_8_1 ?k_8_2 ?k_8_3 ?k_8_4 ?k_8_5 ?k_8_6 ?k_8_7 ?k_8_8 ?k_8_9 ?k_8_10 ?k_8_11 ?k_8_12 ?k_8_13 ?k_8_14 ?k_8_15 ?k_8_16 ?k_8_17 ?k_8_18 ?k_8_19 ?kR_8 ?kV_8 ?kL_8 ?k_9_0 ?k_9_1 ?k_9_2 ?k_9_3 ?k_9_4 ?k_9_5 ?k_9_6 ?k_9_7 ?k_9_8 ?k_9_9 ?k_9_10 ?k_9_11 ?k_9_12 ?k_9_13 ?k_9_14 ?k_9_15 ?k_9_16 ?k_9_17 ?k_9_18 ?k_9_19 ?kR_9 ?kV_9 ?kL_9 ?k_10_0 ?k_10_1 ?k_10_2 ?k_10_3 ?k_10_4 ?k_10_5 ?k_10_6 ?k_10_7 ?k_10_8 ?k_10_9 ?k_10_10 ?k_10_11 ?k_10_12 ?k_10_13 ?k_10_14 ?k_10_15 ?k_10_16 ?k_10_17 ?k_10_18 ?k_10_19 ?kR_10 ?kV_10 ?kL_10 ?k_11_0 ?k_11_1 ?k_11_2 ?k_11_3 ?k_11_4 ?k_11_5 ?k_11_6 ?k_11_7 ?k_11_8 ?k_11_9 ?k_11_10 ?k_11_11 ?k_11_12 ?k_11_13 ?k_11_14 ?k_11_15 ?k_11_16 ?k_11_17 ?k_11_18 ?k_11_19 ?kR_11 ?kV_11 ?kL_11 ?k_12_0 ?k_12_1 ?k_12_2 ?k_12_3 ?k_12_4 ?k_12_5 ?k_12_6 ?k_12_7 ?k_12_8 ?k_12_9 ?k_12_10 ?k_12_11 ?k_12_12 ?k_12_13 ?k_12_14 ?k_12_15 ?k_12_16 ?k_12_17 ?k_12_18 ?k_12_19 ?kR_12 ?kV_12 ?kL_12 ?k_13_0 ?k_13_1 ?k_13_2 ?k_13_3 ?k_13_4 ?k_13_5 ?k_13_6 ?k_13_7 ?k_13_8 ?k_13_9 ?k_13_10 ?k_13_11 ?k_13_12 ?k_13_13 ?k_13_14 ?k_13_15 ?k_13_16 ?k_13_17 ?k_13_18 ?k_13_19 ?kR_13 ?kV_13 ?kL_13 ?k_14_0 ?k_14_1 ?k_14_2 ?k_14_3 ?k_14_4 ?k_14_5 ?k_14_6 ?k_14_7 ?k_14_8 ?k_14_9 ?k_14_10 ?k_14_11 ?k_14_12 ?k_14_13 ?k_14_14 ?k_14_15 ?k_14_16 ?k_14_17 ?k_14_18 ?k_14_19 ?kR_14 ?kV_14 ?kL_14 ?k_15_0 ?k_15_1 ?k_15_2 ?k_15_3 ?k_15_4 ?k_15_5 ?k_15_6 ?k_15_7 ?k_15_8 ?k_15_9 ?k_15_10 ?k_15_11 ?k_15_12 ?k_15_13 ?k_15_14 ?k_15_15 ?k_15_16 ?k_15_17 ?k_15_18 ?k_15_19 ?kR_15 ?kV_15 ?kL_15 ?k_16_0 ?k_16_1 ?k_16_2 ?k_16_3 ?k_16_4 ?k_16_5 ?k_16_6 ?k_16_7 ?k_16_8 ?k_16_9 ?k_16_10 ?k_16_11 ?k_16_12 ?k_16_13 ?k_16_14 ?k_16_15 ?k_16_16 ?k_16_17 ?k_16_18 ?k_16_19 ?kR_16 ?kV_16 ?kL_16 ?k_17_0 ?k_17_1 ?k_17_2 ?k_17_3 ?k_17_4 ?k_17_5 ?k_17_6 ?k_17_7 ?k_17_8 ?k_17_9 ?k_17_10 ?k_17_11 ?k_17_12 ?k_17_13 ?k_17_14 ?k_17_15 ?k_17_16 ?k_17_17 ?k_17_18 ?k_17_19 ?kR_17 ?kV_17 ?kL_17 ?k_18_0 ?k_18_1 ?k_18_2 ?k_18_3 ?k_18_4 ?k_18_5 ?k_18_6 ?k_18_7 ?k_18_8 ?k_18_9 ?k_18_10 ?k_18_11 ?k_18_12 ?k_18_13 ?k_18_14 ?k_18_15 ?k_18_16 ?k_18_17 ?k_18_18 ?k_18_19 ?kR_18 ?kV_18 ?kL_18 ?k_19_0 ?k_19_1 ?k_19_2 ?k_19_3 ?k_19_4 ?k_19_5 ?k_19_6 ?k_19_7 ?k_19_8 ?k_19_9 ?k_19_10 ?k_19_11 ?k_19_12 ?k_19_13 ?k_19_14 ?k_19_15 ?k_19_16 ?k_19_17 ?k_19_18 ?k_19_19 ?kR_19 ?kV_19 ?kL_19 ?k_R_0 ?k_R_1 ?k_R_2 ?k_R_3 ?k_R_4 ?k_R_5 ?k_R_6 ?k_R_7 ?k_R_8 ?k_R_9 ?k_R_10 ?k_R_11 ?k_R_12 ?k_R_13 ?k_R_14 ?k_R_15 ?k_R_16 ?k_R_17 ?k_R_18 ?k_R_19 ?kVR
    (case a0 => k_is)
    (case l0 => k_is)
    (case c0 => k_is)
    (case k0 => k_is)
    (case a1 => k_is)
    (case l1 => k_is)
    (case c1 => k_is)
    (case k1 => k_is)
    (case a2 => k_is)
    (case l2 => k_is)
    (case c2 => k_is)
    (case k2 => k_is)
    (case a3 => k_is)
    (case l3 => k_is)
    (case c3 => k_is)
    (case k3 => k_is)
    (case a4 => k_is)
    (case l4 => k_is)
    (case c4 => k_is)
    (case k4 => k_is)
    (case a5 => k_is)
    (case l5 => k_is)
    (case c5 => k_is)
    (case k5 => k_is)
    (case a6 => k_is)
    (case l6 => k_is)
    (case c6 => k_is)
    (case k6 => k_is)
    (case a7 => k_is)
    (case l7 => k_is)
    (case c7 => k_is)
    (case k7 => k_is)
    (case a8 => k_is)
    (case l8 => k_is)
    (case c8 => k_is)
    (case k8 => k_is)
    (case z0 => k_is)
    (case z1 => k_is)
    (case z2 => k_is)
    (case z3 => k_is)
    (case z4 => k_is)
    (case z5 => k_is)
    (case z6 => k_is)
    (case z7 => k_is)
    (case z8 => k_is)
    (case z9 => k_is)
    (case z10 => k_is)
    (case z11 => k_is)
    (case z12 => k_is)
    (case z13 => k_is)
    (case z14 => k_is)
    (case z15 => k_is)
    (case z16 => k_is)
    (case z17 => k_is)
    (case z18 => k_is)
    (case z19 => k_is)
    (case z20 => k_is)
    (case z21 => k_is)
    (case z22 => k_is)
    (case z23 => k_is)
    (case z24 => k_is)
    (case z25 => k_is)
    (case zs => k_is)
    (case op => k_is)
    (case g1 => k_is)
    (case g2 => k_is)
    (case g3 => rfl)
    (case E_0 => (refine' ErrFacts.mk ?y_a1 ?y_a2 ?y_a3 ?y_a4 ?y_a5 ?y_a6 ?y_a7 ?y_a8 ?y_a9 ?y_b1 ?y_b2 ?y_b3 ?y_b4 ?y_b5 ?y_b6 ?y_b7 ?y_b8 ?y_b9 ?y_c1 ?y_c2 ?y_c3 ?y_c4 ?y_c5 ?y_c6; (case y_a1 => k_is); (case y_a2 => k_is); (case y_a3 => rfl); (case y_a4 => k_is); (case y_a5 => k_is); (case y_a6 => k_is); (case y_a7 => k_is); (case y_a8 => k_is); (case y_a9 => k_is); (case y_b1 => first | kernel_rfl | rfl | decide +kernel); (case y_b2 => k_is); (case y_b3 => k_is); (case y_b4 => k_is); (case y_b5 => k_is); (case y_b6 => k_is); (case y_b7 => k_is); (case y_b8 => rfl); (case y_b9 => rfl); (case y_c1 => k_is); (case y_c2 => k_is); (case y_c3 => k_is); (case y_c4 => k_is); (case y_c5 => k_is); (case y_c6 => k_is)))
    (case e0_0 => k_is)
    (case E_1 => (refine' ErrFacts.mk ?y_a1 ?y_a2 ?y_a3 ?y_a4 ?y_a5 ?y_a6 ?y_a7 ?y_a8 ?y_a9 ?y_b1 ?y_b2 ?y_b3 ?y_b4 ?y_b5 ?y_b6 ?y_b7 ?y_b8 ?y_b9 ?y_c1 ?y_c2 ?y_c3 ?y_c4 ?y_c5 ?y_c6; (case y_a1 => k_is); (case y_a2 => k_is); (case y_a3 => rfl); (case y_a4 => k_is); (case y_a5 => k_is); (case y_a6 => k_is); (case y_a7 => k_is); (case y_a8 => k_is); (case y_a9 => k_is); (case y_b1 => first | kernel_rfl | rfl | decide +kernel); (case y_b2 => k_is); (case y_b3 => k_is); (case y_b4 => k_is); (case y_b5 => k_is); (case y_b6 => k_is); (case y_b7 => k_is); (case y_b8 => rfl); (case y_b9 => rfl); (case y_c1 => k_is); (case y_c2 => k_is); (case y_c3 => k_is); (case y_c4 => k_is); (case y_c5 => k_is); (case y_c6 => k_is)))
    (case e1_0 => k_is)
    (case E_2 => (refine' ErrFacts.mk ?y_a1 ?y_a2 ?y_a3 ?y_a4 ?y_a5 ?y_a6 ?y_a7 ?y_a8 ?y_a9 ?y_b1 ?y_b2 ?y_b3 ?y_b4 ?y_b5 ?y_b6 ?y_b7 ?y_b8 ?y_b9 ?y_c1 ?y_c2 ?y_c3 ?y_c4 ?y_c5 ?y_c6; (case y_a1 => k_is); (case y_a2 => k_is); (case y_a3 => rfl); (case y_a4 => k_is); (case y_a5 => k_is); (case y_a6 => k_is); (case y_a7 => k_is); (case y_a8 => k_is); (case y_a9 => k_is); (case y_b1 => first | kernel_rfl | rfl | decide +kernel); (case y_b2 => k_is); (case y_b3 => k_is); (case y_b4 => k_is); (case y_b5 => k_is); (case y_b6 => k_is); (case y_b7 => k_is); (case y_b8 => rfl); (case y_b9 => rfl); (case y_c1 => k_is); (case y_c2 => k_is); (case y_c3 => k_is); (case y_c4 => k_is); (case y_c5 => k_is); (case y_c6 => k_is)))
    (case e2_0 => k_is)
    (case E_3 => (refine' ErrFacts.mk ?y_a1 ?y_a2 ?y_a3 ?y_a4 ?y_a5 ?y_a6 ?y_a7 ?y_a8 ?y_a9 ?y_b1 ?y_b2 ?y_b3 ?y_b4 ?y_b5 ?y_b6 ?y_b7 ?y_b8 ?y_b9 ?y_c1 ?y_c2 ?y_c3 ?y_c4 ?y_c5 ?y_c6; (case y_a1 => k_is); (case y_a2 => k_is); (case y_a3 => rfl); (case y_a4 => k_is); (case y_a5 => k_is); (case y_a6 => k_is); (case y_a7 => k_is); (case y_a8 => k_is); (case y_a9 => k_is); (case y_b1 => first | kernel_rfl | rfl | decide +kernel); (case y_b2 => k_is); (case y_b3 => k_is); (case y_b4 => k_is); (case y_b5 => k_is); (case y_b6 => k_is); (case y_b7 => k_is); (case y_b8 => rfl); (case y_b9 => rfl); (case y_c1 => k_is); (case y_c2 => k_is); (case y_c3 => k_is); (case y_c4 => k_is); (case y_c5 => k_is); (case y_c6 => k_is)))
    (case e3_0 => k_is)
    (case E_4 => (refine' ErrFacts.mk ?y_a1 ?y_a2 ?y_a3 ?y_a4 ?y_a5 ?y_a6 ?y_a7 ?y_a8 ?y_a9 ?y_b1 ?y_b2 ?y_b3 ?y_b4 ?y_b5 ?y_b6 ?y_b7 ?y_b8 ?y_b9 ?y_c1 ?y_c2 ?y_c3 ?y_c4 ?y_c5 ?y_c6; (case y_a1 => k_is); (case y_a2 => k_is); (case y_a3 => rfl); (case y_a4 => k_is); (case y_a5 => k_is); (case y_a6 => k_is); (case y_a7 => k_is); (case y_a8 => k_is); (case y_a9 => k_is); (case y_b1 => first | kernel_rfl | rfl | decide +kernel); (case y_b2 => k_is); (case y_b3 => k_is); (case y_b4 => k_is); (case y_b5 => k_is); (case y_b6 => k_is); (case y_b7 => k_is); (case y_b8 => rfl); (case y_b9 => rfl); (case y_c1 => k_is); (case y_c2 => k_is); (case y_c3 => k_is); (case y_c4 => k_is); (case y_c5 => k_is); (case y_c6 => k_is)))
    (case e4_0 => k_is)
    (case E_5 => (refine' ErrFacts.mk ?y_a1 ?y_a2 ?y_a3 ?y_a4 ?y_a5 ?y_a6 ?y_a7 ?y_a8 ?y_a9 ?y_b1 ?y_b2 ?y_b3 ?y_b4 ?y_b5 ?y_b6 ?y_b7 ?y_b8 ?y_b9 ?y_c1 ?y_c2 ?y_c3 ?y_c4 ?y_c5 ?y_c6; (case y_a1 => k_is); (case y_a2 => k_is); (case y_a3 => rfl); (case y_a4 => k_is); (case y_a5 => k_is); (case y_a6 => k_is); (case y_a7 => k_is); (case y_a8 => k_is); (case y_a9 => k_is); (case y_b1 => first | kernel_rfl | rfl | decide +kernel); (case y_b2 => k_is); (case y_b3 => k_is); (case y_b4 => k_is); (case y_b5 => k_is); (case y_b6 => k_is); (case y_b7 => k_is); (case y_b8 => rfl); (case y_b9 => rfl); (case y_c1 => k_is); (case y_c2 => k_is); (case y_c3 => k_is); (case y_c4 => k_is); (case y_c5 => k_is); (case y_c6 => k_is)))
    (case e5_0 => k_is)
    (case E_6 => (refine' ErrFacts.mk ?y_a1 ?y_a2 ?y_a3 ?y_a4 ?y_a5 ?y_a6 ?y_a7 ?y_a8 ?y_a9 ?y_b1 ?y_b2 ?y_b3 ?y_b4 ?y_b5 ?y_b6 ?y_b7 ?y_b8 ?y_b9 ?y_c1 ?y_c2 ?y_c3 ?y_c4 ?y_c5 ?y_c6; (case y_a1 => k_is); (case y_a2 => k_is); (case y_a3 => rfl); (case y_a4 => k_is); (case y_a5 => k_is); (case y_a6 => k_is); (case y_a7 => k_is); (case y_a8 => k_is); (case y_a9 => k_is); (case y_b1 => first | kernel_rfl | rfl | decide +kernel); (case y_b2 => k_is); (case y_b3 => k_is); (case y_b4 => k_is); (case y_b5 => k_is); (case y_b6 => k_is); (case y_b7 => k_is); (case y_b8 => rfl); (case y_b9 => rfl); (case y_c1 => k_is); (case y_c2 => k_is); (case y_c3 => k_is); (case y_c4 => k_is); (case y_c5 => k_is); (case y_c6 => k_is)))
    (case e6_0 => k_is)
    (case E_7 => (refine' ErrFacts.mk ?y_a1 ?y_a2 ?y_a3 ?y_a4 ?y_a5 ?y_a6 ?y_a7 ?y_a8 ?y_a9 ?y_b1 ?y_b2 ?y_b3 ?y_b4 ?y_b5 ?y_b6 ?y_b7 ?y_b8 ?y_b9 ?y_c1 ?y_c2 ?y_c3 ?y_c4 ?y_c5 ?y_c6; (case y_a1 => k_is); (case y_a2 => k_is); (case y_a3 => rfl); (case y_a4 => k_is); (case y_a5 => k_is); (case y_a6 => k_is); (case y_a7 => k_is); (case y_a8 => k_is); (case y_a9 => k_is); (case y_b1 => first | kernel_rfl | rfl | decide +kernel); (case y_b2 => k_is); (case y_b3 => k_is); (case y_b4 => k_is); (case y_b5 => k_is); (case y_b6 => k_is); (case y_b7 => k_is); (case y_b8 => rfl); (case y_b9 => rfl); (case y_c1 => k_is); (case y_c2 => k_is); (case y_c3 => k_is); (case y_c4 => k_is); (case y_c5 => k_is); (case y_c6 => k_is)))
    (case e7_0 => k_is)
    (case E_8 => (refine' ErrFacts.mk ?y_a1 ?y_a2 ?y_a3 ?y_a4 ?y_a5 ?y_a6 ?y_a7 ?y_a8 ?y_a9 ?y_b1 ?y_b2 ?y_b3 ?y_b4 ?y_b5 ?y_b6 ?y_b7 ?y_b8 ?y_b9 ?y_c1 ?y_c2 ?y_c3 ?y_c4 ?y_c5 ?y_c6; (case y_a1 => k_is); (case y_a2 => k_is); (case y_a3 => rfl); (case y_a4 => k_is); (case y_a5 => k_is); (case y_a6 => k_is); (case y_a7 => k_is); (case y_a8 => k_is); (case y_a9 => k_is); (case y_b1 => first | kernel_rfl | rfl | decide +kernel); (case y_b2 => k_is); (case y_b3 => k_is); (case y_b4 => k_is); (case y_b5 => k_is); (case y_b6 => k_is); (case y_b7 => k_is); (case y_b8 => rfl); (case y_b9 => rfl); (case y_c1 => k_is); (case y_c2 => k_is); (case y_c3 => k_is); (case y_c4 => k_is); (case y_c5 => k_is); (case y_c6 => k_is)))
    (case e8_0 => k_is)
    (case E_9 => (refine' ErrFacts.mk ?y_a1 ?y_a2 ?y_a3 ?y_a4 ?y_a5 ?y_a6 ?y_a7 ?y_a8 ?y_a9 ?y_b1 ?y_b2 ?y_b3 ?y_b4 ?y_b5 ?y_b6 ?y_b7 ?y_b8 ?y_b9 ?y_c1 ?y_c2 ?y_c3 ?y_c4 ?y_c5 ?y_c6; (case y_a1 => k_is); (case y_a2 => k_is); (case y_a3 => rfl); (case y_a4 => k_is); (case y_a5 => k_is); (case y_a6 => k_is); (case y_a7 => k_is); (case y_a8 => k_is); (case y_a9 => k_is); (case y_b1 => first | kernel_rfl | rfl | decide +kernel); (case y_b2 => k_is); (case y_b3 => k_is); (case y_b4 => k_is); (case y_b5 => k_is); (case y_b6 => k_is); (case y_b7 => k_is); (case y_b8 => rfl); (case y_b9 => rfl); (case y_c1 => k_is); (case y_c2 => k_is); (case y_c3 => k_is); (case y_c4 => k_is); (case y_c5 => k_is); (case y_c6 => k_is)))
    (case e9_0 => k_is)
    (case E_10 => (refine' ErrFacts.mk ?y_a1 ?y_a2 ?y_a3 ?y_a4 ?y_a5 ?y_a6 ?y_a7 ?y_a8 ?y_a9 ?y_b1 ?y_b2 ?y_b3 ?y_b4 ?y_b5 ?y_b6 ?y_b7 ?y_b8 ?y_b9 ?y_c1 ?y_c2 ?y_c3 ?y_c4 ?y_c5 ?y_c6; (case y_a1 => k_is); (case y_a2 => k_is); (case y_a3 => rfl); (case y_a4 => k_is); (case y_a5 => k_is); (case y_a6 => k_is); (case y_a7 => k_is); (case y_a8 => k_is); (case y_a9 => k_is); (case y_b1 => first | kernel_rfl | rfl | decide +kernel); (case y_b2 => k_is); (case y_b3 => k_is); (case y_b4 => k_is); (case y_b5 => k_is); (case y_b6 => k_is); (case y_b7 => k_is); (case y_b8 => rfl); (case y_b9 => rfl); (case y_c1 => k_is); (case y_c2 => k_is); (case y_c3 => k_is); (case y_c4 => k_is); (case y_c5 => k_is); (case y_c6 => k_is)))
    (case e10_0 => k_is)
    (case E_11 => (refine' ErrFacts.mk ?y_a1 ?y_a2 ?y_a3 ?y_a4 ?y_a5 ?y_a6 ?y_a7 ?y_a8 ?y_a9 ?y_b1 ?y_b2 ?y_b3 ?y_b4 ?y_b5 ?y_b6 ?y_b7 ?y_b8 ?y_b9 ?y_c1 ?y_c2 ?y_c3 ?y_c4 ?y_c5 ?y_c6; (case y_a1 => k_is); (case y_a2 => k_is); (case y_a3 => rfl); (case y_a4 => k_is); (case y_a5 => k_is); (case y_a6 => k_is); (case y_a7 => k_is); (case y_a8 => k_is); (case y_a9 => k_is); (case y_b1 => first | kernel_rfl | rfl | decide +kernel); (case y_b2 => k_is); (case y_b3 => k_is); (case y_b4 => k_is); (case y_b5 => k_is); (case y_b6 => k_is); (case y_b7 => k_is); (case y_b8 => rfl); (case y_b9 => rfl); (case y_c1 => k_is); (case y_c2 => k_is); (case y_c3 => k_is); (case y_c4 => k_is); (case y_c5 => k_is); (case y_c6 => k_is)))
    (case e11_0 => k_is)
    (case e11_1 => k_is)
    (case E_12 => (refine' ErrFacts.mk ?y_a1 ?y_a2 ?y_a3 ?y_a4 ?y_a5 ?y_a6 ?y_a7 ?y_a8 ?y_a9 ?y_b1 ?y_b2 ?y_b3 ?y_b4 ?y_b5 ?y_b6 ?y_b7 ?y_b8 ?y_b9 ?y_c1 ?y_c2 ?y_c3 ?y_c4 ?y_c5 ?y_c6; (case y_a1 => k_is); (case y_a2 => k_is); (case y_a3 => rfl); (case y_a4 => k_is); (case y_a5 => k_is); (case y_a6 => k_is); (case y_a7 => k_is); (case y_a8 => k_is); (case y_a9 => k_is); (case y_b1 => first | kernel_rfl | rfl | decide +kernel); (case y_b2 => k_is); (case y_b3 => k_is); (case y_b4 => k_is); (case y_b5 => k_is); (case y_b6 => k_is); (case y_b7 => k_is); (case y_b8 => rfl); (case y_b9 => rfl); (case y_c1 => k_is); (case y_c2 => k_is); (case y_c3 => k_is); (case y_c4 => k_is); (case y_c5 => k_is); (case y_c6 => k_is)))
    (case e12_0 => k_is)
    (case E_13 => (refine' ErrFacts.mk ?y_a1 ?y_a2 ?y_a3 ?y_a4 ?y_a5 ?y_a6 ?y_a7 ?y_a8 ?y_a9 ?y_b1 ?y_b2 ?y_b3 ?y_b4 ?y_b5 ?y_b6 ?y_b7 ?y_b8 ?y_b9 ?y_c1 ?y_c2 ?y_c3 ?y_c4 ?y_c5 ?y_c6; (case y_a1 => k_is); (case y_a2 => k_is); (case y_a3 => rfl); (case y_a4 => k_is); (case y_a5 => k_is); (case y_a6 => k_is); (case y_a7 => k_is); (case y_a8 => k_is); (case y_a9 => k_is); (case y_b1 => first | kernel_rfl | rfl | decide +kernel); (case y_b2 => k_is); (case y_b3 => k_is); (case y_b4 => k_is); (case y_b5 => k_is); (case y_b6 => k_is); (case y_b7 => k_is); (case y_b8 => rfl); (case y_b9 => rfl); (case y_c1 => k_is); (case y_c2 => k_is); (case y_c3 => k_is); (case y_c4 => k_is); (case y_c5 => k_is); (case y_c6 => k_is)))
    (case e13_0 => k_is)
    (case E_14 => (refine' ErrFacts.mk ?y_a1 ?y_a2 ?y_a3 ?y_a4 ?y_a5 ?y_a6 ?y_a7 ?y_a8 ?y_a9 ?y_b1 ?y_b2 ?y_b3 ?y_b4 ?y_b5 ?y_b6 ?y_b7 ?y_b8 ?y_b9 ?y_c1 ?y_c2 ?y_c3 ?y_c4 ?y_c5 ?y_c6; (case y_a1 => k_is); (case y_a2 => k_is); (case y_a3 => rfl); (case y_a4 => k_is); (case y_a5 => k_is); (case y_a6 => k_is); (case y_a7 => k_is); (case y_a8 => k_is); (case y_a9 => k_is); (case y_b1 => first | kernel_rfl | rfl | decide +kernel); (case y_b2 => k_is); (case y_b3 => k_is); (case y_b4 => k_is); (case y_b5 => k_is); (case y_b6 => k_is); (case y_b7 => k_is); (case y_b8 => rfl); (case y_b9 => rfl); (case y_c1 => k_is); (case y_c2 => k_is); (case y_c3 => k_is); (case y_c4 => k_is); (case y_c5 => k_is); (case y_c6 => k_is)))
    (case e14_0 => k_is)
    (case E_15 => (refine' ErrFacts.mk ?y_a1 ?y_a2 ?y_a3 ?y_a4 ?y_a5 ?y_a6 ?y_a7 ?y_a8 ?y_a9 ?y_b1 ?y_b2 ?y_b3 ?y_b4 ?y_b5 ?y_b6 ?y_b7 ?y_b8 ?y_b9 ?y_c1 ?y_c2 ?y_c3 ?y_c4 ?y_c5 ?y_c6; (case y_a1 => k_is); (case y_a2 => k_is); (case y_a3 => rfl); (case y_a4 => k_is); (case y_a5 => k_is); (case y_a6 => k_is); (case y_a7 => k_is); (case y_a8 => k_is); (case y_a9 => k_is); (case y_b1 => first | kernel_rfl | rfl | decide +kernel); (case y_b2 => k_is); (case y_b3 => k_is); (case y_b4 => k_is); (case y_b5 => k_is); (case y_b6 => k_is); (case y_b7 => k_is); (case y_b8 => rfl); (case y_b9 => rfl); (case y_c1 => k_is); (case y_c2 => k_is); (case y_c3 => k_is); (case y_c4 => k_is); (case y_c5 => k_is); (case y_c6 => k_is)))
    (case e15_0 => k_is)
    (case E_16 => (refine' ErrFacts.mk ?y_a1 ?y_a2 ?y_a3 ?y_a4 ?y_a5 ?y_a6 ?y_a7 ?y_a8 ?y_a9 ?y_b1 ?y_b2 ?y_b3 ?y_b4 ?y_b5 ?y_b6 ?y_b7 ?y_b8 ?y_b9 ?y_c1 ?y_c2 ?y_c3 ?y_c4 ?y_c5 ?y_c6; (case y_a1 => k_is); (case y_a2 => k_is); (case y_a3 => rfl); (case y_a4 => k_is); (case y_a5 => k_is); (case y_a6 => k_is); (case y_a7 => k_is); (case y_a8 => k_is); (case y_a9 => k_is); (case y_b1 => first | kernel_rfl | rfl | decide +kernel); (case y_b2 => k_is); (case y_b3 => k_is); (case y_b4 => k_is); (case y_b5 => k_is); (case y_b6 => k_is); (case y_b7 => k_is); (case y_b8 => rfl); (case y_b9 => rfl); (case y_c1 => k_is); (case y_c2 => k_is); (case y_c3 => k_is); (case y_c4 => k_is); (case y_c5 => k_is); (case y_c6 => k_is)))
    (case e16_0 => k_is)
    (case e16_1 => k_is)
    (case d0 => k_is)
    (case d1 => k_is)
    (case d2 => k_is)
    (case d3 => k_is)
    (case na_NoMember => k_exc)
    (case nb_NoMember => k_is)
    (case nc_NoMember => k_is)
    (case nd_NoMember => k_is)
    (case ne_NoMember => k_is)
    (case nf_NoMember => k_is)
    (case ng_NoMember => k_is)
    (case nh_NoMember => k_is)
    (case na_Unfit => k_exc)
    (case nb_Unfit => k_is)
    (case nc_Unfit => k_is)
    (case nd_Unfit => k_is)
    (case ne_Unfit => k_is)
    (case nf_Unfit => k_is)
    (case ng_Unfit => k_is)
    (case nh_Unfit => k_is)
    (case na_Nothing => k_exc)
    (case nb_Nothing => k_is)
    (case nc_Nothing => k_is)
    (case nd_Nothing => k_is)
    (case ne_Nothing => k_is)
    (case nf_Nothing => k_is)
    (case ng_Nothing => k_is)
    (case nh_Nothing => k_is)
    (case na_ReachError => k_exc)
    (case nb_ReachError => k_is)
    (case nc_ReachError => k_is)
    (case nd_ReachError => k_is)
    (case ne_ReachError => k_is)
    (case nf_ReachError => k_is)
    (case ng_ReachError => k_is)
    (case nh_ReachError => k_is)
    (case k_0_0 => first | kts_exm | kit_is | k_is | decide +kernel)
    (case k_0_1 => first | kts_exm | kit_is | k_is | decide +kernel)
    (case k_0_2 => first | kts_exm | kit_is | k_is | decide +kernel)
    (case k_0_3 => first | kts_exm | kit_is | k_is | decide +kernel)
    (case k_0_4 => first | kts_exm | kit_is | k_is | decide +kernel)
    (case k_0_5 => first | kts_exm | kit_is | k_is | decide +kernel)
    (case k_0_6 => first | kts_exm | kit_is | k_is | decide +kernel)
    (case k_0_7 => first | kts_exm | kit_is | k_is | decide +kernel)
    (case k_0_8 => first | kts_exm | kit_is | k_is | decide +kernel)
    (case k_0_9 => first | kts_exm | kit_is | k_is | decide +kernel)
    (case k_0_10 => first | kts_exm | kit_is | k_is | decide +kernel)
    (case k_0_11 => first | kts_exm | kit_is | k_is | decide +kernel)
    (case k_0_12 => first | kts_exm | kit_is | k_is | decide +kernel)
    (case k_0_13 => first | kts_exm | kit_is | k_is | decide +kernel)
    (case k_0_14 => first | kts_exm | kit_is | k_is | decide +kernel)
    (case k_0_15 => first | kts_exm | kit_is | k_is | decide +kernel)
    (case k_0_16 => first | kts_exm | kit_is | k_is | decide +kernel)
    (case k_0_17 => first | kts_exm | kit_is | k_is | decide +kernel)
    (case k_0_18 => first | kts_exm | kit_is | k_is | decide +kernel)
    (case k_0_19 => first | kts_exm | kit_is | k_is | decide +kernel)
    (case kR_0 => first | kts_exm | kit_is | k_is | decide +kernel)
    (case kV_0 => first | kts_exm | kit_is | k_is | decide +kernel)
    (case kL_0 => first | kts_exm | kit_is | k_is | decide +kernel)
    (case k_1_0 => first | kts_exm | kit_is | k_is | decide +kernel)
    (case k_1_1 => first | kts_exm | kit_is | k_is | decide +kernel)
    (case k_1_2 => first | kts_exm | kit_is | k_is | decide +kernel)
    (case k_1_3 => first | kts_exm | kit_is | k_is | decide +kernel)
    (case k_1_4 => first | kts_exm | kit_is | k_is | decide +kernel)
    (case k_1_5 => first | kts_exm | kit_is | k_is | decide +kernel)
    (case k_1_6 => first | kts_exm | kit_is | k_is | decide +kernel)
    (case k_1_7 => first | kts_exm | kit_is | k_is | decide +kernel)
    (case k_1_8 => first | kts_exm | kit_is | k_is | decide +kernel)
    (case k_1_9 => first | kts_exm | kit_is | k_is | decide +kernel)
    (case k_1_10 => first | kts_exm | kit_is | k_is | decide +kernel)
    (case k_1_11 => first | kts_exm | kit_is | k_is | decide +kernel)
    (case k_1_12 => first | kts_exm | kit_is | k_is | decide +kernel)
    (case k_1_13 => first | kts_exm | kit_is | k_is | decide +kernel)
    (case k_1_14 => first | kts_exm | kit_is | k_is | decide +kernel)
    (case k_1_15 => first | kts_exm | kit_is | k_is | decide +kernel)
    (case k_1_16 => first | kts_exm | kit_is | k_is | decide +kernel)
    (case k_1_17 => first | kts_exm | kit_is | k_is | decide +kernel)
    (case k_1_18 => first | kts_exm | kit_is | k_is | decide +kernel)
    (case k_1_19 => first | kts_exm | kit_is | k_is | decide +kernel)
    (case kR_1 => first | kts_exm | kit_is | k_is | decide +kernel)
    (case kV_1 => first | kts_exm | kit_is | k_is | decide +kernel)
    (case kL_1 => first | kts_exm | kit_is | k_is | decide +kernel)
    (case k_2_0 => first | kts_exm | kit_is | k_is | decide +kernel)
    (case k_2_1 => first | kts_exm | kit_is | k_is | decide +kernel)
    (case k_2_2 => first | kts_exm | kit_is | k_is | decide +kernel)
    (case k_2_3 => first | kts_exm | kit_is | k_is | decide +kernel)
    (case k_2_4 => first | kts_exm | kit_is | k_is | decide +kernel)
    (case k_2_5 => first | kts_exm | kit_is | k_is | decide +kernel)
    (case k_2_6 => first | kts_exm | kit_is | k_is | decide +kernel)
    (case k_2_7 => first | kts_exm | kit_is | k_is | decide +kernel)
    (case k_2_8 => first | kts_exm | kit_is | k_is | decide +kernel)
    (case k_2_9 => first | kts_exm | kit_is | k_is | decide +kernel)
    (case k_2_10 => first | kts_exm | kit_is | k_is | decide +kernel)
    (case k_2_11 => first | kts_exm | kit_is | k_is | decide +kernel)
    (case k_2_12 => first | kts_exm | kit_is | k_is | decide +kernel)
    (case k_2_13 => first | kts_exm | kit_is | k_is | decide +kernel)
    (case k_2_14 => first | kts_exm | kit_is | k_is | decide +kernel)
    (case k_2_15 => first | kts_exm | kit_is | k_is | decide +kernel)
    (case k_2_16 => first | kts_exm | kit_is | k_is | decide +kernel)
    (case k_2_17 => first | kts_exm | kit_is | k_is | decide +kernel)
    (case k_2_18 => first | kts_exm | kit_is | k_is | decide +kernel)
    (case k_2_19 => first | kts_exm | kit_is | k_is | decide +kernel)
    (case kR_2 => first | kts_exm | kit_is | k_is | decide +kernel)
    (case kV_2 => first | kts_exm | kit_is | k_is | decide +kernel)
    (case kL_2 => first | kts_exm | kit_is | k_is | decide +kernel)
    (case k_3_0 => first | kts_exm | kit_is | k_is | decide +kernel)
    (case k_3_1 => first | kts_exm | kit_is | k_is | decide +kernel)
    (case k_3_2 => first | kts_exm | kit_is | k_is | decide +kernel)
    (case k_3_3 => first | kts_exm | kit_is | k_is | decide +kernel)
    (case k_3_4 => first | kts_exm | kit_is | k_is | decide +kernel)
    (case k_3_5 => first | kts_exm | kit_is | k_is | decide +kernel)
    (case k_3_6 => first | kts_exm | kit_is | k_is | decide +kernel)
    (case k_3_7 => first | kts_exm | kit_is | k_is | decide +kernel)
    (case k_3_8 => first | kts_exm | kit_is | k_is | decide +kernel)
    (case k_3_9 => first | kts_exm | kit_is | k_is | decide +kernel)
    (case k_3_10 => first | kts_exm | kit_is | k_is | decide +kernel)
    (case k_3_11 => first | kts_exm | kit_is | k_is | decide +kernel)
    (case k_3_12 => first | kts_exm | kit_is | k_is | decide +kernel)
    (case k_3_13 => first | kts_exm | kit_is | k_is | decide +kernel)
    (case k_3_14 => first | kts_exm | kit_is | k_is | decide +kernel)
    (case k_3_15 => first | kts_exm | kit_is | k_is | decide +kernel)
    (case k_3_16 => first | kts_exm | kit_is | k_is | decide +kernel)
    (case k_3_17 => first | kts_exm | kit_is | k_is | decide +kernel)
    (case k_3_18 => first | kts_exm | kit_is | k_is | decide +kernel)
    (case k_3_19 => first | kts_exm | kit_is | k_is | decide +kernel)
    (case kR_3 => first | kts_exm | kit_is | k_is | decide +kernel)
    (case kV_3 => first | kts_exm | kit_is | k_is | decide +kernel)
    (case kL_3 => first | kts_exm | kit_is | k_is | decide +kernel)
    (case k_4_0 => first | kts_exm | kit_is | k_is | decide +kernel)
    (case k_4_1 => first | kts_exm | kit_is | k_is | decide +kernel)
    (case k_4_2 => first | kts_exm | kit_is | k_is | decide +kernel)
    (case k_4_3 => first | kts_exm | kit_is | k_is | decide +kernel)
    (case k_4_4 => first | kts_exm | kit_is | k_is | decide +kernel)
    (case k_4_5 => first | kts_exm | kit_is | k_is | decide +kernel)
    (case k_4_6 => first | kts_exm | kit_is | k_is | decide +kernel)
    (case k_4_7 => first | kts_exm | kit_is | k_is | decide +kernel)
    (case k_4_8 => first | kts_exm | kit_is | k_is | decide +kernel)
    (case k_4_9 => first | kts_exm | kit_is | k_is | decide +kernel)
    (case k_4_10 => first | kts_exm | kit_is | k_is | decide +kernel)
    (case k_4_11 => first | kts_exm | kit_is | k_is | decide +kernel)
    (case k_4_12 => first | kts_exm | kit_is | k_is | decide +kernel)
    (case k_4_13 => first | kts_exm | kit_is | k_is | decide +kernel)
    (case k_4_14 => first | kts_exm | kit_is | k_is | decide +kernel)
    (case k_4_15 => first | kts_exm | kit_is | k_is | decide +kernel)
    (case k_4_16 => first | kts_exm | kit_is | k_is | decide +kernel)
    (case k_4_17 => first | kts_exm | kit_is | k_is | decide +kernel)
    (case k_4_18 => first | kts_exm | kit_is | k_is | decide +kernel)
    (case k_4_19 => first | kts_exm | kit_is | k_is | decide +kernel)
    (case kR_4 => first | kts_exm | kit_is | k_is | decide +kernel)
    (case kV_4 => first | kts_exm | kit_is | k_is | decide +kernel)
    (case kL_4 => first | kts_exm | kit_is | k_is | decide +kernel)
    (case k_5_0 => first | kts_exm | kit_is | k_is | decide +kernel)
    (case k_5_1 => first | kts_exm | kit_is | k_is | decide +kernel)
    (case k_5_2 => first | kts_exm | kit_is | k_is | decide +kernel)
    (case k_5_3 => first | kts_exm | kit_is | k_is | decide +kernel)
    (case k_5_4 => first | kts_exm | kit_is | k_is | decide +kernel)
    (case k_5_5 => first | kts_exm | kit_is | k_is | decide +kernel)
    (case k_5_6 => first | kts_exm | kit_is | k_is | decide +kernel)
    (case k_5_7 => first | kts_exm | kit_is | k_is | decide +kernel)
    (case k_5_8 => first | kts_exm | kit_is | k_is | decide +kernel)
    (case k_5_9 => first | kts_exm | kit_is | k_is | decide +kernel)
    (case k_5_10 => first | kts_exm | kit_is | k_is | decide +kernel)
    (case k_5_11 => first | kts_exm | kit_is | k_is | decide +kernel)
    (case k_5_12 => first | kts_exm | kit_is | k_is | decide +kernel)
    (case k_5_13 => first | kts_exm | kit_is | k_is | decide +kernel)
    (case k_5_14 => first | kts_exm | kit_is | k_is | decide +kernel)
    (case k_5_15 => first | kts_exm | kit_is | k_is | decide +kernel)
    (case k_5_16 => first | kts_exm | kit_is | k_is | decide +kernel)
    (case k_5_17 => first | kts_exm | kit_is | k_is | decide +kernel)
    (case k_5_18 => first | kts_exm | kit_is | k_is | decide +kernel)
    (case k_5_19 => first | kts_exm | kit_is | k_is | decide +kernel)
    (case kR_5 => first | kts_exm | kit_is | k_is | decide +kernel)
    (case kV_5 => first | kts_exm | kit_is | k_is | decide +kernel)
    (case kL_5 => first | kts_exm | kit_is | k_is | decide +kernel)
    (case k_6_0 => first | kts_exm | kit_is | k_is | decide +kernel)
    (case k_6_1 => first | kts_exm | kit_is | k_is | decide +kernel)
    (case k_6_2 => first | kts_exm | kit_is | k_is | decide +kernel)
    (case k_6_3 => first | kts_exm | kit_is | k_is | decide +kernel)
    (case k_6_4 => first | kts_exm | kit_is | k_is | decide +kernel)
    (case k_6_5 => first | kts_exm | kit_is | k_is | decide +kernel)
    (case k_6_6 => first | kts_exm | kit_is | k_is | decide +kernel)
    (case k_6_7 => first | kts_exm | kit_is | k_is | decide +kernel)
    (case k_6_8 => first | kts_exm | kit_is | k_is | decide +kernel)
    (case k_6_9 => first | kts_exm | kit_is | k_is | decide +kernel)
    (case k_6_10 => first | kts_exm | kit_is | k_is | decide +kernel)
    (case k_6_11 => first | kts_exm | kit_is | k_is | decide +kernel)
    (case k_6_12 => first | kts_exm | kit_is | k_is | decide +kernel)
    (case k_6_13 => first | kts_exm | kit_is | k_is | decide +kernel)
    (case k_6_14 => first | kts_exm | kit_is | k_is | decide +kernel)
    (case k_6_15 => first | kts_exm | kit_is | k_is | decide +kernel)
    (case k_6_16 => first | kts_exm | kit_is | k_is | decide +kernel)
    (case k_6_17 => first | kts_exm | kit_is | k_is | decide +kernel)
    (case k_6_18 => first | kts_exm | kit_is | k_is | decide +kernel)
    (case k_6_19 => first | kts_exm | kit_is | k_is | decide +kernel)
    (case kR_6 => first | kts_exm | kit_is | k_is | decide +kernel)
    (case kV_6 => first | kts_exm | kit_is | k_is | decide +kernel)
    (case kL_6 => first | kts_exm | kit_is | k_is | decide +kernel)
    (case k_7_0 => first | kts_exm | kit_is | k_is | decide +kernel)
    (case k_7_1 => first | kts_exm | kit_is | k_is | decide +kernel)
    (case k_7_2 => first | kts_exm | kit_is | k_is | decide +kernel)
    (case k_7_3 => first | kts_exm | kit_is | k_is | decide +kernel)
    (case k_7_4 => first | kts_exm | kit_is | k_is | decide +kernel)
    (case k_7_5 => first | kts_exm | kit_is | k_is | decide +kernel)
    (case k_7_6 => first | kts_exm | kit_is | k_is | decide +kernel)
    (case k_7_7 => first | kts_exm | kit_is | k_is | decide +kernel)
    (case k_7_8 => first | kts_exm | kit_is | k_is | decide +kernel)
    (case k_7_9 => first | kts_exm | kit_is | k_is | decide +kernel)
    (case k_7_10 => first | kts_exm | kit_is | k_is | decide +kernel)
    (case k_7_11 => first | kts_exm | kit_is | k_is | decide +kernel)
    (case k_7_12 => first | kts_exm | kit_is | k_is | decide +kernel)
    (case k_7_13 => first | kts_exm | kit_is | k_is | decide +kernel)
    (case k_7_14 => first | kts_exm | kit_is | k_is | decide +kernel)
    (case k_7_15 => first | kts_exm | kit_is | k_is | decide +kernel)
    (case k_7_16 => first | kts_exm | kit_is | k_is | decide +kernel)
    (case k_7_17 => first | kts_exm | kit_is | k_is | decide +kernel)
    (case k_7_18 => first | kts_exm | kit_is | k_is | decide +kernel)
    (case k_7_19 => first | kts_exm | kit_is | k_is | decide +kernel)
    (case kR_7 => first | kts_exm | kit_is | k_is | decide +kernel)
    (case kV_7 => first | kts_exm | kit_is | k_is | decide +kernel)
    (case kL_7 => first | kts_exm | kit_is | k_is | decide +kernel)
    (case k_8_0 => first | kts_exm | kit_is | k_is | decide +kernel)
    (case k_8_1 => first | kts_exm | kit_is | k_is | decide +kernel)
    (case k_8_2 => first | kts_exm | kit_is | k_is | decide +kernel)
    (case k_8_3 => first | kts_exm | kit_is | k_is | decide +kernel)
    (case k_8_4 => first | kts_exm | kit_is | k_is | decide +kernel)
    (case k_8_5 => first | kts_exm | kit_is | k_is | decide +kernel)
    (case k_8_6 => first | kts_exm | kit_is | k_is | decide +kernel)
    (case k_8_7 => first | kts_exm | kit_is | k_is | decide +kernel)
    (case k_8_8 => first | kts_exm | kit_is | k_is | decide +kernel)
    (case k_8_9 => first | kts_exm | kit_is | k_is | decide +kernel)
    (case k_8_10 => first | kts_exm | kit_is | k_is | decide +kernel)
    (case k_8_11 => first | kts_exm | kit_is | k_is | decide +kernel)
    (case k_8_12 => first | kts_exm | kit_is | k_is | decide +kernel)
    (case k_8_13 => first | kts_exm | kit_is | k_is | decide +kernel)
    (case k_8_14 => first | kts_exm | kit_is | k_is | decide +kernel)
    (case k_8_15 => first | kts_exm | kit_is | k_is | decide +kernel)
    (case k_8_16 => first | kts_exm | kit_is | k_is | decide +kernel)
    (case k_8_17 => first | kts_exm | kit_is | k_is | decide +kernel)
    (case k_8_18 => first | kts_exm | kit_is | k_is | decide +kernel)
    (case k_8_19 => first | kts_exm | kit_is | k_is | decide +kernel)
    (case kR_8 => first | kts_exm | kit_is | k_is | decide +kernel)
    (case kV_8 => first | kts_exm | kit_is | k_is | decide +kernel)
    (case kL_8 => first | kts_exm | kit_is | k_is | decide +kernel)
    (case k_9_0 => first | kts_exm | kit_is | k_is | decide +kernel)
    (case k_9_1 => first | kts_exm | kit_is | k_is | decide +kernel)
    (case k_9_2 => first | kts_exm | kit_is | k_is | decide +kernel)
    (case k_9_3 => first | kts_exm | kit_is | k_is | decide +kernel)
    (case k_9_4 => first | kts_exm | kit_is | k_is | decide +kernel)
    (case k_9_5 => first | kts_exm | kit_is | k_is | decide +kernel)
    (case k_9_6 => first | kts_exm | kit_is | k_is | decide +kernel)
    (case k_9_7 => first | kts_exm | kit_is | k_is | decide +kernel)
    (case k_9_8 => first | kts_exm | kit_is | k_is | decide +kernel)
    (case k_9_9 => first | kts_exm | kit_is | k_is | decide +kernel)
    (case k_9_10 => first | kts_exm | kit_is | k_is | decide +kernel)
    (case k_9_11 => first | kts_exm | kit_is | k_is | decide +kernel)
    (case k_9_12 => first | kts_exm | kit_is | k_is | decide +kernel)
    (case k_9_13 => first | kts_exm | kit_is | k_is | decide +kernel)
    (case k_9_14 => first | kts_exm | kit_is | k_is | decide +kernel)
    (case k_9_15 => first | kts_exm | kit_is | k_is | decide +kernel)
    (case k_9_16 => first | kts_exm | kit_is | k_is | decide +kernel)
    (case k_9_17 => first | kts_exm | kit_is | k_is | decide +kernel)
    (case k_9_18 => first | kts_exm | kit_is | k_is | decide +kernel)
    (case k_9_19 => first | kts_exm | kit_is | k_is | decide +kernel)
    (case kR_9 => first | kts_exm | kit_is | k_is | decide +kernel)
    (case kV_9 => first | kts_exm | kit_is | k_is | decide +kernel)
    (case kL_9 => first | kts_exm | kit_is | k_is | decide +kernel)
    (case k_10_0 => first | kts_exm | kit_is | k_is | decide +kernel)
    (case k_10_1 => first | kts_exm | kit_is | k_is | decide +kernel)
    (case k_10_2 => first | kts_exm | kit_is | k_is | decide +kernel)
    (case k_10_3 => first | kts_exm | kit_is | k_is | decide +kernel)
    (case k_10_4 => first | kts_exm | kit_is | k_is | decide +kernel)
    (case k_10_5 => first | kts_exm | kit_is | k_is | decide +kernel)
    (case k_10_6 => first | kts_exm | kit_is | k_is | decide +kernel)
    (case k_10_7 => first | kts_exm | kit_is | k_is | decide +kernel)
    (case k_10_8 => first | kts_exm | kit_is | k_is | decide +kernel)
    (case k_10_9 => first | kts_exm | kit_is | k_is | decide +kernel)
    (case k_10_10 => first | kts_exm | kit_is | k_is | decide +kernel)
    (case k_10_11 => first | kts_exm | kit_is | k_is | decide +kernel)
    (case k_10_12 => first | kts_exm | kit_is | k_is | decide +kernel)
    (case k_10_13 => first | kts_exm | kit_is | k_is | decide +kernel)
    (case k_10_14 => first | kts_exm | kit_is | k_is | decide +kernel)
    (case k_10_15 => first | kts_exm | kit_is | k_is | decide +kernel)
    (case k_10_16 => first | kts_exm | kit_is | k_is | decide +kernel)
    (case k_10_17 => first | kts_exm | kit_is | k_is | decide +kernel)
    (case k_10_18 => first | kts_exm | kit_is | k_is | decide +kernel)
    (case k_10_19 => first | kts_exm | kit_is | k_is | decide +kernel)
    (case kR_10 => first | kts_exm | kit_is | k_is | decide +kernel)
    (case kV_10 => first | kts_exm | kit_is | k_is | decide +kernel)
    (case kL_10 => first | kts_exm | kit_is | k_is | decide +kernel)
    (case k_11_0 => first | kts_exm | kit_is | k_is | decide +kernel)
    (case k_11_1 => first | kts_exm | kit_is | k_is | decide +kernel)
    (case k_11_2 => first | kts_exm | kit_is | k_is | decide +kernel)
    (case k_11_3 => first | kts_exm | kit_is | k_is | decide +kernel)
    (case k_11_4 => first | kts_exm | kit_is | k_is | decide +kernel)
    (case k_11_5 => first | kts_exm | kit_is | k_is | decide +kernel)
    (case k_11_6 => first | kts_exm | kit_is | k_is | decide +kernel)
    (case k_11_7 => first | kts_exm | kit_is | k_is | decide +kernel)
    (case k_11_8 => first | kts_exm | kit_is | k_is | decide +kernel)
    (case k_11_9 => first | kts_exm | kit_is | k_is | decide +kernel)
    (case k_11_10 => first | kts_exm | kit_is | k_is | decide +kernel)
    (case k_11_11 => first | kts_exm | kit_is | k_is | decide +kernel)
    (case k_11_12 => first | kts_exm | kit_is | k_is | decide +kernel)
    (case k_11_13 => first | kts_exm | kit_is | k_is | decide +kernel)
    (case k_11_14 => first | kts_exm | kit_is | k_is | decide +kernel)
    (case k_11_15 => first | kts_exm | kit_is | k_is | decide +kernel)
    (case k_11_16 => first | kts_exm | kit_is | k_is | decide +kernel)
    (case k_11_17 => first | kts_exm | kit_is | k_is | decide +kernel)
    (case k_11_18 => first | kts_exm | kit_is | k_is | decide +kernel)
    (case k_11_19 => first | kts_exm | kit_is | k_is | decide +kernel)
    (case kR_11 => first | kts_exm | kit_is | k_is | decide +kernel)
    (case kV_11 => first | kts_exm | kit_is | k_is | decide +kernel)
    (case kL_11 => first | kts_exm | kit_is | k_is | decide +kernel)
    (case k_12_0 => first | kts_exm | kit_is | k_is | decide +kernel)
    (case k_12_1 => first | kts_exm | kit_is | k_is | decide +kernel)
    (case k_12_2 => first | kts_exm | kit_is | k_is | decide +kernel)
    (case k_12_3 => first | kts_exm | kit_is | k_is | decide +kernel)
    (case k_12_4 => first | kts_exm | kit_is | k_is | decide +kernel)
    (case k_12_5 => first | kts_exm | kit_is | k_is | decide +kernel)
    (case k_12_6 => first | kts_exm | kit_is | k_is | decide +kernel)
    (case k_12_7 => first | kts_exm | kit_is | k_is | decide +kernel)
    (case k_12_8 => first | kts_exm | kit_is | k_is | decide +kernel)
    (case k_12_9 => first | kts_exm | kit_is | k_is | decide +kernel)
    (case k_12_10 => first | kts_exm | kit_is | k_is | decide +kernel)
    (case k_12_11 => first | kts_exm | kit_is | k_is | decide +kernel)
    (case k_12_12 => first | kts_exm | kit_is | k_is | decide +kernel)
    (case k_12_13 => first | kts_exm | kit_is | k_is | decide +kernel)
    (case k_12_14 => first | kts_exm | kit_is | k_is | decide +kernel)
    (case k_12_15 => first | kts_exm | kit_is | k_is | decide +kernel)
    (case k_12_16 => first | kts_exm | kit_is | k_is | decide +kernel)
    (case k_12_17 => first | kts_exm | kit_is | k_is | decide +kernel)
    (case k_12_18 => first | kts_exm | kit_is | k_is | decide +kernel)
    (case k_12_19 => first | kts_exm | kit_is | k_is | decide +kernel)
    (case kR_12 => first | kts_exm | kit_is | k_is | decide +kernel)
    (case kV_12 => first | kts_exm | kit_is | k_is | decide +kernel)
    (case kL_12 => first | kts_exm | kit_is | k_is | decide +kernel)
    (case k_13_0 => first | kts_exm | kit_is | k_is | decide +kernel)
    (case k_13_1 => first | kts_exm | kit_is | k_is | decide +kernel)
    (case k_13_2 => first | kts_exm | kit_is | k_is | decide +kernel)
    (case k_13_3 => first | kts_exm | kit_is | k_is | decide +kernel)
    (case k_13_4 => first | kts_exm | kit_is | k_is | decide +kernel)
    (case k_13_5 => first | kts_exm | kit_is | k_is | decide +kernel)
    (case k_13_6 => first | kts_exm | kit_is | k_is | decide +kernel)
    (case k_13_7 => first | kts_exm | kit_is | k_is | decide +kernel)
    (case k_13_8 => first | kts_exm | kit_is | k_is | decide +kernel)
    (case k_13_9 => first | kts_exm | kit_is | k_is | decide +kernel)
    (case k_13_10 => first | kts_exm | kit_is | k_is | decide +kernel)
    (case k_13_11 => first | kts_exm | kit_is | k_is | decide +kernel)
    (case k_13_12 => first | kts_exm | kit_is | k_is | decide +kernel)
    (case k_13_13 => first | kts_exm | kit_is | k_is | decide +kernel)
    (case k_13_14 => first | kts_exm | kit_is | k_is | decide +kernel)
    (case k_13_15 => first | kts_exm | kit_is | k_is | decide +kernel)
    (case k_13_16 => first | kts_exm | kit_is | k_is | decide +kernel)
    (case k_13_17 => first | kts_exm | kit_is | k_is | decide +kernel)
    (case k_13_18 => first | kts_exm | kit_is | k_is | decide +kernel)
    (case k_13_19 => first | kts_exm | kit_is | k_is | decide +kernel)
    (case kR_13 => first | kts_exm | kit_is | k_is | decide +kernel)
    (case kV_13 => first | kts_exm | kit_is | k_is | decide +kernel)
    (case kL_13 => first | kts_exm | kit_is | k_is | decide +kernel)
    (case k_14_0 => first | kts_exm | kit_is | k_is | decide +kernel)
    (case k_14_1 => first | kts_exm | kit_is | k_is | decide +kernel)
    (case k_14_2 => first | kts_exm | kit_is | k_is | decide +kernel)
    (case k_14_3 => first | kts_exm | kit_is | k_is | decide +kernel)
    (case k_14_4 => first | kts_exm | kit_is | k_is | decide +kernel)
    (case k_14_5 => first | kts_exm | kit_is | k_is | decide +kernel)
    (case k_14_6 => first | kts_exm | kit_is | k_is | decide +kernel)
    (case k_14_7 => first | kts_exm | kit_is | k_is | decide +kernel)
    (case k_14_8 => first | kts_exm | kit_is | k_is | decide +kernel)
    (case k_14_9 => first | kts_exm | kit_is | k_is | decide +kernel)
    (case k_14_10 => first | kts_exm | kit_is | k_is | decide +kernel)
    (case k_14_11 => first | kts_exm | kit_is | k_is | decide +kernel)
    (case k_14_12 => first | kts_exm | kit_is | k_is | decide +kernel)
    (case k_14_13 => first | kts_exm | kit_is | k_is | decide +kernel)
    (case k_14_14 => first | kts_exm | kit_is | k_is | decide +kernel)
    (case k_14_15 => first | kts_exm | kit_is | k_is | decide +kernel)
    (case k_14_16 => first | kts_exm | kit_is | k_is | decide +kernel)
    (case k_14_17 => first | kts_exm | kit_is | k_is | decide +kernel)
    (case k_14_18 => first | kts_exm | kit_is | k_is | decide +kernel)
    (case k_14_19 => first | kts_exm | kit_is | k_is | decide +kernel)
    (case kR_14 => first | kts_exm | kit_is | k_is | decide +kernel)
    (case kV_14 => first | kts_exm | kit_is | k_is | decide +kernel)
    (case kL_14 => first | kts_exm | kit_is | k_is | decide +kernel)
    (case k_15_0 => first | kts_exm | kit_is | k_is | decide +kernel)
    (case k_15_1 => first | kts_exm | kit_is | k_is | decide +kernel)
    (case k_15_2 => first | kts_exm | kit_is | k_is | decide +kernel)
    (case k_15_3 => first | kts_exm | kit_is | k_is | decide +kernel)
    (case k_15_4 => first | kts_exm | kit_is | k_is | decide +kernel)
    (case k_15_5 => first | kts_exm | kit_is | k_is | decide +kernel)
    (case k_15_6 => first | kts_exm | kit_is | k_is | decide +kernel)
    (case k_15_7 => first | kts_exm | kit_is | k_is | decide +kernel)
    (case k_15_8 => first | kts_exm | kit_is | k_is | decide +kernel)
    (case k_15_9 => first | kts_exm | kit_is | k_is | decide +kernel)
    (case k_15_10 => first | kts_exm | kit_is | k_is | decide +kernel)
    (case k_15_11 => first | kts_exm | kit_is | k_is | decide +kernel)
    (case k_15_12 => first | kts_exm | kit_is | k_is | decide +kernel)
    (case k_15_13 => first | kts_exm | kit_is | k_is | decide +kernel)
    (case k_15_14 => first | kts_exm | kit_is | k_is | decide +kernel)
    (case k_15_15 => first | kts_exm | kit_is | k_is | decide +kernel)
    (case k_15_16 => first | kts_exm | kit_is | k_is | decide +kernel)
    (case k_15_17 => first | kts_exm | kit_is | k_is | decide +kernel)
    (case k_15_18 => first | kts_exm | kit_is | k_is | decide +kernel)
    (case k_15_19 => first | kts_exm | kit_is | k_is | decide +kernel)
    (case kR_15 => first | kts_exm | kit_is | k_is | decide +kernel)
    (case kV_15 => first | kts_exm | kit_is | k_is | decide +kernel)
    (case kL_15 => first | kts_exm | kit_is | k_is | decide +kernel)
    (case k_16_0 => first | kts_exm | kit_is | k_is | decide +kernel)
    (case k_16_1 => first | kts_exm | kit_is | k_is | decide +kernel)
    (case k_16_2 => first | kts_exm | kit_is | k_is | decide +kernel)
    (case k_16_3 => first | kts_exm | kit_is | k_is | decide +kernel)
    (case k_16_4 => first | kts_exm | kit_is | k_is | decide +kernel)
    (case k_16_5 => first | kts_exm | kit_is | k_is | decide +kernel)
    (case k_16_6 => first | kts_exm | kit_is | k_is | decide +kernel)
    (case k_16_7 => first | kts_exm | kit_is | k_is | decide +kernel)
    (case k_16_8 => first | kts_exm | kit_is | k_is | decide +kernel)
    (case k_16_9 => first | kts_exm | kit_is | k_is | decide +kernel)
    (case k_16_10 => first | kts_exm | kit_is | k_is | decide +kernel)
    (case k_16_11 => first | kts_exm | kit_is | k_is | decide +kernel)
    (case k_16_12 => first | kts_exm | kit_is | k_is | decide +kernel)
    (case k_16_13 => first | kts_exm | kit_is | k_is | decide +kernel)
    (case k_16_14 => first | kts_exm | kit_is | k_is | decide +kernel)
    (case k_16_15 => first | kts_exm | kit_is | k_is | decide +kernel)
    (case k_16_16 => first | kts_exm | kit_is | k_is | decide +kernel)
    (case k_16_17 => first | kts_exm | kit_is | k_is | decide +kernel)
    (case k_16_18 => first | kts_exm | kit_is | k_is | decide +kernel)
    (case k_16_19 => first | kts_exm | kit_is | k_is | decide +kernel)
    (case kR_16 => first | kts_exm | kit_is | k_is | decide +kernel)
    (case kV_16 => first | kts_exm | kit_is | k_is | decide +kernel)
    (case kL_16 => first | kts_exm | kit_is | k_is | decide +kernel)
    (case k_17_0 => first | kts_exm | kit_is | k_is | decide +kernel)
    (case k_17_1 => first | kts_exm | kit_is | k_is | decide +kernel)
    (case k_17_2 => first | kts_exm | kit_is | k_is | decide +kernel)
    (case k_17_3 => first | kts_exm | kit_is | k_is | decide +kernel)
    (case k_17_4 => first | kts_exm | kit_is | k_is | decide +kernel)
    (case k_17_5 => first | kts_exm | kit_is | k_is | decide +kernel)
    (case k_17_6 => first | kts_exm | kit_is | k_is | decide +kernel)
    (case k_17_7 => first | kts_exm | kit_is | k_is | decide +kernel)
    (case k_17_8 => first | kts_exm | kit_is | k_is | decide +kernel)
    (case k_17_9 => first | kts_exm | kit_is | k_is | decide +kernel)
    (case k_17_10 => first | kts_exm | kit_is | k_is | decide +kernel)
    (case k_17_11 => first | kts_exm | kit_is | k_is | decide +kernel)
    (case k_17_12 => first | kts_exm | kit_is | k_is | decide +kernel)
    (case k_17_13 => first | kts_exm | kit_is | k_is | decide +kernel)
    (case k_17_14 => first | kts_exm | kit_is | k_is | decide +kernel)
    (case k_17_15 => first | kts_exm | kit_is | k_is | decide +kernel)
    (case k_17_16 => first | kts_exm | kit_is | k_is | decide +kernel)
    (case k_17_17 => first | kts_exm | kit_is | k_is | decide +kernel)
    (case k_17_18 => first | kts_exm | kit_is | k_is | decide +kernel)
    (case k_17_19 => first | kts_exm | kit_is | k_is | decide +kernel)
    (case kR_17 => first | kts_exm | kit_is | k_is | decide +kernel)
    (case kV_17 => first | kts_exm | kit_is | k_is | decide +kernel)
    (case kL_17 => first | kts_exm | kit_is | k_is | decide +kernel)
    (case k_18_0 => first | kts_exm | kit_is | k_is | decide +kernel)
    (case k_18_1 => first | kts_exm | kit_is | k_is | decide +kernel)
    (case k_18_2 => first | kts_exm | kit_is | k_is | decide +kernel)
    (case k_18_3 => first | kts_exm | kit_is | k_is | decide +kernel)
    (case k_18_4 => first | kts_exm | kit_is | k_is | decide +kernel)
    (case k_18_5 => first | kts_exm | kit_is | k_is | decide +kernel)
    (case k_18_6 => first | kts_exm | kit_is | k_is | decide +kernel)
    (case k_18_7 => first | kts_exm | kit_is | k_is | decide +kernel)
    (case k_18_8 => first | kts_exm | kit_is | k_is | decide +kernel)
    (case k_18_9 => first | kts_exm | kit_is | k_is | decide +kernel)
    (case k_18_10 => first | kts_exm | kit_is | k_is | decide +kernel)
    (case k_18_11 => first | kts_exm | kit_is | k_is | decide +kernel)
    (case k_18_12 => first | kts_exm | kit_is | k_is | decide +kernel)
    (case k_18_13 => first | kts_exm | kit_is | k_is | decide +kernel)
    (case k_18_14 => first | kts_exm | kit_is | k_is | decide +kernel)
    (case k_18_15 => first | kts_exm | kit_is | k_is | decide +kernel)
    (case k_18_16 => first | kts_exm | kit_is | k_is | decide +kernel)
    (case k_18_17 => first | kts_exm | kit_is | k_is | decide +kernel)
    (case k_18_18 => first | kts_exm | kit_is | k_is | decide +kernel)
    (case k_18_19 => first | kts_exm | kit_is | k_is | decide +kernel)
    (case kR_18 => first | kts_exm | kit_is | k_is | decide +kernel)
    (case kV_18 => first | kts_exm | kit_is | k_is | decide +kernel)
    (case kL_18 => first | kts_exm | kit_is | k_is | decide +kernel)
    (case k_19_0 => first | kts_exm | kit_is | k_is | decide +kernel)
    (case k_19_1 => first | kts_exm | kit_is | k_is | decide +kernel)
    (case k_19_2 => first | kts_exm | kit_is | k_is | decide +kernel)
    (case k_19_3 => first | kts_exm | kit_is | k_is | decide +kernel)
    (case k_19_4 => first | kts_exm | kit_is | k_is | decide +kernel)
    (case k_19_5 => first | kts_exm | kit_is | k_is | decide +kernel)
    (case k_19_6 => first | kts_exm | kit_is | k_is | decide +kernel)
    (case k_19_7 => first | kts_exm | kit_is | k_is | decide +kernel)
    (case k_19_8 => first | kts_exm | kit_is | k_is | decide +kernel)
    (case k_19_9 => first | kts_exm | kit_is | k_is | decide +kernel)
    (case k_19_10 => first | kts_exm | kit_is | k_is | decide +kernel)
    (case k_19_11 => first | kts_exm | kit_is | k_is | decide +kernel)
    (case k_19_12 => first | kts_exm | kit_is | k_is | decide +kernel)
    (case k_19_13 => first | kts_exm | kit_is | k_is | decide +kernel)
    (case k_19_14 => first | kts_exm | kit_is | k_is | decide +kernel)
    (case k_19_15 => first | kts_exm | kit_is | k_is | decide +kernel)
    (case k_19_16 => first | kts_exm | kit_is | k_is | decide +kernel)
    (case k_19_17 => first | kts_exm | kit_is | k_is | decide +kernel)
    (case k_19_18 => first | kts_exm | kit_is | k_is | decide +kernel)
    (case k_19_19 => first | kts_exm | kit_is | k_is | decide +kernel)
    (case kR_19 => first | kts_exm | kit_is | k_is | decide +kernel)
    (case kV_19 => first | kts_exm | kit_is | k_is | decide +kernel)
    (case kL_19 => first | kts_exm | kit_is | k_is | decide +kernel)
    (case k_R_0 => first | kts_exm | kit_is | k_is | decide +kernel)
    (case k_R_1 => first | kts_exm | kit_is | k_is | decide +kernel)
    (case k_R_2 => first | kts_exm | kit_is | k_is | decide +kernel)
    (case k_R_3 => first | kts_exm | kit_is | k_is | decide +kernel)
    (case k_R_4 => first | kts_exm | kit_is | k_is | decide +kernel)
    (case k_R_5 => first | kts_exm | kit_is | k_is | decide +kernel)
    (case k_R_6 => first | kts_exm | kit_is | k_is | decide +kernel)
    (case k_R_7 => first | kts_exm | kit_is | k_is | decide +kernel)
    (case k_R_8 => first | kts_exm | kit_is | k_is | decide +kernel)
    (case k_R_9 => first | kts_exm | kit_is | k_is | decide +kernel)
    (case k_R_10 => first | kts_exm | kit_is | k_is | decide +kernel)
    (case k_R_11 => first | kts_exm | kit_is | k_is | decide +kernel)
    (case k_R_12 => first | kts_exm | kit_is | k_is | decide +kernel)
    (case k_R_13 => first | kts_exm | kit_is | k_is | decide +kernel)
    (case k_R_14 => first | kts_exm | kit_is | k_is | decide +kernel)
    (case k_R_15 => first | kts_exm | kit_is | k_is | decide +kernel)
    (case k_R_16 => first | kts_exm | kit_is | k_is | decide +kernel)
    (case k_R_17 => first | kts_exm | kit_is | k_is | decide +kernel)
    (case k_R_18 => first | kts_exm | kit_is | k_is | decide +kernel)
    (case k_R_19 => first | kts_exm | kit_is | k_is | decide +kernel)
    (case kVR => first | kts_exm | kit_is | k_is | decide +kernel)
