import PyProof.Rows.All
import Wide.All
import OpenK.AllK
import Wide.FinOn
import HandS.ForMost
import HandS.ForExc
import HandS.Wide
import HandS.Star
import HandS.IsInst
import HandS.Style
import HandS.Flow
import PySem.Challenge.RW_wheelreach_k04_whole_great_numbers
set_option Elab.async false
set_option linter.all false
set_option maxRecDepth 100000
set_option maxHeartbeats 4000000
/-! A walk by weakest preconditions over a ledger: the environment by names, the heap as a list of known objects. -/
namespace G
open PySem PySem.Spec PyProof.Rows L2

/-! ### 1. Environment, ledger -/
abbrev En := List (Str × Option V)
abbrev Lg := List (Addr × HO)
def names (η : En) : List Str := η.map (·.1)
def vals (η : En) : L2.St := η.map (·.2)
def Has (H : Hp) (L : Lg) : Prop := (L.map (·.1)).Nodup ∧ ∀ e ∈ L, H e.1 = some e.2
inductive At (x : Str) (v : V) : En → Prop
  | here {η : En} : At x v ((x, some v) :: η)
  | there {e : Str × Option V} {η : En} : At x v η → At x v (e :: η)
inductive Put (x : Str) (v : V) : En → En → Prop
  | here {o : Option V} {η : En} : Put x v ((x, o) :: η) ((x, some v) :: η)
  | there {e : Str × Option V} {η θ : En} : Put x v η θ → Put x v (e :: η) (e :: θ)
theorem At.idx {x : Str} {v : V} {η : En} (h : At x v η) : ∃ i : Nat, (names η)[i]? = some x ∧ (vals η)[i]? = some (some v) := by
  induction h with
  | here => exact ⟨0, rfl, rfl⟩
  | there _ ih =>
    obtain ⟨i, a, b⟩ := ih
    exact ⟨i + 1, a, b⟩
theorem Put.idx {x : Str} {v : V} {η θ : En} (h : Put x v η θ) : ∃ i : Nat, (names η)[i]? = some x ∧ vals θ = (vals η).set i (some v) ∧ names θ = names η := by
  induction h with
  | here => exact ⟨0, rfl, rfl, rfl⟩
  | there _ ih =>
    obtain ⟨i, a, b, c⟩ := ih
    refine ⟨i + 1, a, ?_, ?_⟩
    · show _ :: vals _ = _ :: (vals _).set i (some v)
      rw [b] <;> rfl
    · show _ :: names _ = _ :: names _
      rw [c] <;> rfl

/-- the environment with x set, as a function of what is put -/
inductive PutF (x : Str) : En → (V → En) → Prop
  | here {o : Option V} {η : En} : PutF x ((x, o) :: η) (fun v => (x, some v) :: η)
  | there {e : Str × Option V} {η : En} {f : V → En} : PutF x η f → PutF x (e :: η) (fun v => e :: f v)
theorem PutF.idx {x : Str} {η : En} {f : V → En} (h : PutF x η f) : ∃ i : Nat, (names η)[i]? = some x ∧ ∀ v, vals (f v) = (vals η).set i (some v) ∧ names (f v) = names η := by
  induction h with
  | here => exact ⟨0, rfl, fun _ => ⟨rfl, rfl⟩⟩
  | there _ ih =>
    obtain ⟨i, a, b⟩ := ih
    refine ⟨i + 1, a, fun v => ⟨?_, ?_⟩⟩
    · show _ :: vals _ = _ :: (vals _).set i (some v)
      rw [(b v).1] <;> rfl
    · show _ :: names _ = _ :: names _
      rw [(b v).2] <;> rfl
theorem Has.nil {H : Hp} : Has H [] := ⟨List.nodup_nil, fun _ h => absurd h (by simp)⟩
theorem Has.get {H : Hp} {L : Lg} {a : Addr} {o : HO} (h : Has H L) (m : (a, o) ∈ L) : H a = some o := h.2 (a, o) m
theorem Has.new {H : Hp} {L : Lg} {p : Addr} {o : HO} (h : Has H L) (n : H p = none) : Has (upd H p o) ((p, o) :: L) := by
  have out : p ∉ L.map (·.1) := fun m => by
    obtain ⟨e, he, rfl⟩ := List.mem_map.mp m
    rw [h.2 e he] at n
    cases n
  refine ⟨List.nodup_cons.mpr ⟨out, h.1⟩, fun e m => ?_⟩
  rcases List.mem_cons.mp m with rfl | m
  · exact upd_same
  · have q : e.1 ≠ p := fun z => out (List.mem_map.mpr ⟨e, m, z⟩)
    rw [upd_ne q]
    exact h.2 e m
/-- one entry replaced by another of its address -/
inductive Swap (p : Addr) (o : HO) : Lg → Lg → Prop
  | here {u : HO} {L : Lg} : Swap p o ((p, u) :: L) ((p, o) :: L)
  | there {e : Addr × HO} {L M : Lg} : Swap p o L M → Swap p o (e :: L) (e :: M)
theorem Swap.fst {p : Addr} {o : HO} {L M : Lg} (s : Swap p o L M) : M.map (·.1) = L.map (·.1) ∧ p ∈ L.map (·.1) := by
  induction s with
  | here => exact ⟨rfl, List.mem_cons_self⟩
  | there _ ih => exact ⟨by rw [List.map_cons, List.map_cons, ih.1], List.mem_cons_of_mem _ ih.2⟩
theorem Swap.mem {p : Addr} {o : HO} {L M : Lg} (s : Swap p o L M) (nd : (L.map (·.1)).Nodup) : ∀ e ∈ M, e = (p, o) ∨ (e ∈ L ∧ e.1 ≠ p) := by
  induction s with
  | here =>
    intro e m
    rcases List.mem_cons.mp m with rfl | m
    · exact .inl rfl
    · have n := (List.nodup_cons.mp nd).1
      exact .inr ⟨List.mem_cons_of_mem _ m, fun z => n (List.mem_map.mpr ⟨e, m, z⟩)⟩
  | there s ih =>
    intro e m
    have n := List.nodup_cons.mp nd
    rcases List.mem_cons.mp m with rfl | m
    · exact .inr ⟨List.mem_cons_self, fun z => n.1 (by have q := s.fst.2; rw [← z] at q; exact q)⟩
    · rcases ih n.2 e m with q | ⟨q, r⟩
      · exact .inl q
      · exact .inr ⟨List.mem_cons_of_mem _ q, r⟩
theorem Has.swap {H : Hp} {L M : Lg} {p : Addr} {o : HO} (h : Has H L) (s : Swap p o L M) : Has (upd H p o) M := by
  refine ⟨by rw [s.fst.1]; exact h.1, fun e m => ?_⟩
  rcases s.mem h.1 e m with rfl | ⟨q, r⟩
  · exact upd_same
  · rw [upd_ne r]
    exact h.2 e q
/-- M is told by L -/
def Sub (M L : Lg) : Prop := ∀ H, Has H L → Has H M
theorem Sub.refl {L : Lg} : Sub L L := fun _ h => h
theorem Sub.trans {L M N : Lg} (a : Sub N M) (b : Sub M L) : Sub N L := fun H h => a H (b H h)
theorem Sub.drop {L : Lg} {e : Addr × HO} : Sub L (e :: L) := fun _ h => ⟨(List.nodup_cons.mp h.1).2, fun u m => h.2 u (List.mem_cons_of_mem _ m)⟩
theorem Sub.cons {L M : Lg} {e : Addr × HO} (s : Sub M L) (f : ∀ a ∈ M.map (·.1), a ∈ L.map (·.1)) : Sub (e :: M) (e :: L) := fun H h => by
  have k := s H (Sub.drop H h)
  refine ⟨List.nodup_cons.mpr ⟨fun m => (List.nodup_cons.mp h.1).1 (f _ m), k.1⟩, fun u m => ?_⟩
  rcases List.mem_cons.mp m with rfl | m
  · exact h.2 _ List.mem_cons_self
  · exact k.2 u m
theorem Sub.perm {L M : Lg} (p : M.Perm L) : Sub M L := fun _ h => ⟨(p.map _).nodup_iff.mpr h.1, fun e m => h.2 e (p.mem_iff.mp m)⟩
theorem Sub.sublist {L M : Lg} (p : M.Sublist L) : Sub M L := fun _ h => ⟨(p.map _).nodup h.1, fun e m => h.2 e (p.subset m)⟩

/-! ### 2. What is wanted, over ledgers -/
abbrev QV := V → Lg → Prop
def up (Q : QV) : VK := fun v H => ∃ L, Has H L ∧ Q v L
def upB (Q : Bool → Lg → Prop) : Bool → Hp → Prop := fun b H => ∃ L, Has H L ∧ Q b L
def upA (Q : List V → Lg → Prop) : List V → Hp → Prop := fun vs H => ∃ L, Has H L ∧ Q vs L
def WE (X : Cx) (e : Expr) : TE := fun σ H Q => ∀ pins s, Inv X pins σ H s → wpAny (model X.prog X.w) X.A (eval e X.env) (EP X pins σ Q) X.xe s
def WT (X : Cx) (e : Expr) : TT := fun σ H Q => ∀ pins s, Inv X pins σ H s → wpAny (model X.prog X.w) X.A (isTrue e X.env (eval e X.env)) (TP X pins σ Q) X.xe s
def WW (X : Cx) (e : Expr) : TT := fun σ H Q => ∀ whole pins s, Inv X pins σ H s → wpAny (model X.prog X.w) X.A (isTrue e X.env whole) (TP X pins σ Q) X.xe s
def WA (X : Cx) (es : List Expr) : TA := fun σ H Q => ∀ pos pins s, Inv X pins σ H s → wpAny (model X.prog X.w) X.A (spliced (backTo pos (starEach es X.env))) (AP X pins σ Q) X.xe s
def WS (X : Cx) (st : Stmt) : TS := fun D σ H => ∀ pins s, Inv X pins σ H s → wpAny (model X.prog X.w) X.A (exec st X.env) (SP X pins D) X.xe s
def WSs (X : Cx) (st : List Stmt) : TS := fun D σ H => ∀ pins s, Inv X pins σ H s → wpAny (model X.prog X.w) X.A (execs st X.env) (SP X pins D) X.xe s
def WG (X : Cx) (tg : Expr) : TG := fun v σ H Q => ∀ pins s u, Inv X pins σ H s → RelV v u → wpAny (model X.prog X.w) X.A (assign tg X.env u) (fun _ s' => ∃ σ' H', Inv X pins σ' H' s' ∧ Q σ' H') X.xe s
def WGs (X : Cx) (ts : List Expr) : TGs := fun vs σ H Q => ∀ pins s us, Inv X pins σ H s → Vals vs us → wpAny (model X.prog X.w) X.A (assignInOrder ((assignEach ts X.env).map (·.2)) us) (fun _ s' => ∃ σ' H', Inv X pins σ' H' s' ∧ Q σ' H') X.xe s
section
variable {X : Cx} {e : Expr} {σ : L2.St} {H : Hp}
theorem pe_W : PE X e (WE X e) := ⟨fun pins s _ _ _ I h => h pins s I⟩
theorem pt_W : PT X e (WT X e) := ⟨fun pins s _ _ _ I h => h pins s I⟩
theorem pw_W : PW X e (WW X e) := ⟨fun u pins s _ _ _ I h => h u pins s I⟩
theorem pa_W {es : List Expr} : PA X es (WA X es) := ⟨fun pos pins s _ _ _ I h => h pos pins s I⟩
theorem ps_W {st : Stmt} : PS X st (WS X st) := ⟨fun pins s _ _ _ I h => h pins s I⟩
theorem pss_W {st : List Stmt} : PSs X st (WSs X st) := ⟨fun pins s _ _ _ I h => h pins s I⟩
theorem pg_W : PG X e (WG X e) := ⟨fun pins s _ _ _ u _ I r h => h pins s u I r⟩
theorem pgs_W {es : List Expr} : PGs X es (WGs X es) := ⟨fun pins s _ _ _ us _ I r h => h pins s us I r⟩
theorem WE.of {t : TE} {Q : VK} (h : PE X e t) (q : t σ H Q) : WE X e σ H Q := fun pins s I => h.run pins s σ H Q I q
theorem WT.of {t : TT} {Q : Bool → Hp → Prop} (h : PT X e t) (q : t σ H Q) : WT X e σ H Q := fun pins s I => h.run pins s σ H Q I q
theorem WW.of {t : TT} {Q : Bool → Hp → Prop} (h : PW X e t) (q : t σ H Q) : WW X e σ H Q := fun u pins s I => h.run u pins s σ H Q I q
theorem WA.of {es : List Expr} {t : TA} {Q : List V → Hp → Prop} (h : PA X es t) (q : t σ H Q) : WA X es σ H Q := fun pos pins s I => h.run pos pins s σ H Q I q
theorem WS.of {st : Stmt} {t : TS} {D : Ends} (h : PS X st t) (q : t D σ H) : WS X st D σ H := fun pins s I => h.run pins s σ H D I q
theorem WSs.of {st : List Stmt} {t : TS} {D : Ends} (h : PSs X st t) (q : t D σ H) : WSs X st D σ H := fun pins s I => h.run pins s σ H D I q
theorem WG.of {t : TG} {v : V} {Q : L2.St → Hp → Prop} (h : PG X e t) (q : t v σ H Q) : WG X e v σ H Q := fun pins s u I r => h.run pins s σ H v u Q I r q
theorem WGs.of {es : List Expr} {t : TGs} {vs : List V} {Q : L2.St → Hp → Prop} (h : PGs X es t) (q : t vs σ H Q) : WGs X es vs σ H Q := fun pins s us I r => h.run pins s σ H vs us Q I r q
theorem WE.mono {Q Q' : VK} (h : WE X e σ H Q) (m : ∀ v H', Q v H' → Q' v H') : WE X e σ H Q' := fun pins s I =>
  thn (h pins s I) fun _ _ ⟨v, H', J, r, q⟩ => ⟨v, H', J, r, m v H' q⟩
theorem WT.mono {Q Q' : Bool → Hp → Prop} (h : WT X e σ H Q) (m : ∀ v H', Q v H' → Q' v H') : WT X e σ H Q' := fun pins s I =>
  thn (h pins s I) fun _ _ ⟨H', J, q⟩ => ⟨H', J, m _ H' q⟩
theorem WW.mono {Q Q' : Bool → Hp → Prop} (h : WW X e σ H Q) (m : ∀ v H', Q v H' → Q' v H') : WW X e σ H Q' := fun u pins s I =>
  thn (h u pins s I) fun _ _ ⟨H', J, q⟩ => ⟨H', J, m _ H' q⟩
theorem WA.mono {es : List Expr} {Q Q' : List V → Hp → Prop} (h : WA X es σ H Q) (m : ∀ v H', Q v H' → Q' v H') : WA X es σ H Q' := fun pos pins s I =>
  thn (h pos pins s I) fun _ _ ⟨v, H', J, r, q⟩ => ⟨v, H', J, r, m v H' q⟩
theorem WG.mono {v : V} {Q Q' : L2.St → Hp → Prop} (h : WG X e v σ H Q) (m : ∀ v H', Q v H' → Q' v H') : WG X e v σ H Q' := fun pins s u I r =>
  thn (h pins s u I r) fun _ _ ⟨v, H', J, q⟩ => ⟨v, H', J, m v H' q⟩
theorem WGs.mono {es : List Expr} {vs : List V} {Q Q' : L2.St → Hp → Prop} (h : WGs X es vs σ H Q) (m : ∀ v H', Q v H' → Q' v H') : WGs X es vs σ H Q' := fun pins s u I r =>
  thn (h pins s u I r) fun _ _ ⟨v, H', J, q⟩ => ⟨v, H', J, m v H' q⟩
end

/-! ### 3. The judgements -/
def GE (X : Cx) (e : Expr) (η : En) (L : Lg) (Q : QV) : Prop := X.N = names η → ∀ H, Has H L → WE X e (vals η) H (up Q)
def GT (X : Cx) (e : Expr) (η : En) (L : Lg) (Q : Bool → Lg → Prop) : Prop := X.N = names η → ∀ H, Has H L → WT X e (vals η) H (upB Q)
def GW (X : Cx) (e : Expr) (η : En) (L : Lg) (Q : Bool → Lg → Prop) : Prop := X.N = names η → ∀ H, Has H L → WW X e (vals η) H (upB Q)
def GA (X : Cx) (es : List Expr) (η : En) (L : Lg) (Q : List V → Lg → Prop) : Prop := X.N = names η → ∀ H, Has H L → WA X es (vals η) H (upA Q)
/-- what is wanted behind a statement -/
structure GD where
  nx : En → Lg → Prop
  rt : QV
  bk : En → Lg → Prop
  ct : En → Lg → Prop
def upS (X : Cx) (Q : En → Lg → Prop) : L2.St → Hp → Prop := fun σ H => ∃ η L, X.N = names η ∧ σ = vals η ∧ Has H L ∧ Q η L
def GD.ends (X : Cx) (D : GD) : Ends := { nx := upS X D.nx, rt := up D.rt, bk := upS X D.bk, ct := upS X D.ct }
def GS (X : Cx) (st : Stmt) (D : GD) (η : En) (L : Lg) : Prop := X.N = names η → ∀ H, Has H L → WS X st (D.ends X) (vals η) H
def GSs (X : Cx) (st : List Stmt) (D : GD) (η : En) (L : Lg) : Prop := X.N = names η → ∀ H, Has H L → WSs X st (D.ends X) (vals η) H
def GG (X : Cx) (tg : Expr) (v : V) (η : En) (L : Lg) (Q : En → Lg → Prop) : Prop := X.N = names η → ∀ H, Has H L → WG X tg v (vals η) H (upS X Q)
def GGs (X : Cx) (ts : List Expr) (vs : List V) (η : En) (L : Lg) (Q : En → Lg → Prop) : Prop := X.N = names η → ∀ H, Has H L → WGs X ts vs (vals η) H (upS X Q)
/-- an operator, a call, a subscript by values -/
def GOp (X : Cx) (f : Value → Value → Sem Value) (x y : V) (L : Lg) (Q : QV) : Prop := ∀ pins s σ H v u, Has H L → Inv X pins σ H s → RelV x v → RelV y u → wpAny (model X.prog X.w) X.A (f v u) (EP X pins σ (up Q)) X.xe s
def GUn (X : Cx) (f : Value → Sem Value) (x : V) (L : Lg) (Q : QV) : Prop := ∀ pins s σ H v, Has H L → Inv X pins σ H s → RelV x v → wpAny (model X.prog X.w) X.A (f v) (EP X pins σ (up Q)) X.xe s
def GC (X : Cx) (f : Value) (xs : List V) (L : Lg) (Q : QV) : Prop := ∀ pins s σ H us, Has H L → Inv X pins σ H s → Vals xs us → wpAny (model X.prog X.w) X.A (call f us) (EP X pins σ (up Q)) X.xe s
section
variable {X : Cx} {L : Lg} {Q : QV} {x y : V}
theorem GOp.of {f : Value → Value → Sem Value} {r : R2} (h : OpR X f r) (q : ∀ H, Has H L → r x y H (up Q)) : GOp X f x y L Q := fun pins s σ H v u hH I rv ru => h pins s σ H x y v u _ I rv ru (q H hH)
theorem GUn.of {f : Value → Sem Value} {r : V → Hp → VK → Prop} (h : UnR X f r) (q : ∀ H, Has H L → r x H (up Q)) : GUn X f x L Q := fun pins s σ H v hH I rv => h pins s σ H x v _ I rv (q H hH)
theorem GC.of {f : Value} {xs : List V} {r : List V → Hp → VK → Prop} (h : CallR X f r) (q : ∀ H, Has H L → r xs H (up Q)) : GC X f xs L Q := fun pins s σ H us hH I rv => h pins s σ H xs us _ I rv (q H hH)
end

/-! ### 4. Expressions -/
section
variable {X : Cx} {η : En} {L : Lg} {Q : QV} {a b c e : Expr} {pos : Pos}
theorem ge_var {x : Str} {v : V} (h : At x v η) (q : Q v L) (hv : Vis X.env.scope x := by first | exact Or.inl rfl | exact Or.inr (Or.inl rfl) | exact Or.inr (Or.inr rfl))
    (hd : (x == ("__debug__" : Str)) = false := by decide) (hcd : (x == ("__classdict__" : Str)) = false := by decide) : GE X (.Name x pos) η L Q := fun hN H hH => by
  obtain ⟨i, h1, h2⟩ := h.idx
  exact WE.of (pe_var (i := i) (by rw [hN]; exact h1) hv hd hcd) ⟨v, h2, L, hH, q⟩
theorem ge_con {v : V} (p : PE X e (tC v)) (q : Q v L) : GE X e η L Q := fun _ H hH => WE.of p ⟨L, hH, q⟩
theorem ge_int {i : Int} {j} (q : Q (.int i) L) : GE X (.Constant (.int i) j pos) η L Q := ge_con pe_int q
theorem ge_bl {i : Bool} {j} (q : Q (.bl i) L) : GE X (.Constant (.bool i) j pos) η L Q := ge_con pe_bl q
theorem ge_non {j} (q : Q .non L) : GE X (.Constant .none j pos) η L Q := ge_con pe_non q
theorem ge_str {x : Str} {j} (q : Q (.str x) L) : GE X (.Constant (.str x) j pos) η L Q := ge_con pe_str q
/-- what is known may be cut -/
theorem GE.sub {M : Lg} (s : Sub M L) (h : GE X e η M Q) : GE X e η L Q := fun hN H hH => h hN H (s H hH)
theorem GE.imp {Q' : QV} (h : GE X e η L Q) (m : ∀ v L', Q v L' → Q' v L') : GE X e η L Q' := fun hN H hH => (h hN H hH).mono fun v _ ⟨L', h', q⟩ => ⟨L', h', m v L' q⟩
theorem GA.imp {es : List Expr} {Q Q' : List V → Lg → Prop} (h : GA X es η L Q) (m : ∀ v L', Q v L' → Q' v L') : GA X es η L Q' := fun hN H hH => (h hN H hH).mono fun v _ ⟨L', h', q⟩ => ⟨L', h', m v L' q⟩
theorem GT.imp {Q Q' : Bool → Lg → Prop} (h : GT X e η L Q) (m : ∀ v L', Q v L' → Q' v L') : GT X e η L Q' := fun hN H hH => (h hN H hH).mono fun v _ ⟨L', h', q⟩ => ⟨L', h', m v L' q⟩
/-- then -/
theorem GE.then {Q' : VK} (h : GE X a η L Q) (hN : X.N = names η) {H : Hp} (hH : Has H L) (m : ∀ v L1 H1, Has H1 L1 → Q v L1 → Q' v H1) : WE X a (vals η) H Q' := (h hN H hH).mono fun v H1 ⟨L1, h1, q1⟩ => m v L1 H1 h1 q1
theorem GA.then {es : List Expr} {Q : List V → Lg → Prop} {Q' : List V → Hp → Prop} (h : GA X es η L Q) (hN : X.N = names η) {H : Hp} (hH : Has H L) (m : ∀ v L1 H1, Has H1 L1 → Q v L1 → Q' v H1) : WA X es (vals η) H Q' := (h hN H hH).mono fun v H1 ⟨L1, h1, q1⟩ => m v L1 H1 h1 q1
theorem GT.then {Q : Bool → Lg → Prop} {Q' : Bool → Hp → Prop} (h : GT X a η L Q) (hN : X.N = names η) {H : Hp} (hH : Has H L) (m : ∀ v L1 H1, Has H1 L1 → Q v L1 → Q' v H1) : WT X a (vals η) H Q' := (h hN H hH).mono fun v H1 ⟨L1, h1, q1⟩ => m v L1 H1 h1 q1
theorem GW.then {Q : Bool → Lg → Prop} {Q' : Bool → Hp → Prop} (h : GW X a η L Q) (hN : X.N = names η) {H : Hp} (hH : Has H L) (m : ∀ v L1 H1, Has H1 L1 → Q v L1 → Q' v H1) : WW X a (vals η) H Q' := (h hN H hH).mono fun v H1 ⟨L1, h1, q1⟩ => m v L1 H1 h1 q1

theorem ge_bin {op : Operator} (h : GE X a η L fun x L1 => GE X b η L1 fun y L2 => GOp X (binaryOp op) x y L2 Q) : GE X (.BinOp a op b pos) η L Q := fun hN H hH =>
  WE.of (pe_op (r := fun x y H' Q' => ∀ pins s σ v u, Inv X pins σ H' s → RelV x v → RelV y u → wpAny (model X.prog X.w) X.A (binaryOp op v u) (EP X pins σ Q') X.xe s)
    (fun pins s σ H' x y v u Q' I r1 r2 q => q pins s σ v u I r1 r2) pe_W pe_W)
    (h.then hN hH fun _ _ _ h1 q1 => q1.then hN h1 fun _ _ _ h2 q2 => fun pins s σ v u I r1 r2 => q2 pins s σ _ v u h2 I r1 r2)
theorem ge_un {op : UnaryOp} (h : GE X a η L fun x L1 => GUn X (unaryOp op) x L1 Q) : GE X (.UnaryOp op a pos) η L Q := fun hN H hH =>
  WE.of (pe_un (r := fun x H' Q' => ∀ pins s σ v, Inv X pins σ H' s → RelV x v → wpAny (model X.prog X.w) X.A (unaryOp op v) (EP X pins σ Q') X.xe s)
    (fun pins s σ H' x v Q' I r1 q => q pins s σ v I r1) pe_W)
    (h.then hN hH fun _ _ _ h1 q1 => fun pins s σ v I r1 => q1 pins s σ _ v h1 I r1)
theorem ge_cmp {op : CmpOp} (h : GE X a η L fun x L1 => GE X b η L1 fun y L2 => GOp X (compareOp op) x y L2 Q) (hm : behindInMarks op b = false := by rfl) : GE X (.Compare a [op] [b] pos) η L Q := fun hN H hH =>
  WE.of (pe_cmpR (r := fun x y H' Q' => ∀ pins s σ v u, Inv X pins σ H' s → RelV x v → RelV y u → wpAny (model X.prog X.w) X.A (compareOp op v u) (EP X pins σ Q') X.xe s)
    (fun pins s σ H' x y v u Q' I r1 r2 q => q pins s σ v u I r1 r2) pe_W pe_W hm)
    (h.then hN hH fun _ _ _ h1 q1 => q1.then hN h1 fun _ _ _ h2 q2 => fun pins s σ v u I r1 r2 => q2 pins s σ _ v u h2 I r1 r2)
theorem ge_one {op : BoolOp} (h : GE X a η L Q) : GE X (.BoolOp op [a] pos) η L Q := fun hN H hH => WE.of (pe_one pe_W) (h hN H hH)
theorem ge_and {rest : List Expr} (h : GE X a η L fun x L1 => ∃ k, x = .bl k ∧ if k = true then GE X (.BoolOp .And (b :: rest) pos) η L1 Q else Q (.bl false) L1) : GE X (.BoolOp .And (a :: b :: rest) pos) η L Q := fun hN H hH =>
  WE.of (pe_and pe_W pe_W) (h.then hN hH fun x L1 H1 h1 ⟨k, e1, q1⟩ => ⟨k, e1, by
    cases k with
    | true => exact q1 hN H1 h1
    | false => exact ⟨L1, h1, q1⟩⟩)
theorem ge_or {rest : List Expr} (h : GE X a η L fun x L1 => ∃ k, x = .bl k ∧ if k = true then Q (.bl true) L1 else GE X (.BoolOp .Or (b :: rest) pos) η L1 Q) : GE X (.BoolOp .Or (a :: b :: rest) pos) η L Q := fun hN H hH =>
  WE.of (pe_or pe_W pe_W) (h.then hN hH fun x L1 H1 h1 ⟨k, e1, q1⟩ => ⟨k, e1, by
    cases k with
    | true => exact ⟨L1, h1, q1⟩
    | false => exact q1 hN H1 h1⟩)
theorem ge_not (h : GE X a η L fun x L1 => ∃ k, x = .bl k ∧ Q (.bl (!k)) L1) : GE X (.UnaryOp .Not a pos) η L Q := fun hN H hH =>
  WE.of (pe_not pe_W) (h.then hN hH fun x L1 H1 h1 ⟨k, e1, q1⟩ => ⟨k, e1, L1, h1, q1⟩)
theorem ge_if (h : GT X c η L fun k L1 => if k = true then GE X a η L1 Q else GE X b η L1 Q) : GE X (.IfExp c a b pos) η L Q := fun hN H hH =>
  WE.of (pe_ifExp pt_W pe_W pe_W) (h.then hN hH fun k L1 H1 h1 q1 => by
    cases k with
    | true => exact q1 hN H1 h1
    | false => exact q1 hN H1 h1)
theorem ga_nil {Q : List V → Lg → Prop} (q : Q [] L) : GA X [] η L Q := fun _ H hH => WA.of pa_nil ⟨L, hH, q⟩
theorem ga_cons {es : List Expr} {Q : List V → Lg → Prop} (h : GE X e η L fun x L1 => GA X es η L1 fun xs L2 => Q (x :: xs) L2) (hs : starEach (e :: es) X.env = (false, eval e X.env) :: starEach es X.env := by rfl) : GA X (e :: es) η L Q := fun hN H hH =>
  WA.of (pa_cons pe_W pa_W hs) (h.then hN hH fun _ _ _ h1 q1 => q1.then hN h1 fun _ L2 _ h2 q2 => ⟨L2, h2, q2⟩)
theorem ge_tup {es : List Expr} {x1} (h : GA X es η L fun xs L1 => xs.length ≤ sizeLine ∧ ∀ p, Q (.ref p) ((p, .tup xs) :: L1)) : GE X (.Tuple es x1 pos) η L Q := fun hN H hH =>
  WE.of (pe_tup pa_W) (h.then hN hH fun xs L1 H1 h1 ⟨z, q1⟩ => ⟨z, fun p hp => ⟨_, h1.new hp, q1 p⟩⟩)
theorem ge_lst {es : List Expr} (h : GA X es η L fun xs L1 => xs.length ≤ sizeLine ∧ ∀ p, Q (.ref p) ((p, .lst xs) :: L1)) : GE X (.List es pos) η L Q := fun hN H hH =>
  WE.of (pe_lst pa_W) (h.then hN hH fun xs L1 H1 h1 ⟨z, q1⟩ => ⟨z, fun p hp => ⟨_, h1.new hp, q1 p⟩⟩)
/-- a subscript by values -/
def GIx (X : Cx) (x y : V) (L : Lg) (Q : QV) : Prop := ∀ (value slice : Expr) pins s σ H v u, Has H L → Inv X pins σ H s → RelV x v → RelV y u → subscripted slice false v u = operate [v, u] (getItem v u) → wpAny (model X.prog X.w) X.A (subscriptTail value slice v u) (EP X pins σ (up Q)) X.xe s
theorem GIx.of {x y : V} {r : R2} (h : IxR X r) (q : ∀ H, Has H L → r x y H (up Q)) : GIx X x y L Q := fun value slice pins s σ H v u hH I rv ru hs => h value slice pins s σ H x y v u _ I rv ru (q H hH) hs
theorem ge_ix (h : GE X a η L fun x L1 => GE X b η L1 fun y L2 => GIx X x y L2 Q) (hs : PlainIx b := by exact fun _ _ => rfl) : GE X (.Subscript a b pos) η L Q := fun hN H hH =>
  WE.of (pe_ix (r := fun x y H' Q' => ∀ (value slice : Expr) pins s σ v u, Inv X pins σ H' s → RelV x v → RelV y u → subscripted slice false v u = operate [v, u] (getItem v u) → wpAny (model X.prog X.w) X.A (subscriptTail value slice v u) (EP X pins σ Q') X.xe s)
    (fun value slice pins s σ H' x y v u Q' I r1 r2 q z => q value slice pins s σ v u I r1 r2 z) pe_W pe_W hs)
    (h.then hN hH fun _ _ _ h1 q1 => q1.then hN h1 fun _ _ _ h2 q2 => fun value slice pins s σ v u I r1 r2 z => q2 value slice pins s σ _ v u h2 I r1 r2 z)
end

/-! ### 5. Tests -/
section
variable {X : Cx} {η : En} {L : Lg} {Q : Bool → Lg → Prop} {a b c e : Expr} {pos : Pos}
theorem gt_cmp {op : CmpOp} (h : GE X a η L fun x L1 => GE X b η L1 fun y L2 => GOp X (compareOp op) x y L2 fun z L3 => ∃ k, z = .bl k ∧ Q k L3) (hm : behindInMarks op b = false := by rfl) : GT X (.Compare a [op] [b] pos) η L Q := fun hN H hH =>
  WT.of (pt_cmpR (r := fun x y H' Q' => ∀ pins s σ v u, Inv X pins σ H' s → RelV x v → RelV y u → wpAny (model X.prog X.w) X.A (compareOp op v u) (EP X pins σ Q') X.xe s)
    (fun pins s σ H' x y v u Q' I r1 r2 q => q pins s σ v u I r1 r2) pe_W pe_W hm)
    (h.then hN hH fun _ _ _ h1 q1 => q1.then hN h1 fun _ _ _ h2 q2 => fun pins s σ v u I r1 r2 =>
      thn (q2 pins s σ _ v u h2 I r1 r2) fun _ _ ⟨z, H3, J, r3, L3, h3, k, ek, q3⟩ => ⟨z, H3, J, r3, k, ek, L3, h3, q3⟩)
theorem gt_val (h : GE X a η L fun x L1 => ∃ k, x = .bl k ∧ Q k L1) (he : ∀ whole, isTrue a X.env whole = (do let v ← whole; standAt a.pos; holding [v] (truthy v)) := by intro _; rfl) : GT X a η L Q := fun hN H hH =>
  WT.of (pt_val pe_W he) (h.then hN hH fun _ L1 _ h1 ⟨k, e1, q1⟩ => ⟨k, e1, L1, h1, q1⟩)
theorem gt_tru (h : GE X a η L fun x L1 => ∃ k, (∀ H, Has H L1 → TruV X.K x H k) ∧ Q k L1) (he : ∀ whole, isTrue a X.env whole = (do let v ← whole; standAt a.pos; holding [v] (truthy v)) := by intro _; rfl) : GT X a η L Q := fun hN H hH =>
  WT.of (pt_truth pe_W he) (h.then hN hH fun _ L1 H1 h1 ⟨k, e1, q1⟩ => ⟨k, e1 H1 h1, L1, h1, q1⟩)
theorem gt_w {op : BoolOp} {es : List Expr} (h : GW X (.BoolOp op es pos) η L Q) : GT X (.BoolOp op es pos) η L Q := fun hN H hH => WT.of pw_W.pt (h hN H hH)
theorem gw_and1 (h : GT X a η L Q) : GW X (.BoolOp .And [a] pos) η L Q := fun hN H hH => WW.of (pw_and1 pt_W) (h hN H hH)
theorem gw_or1 (h : GT X a η L Q) : GW X (.BoolOp .Or [a] pos) η L Q := fun hN H hH => WW.of (pw_or1 pt_W) (h hN H hH)
theorem gw_and {rest : List Expr} (h : GT X a η L fun k L1 => if k = true then GW X (.BoolOp .And (b :: rest) pos) η L1 Q else Q false L1) : GW X (.BoolOp .And (a :: b :: rest) pos) η L Q := fun hN H hH =>
  WW.of (pw_and pt_W pw_W) (h.then hN hH fun k L1 H1 h1 q1 => by
    cases k with
    | true => exact q1 hN H1 h1
    | false => exact ⟨L1, h1, q1⟩)
theorem gw_or {rest : List Expr} (h : GT X a η L fun k L1 => if k = true then Q true L1 else GW X (.BoolOp .Or (b :: rest) pos) η L1 Q) : GW X (.BoolOp .Or (a :: b :: rest) pos) η L Q := fun hN H hH =>
  WW.of (pw_or pt_W pw_W) (h.then hN hH fun k L1 H1 h1 q1 => by
    cases k with
    | true => exact ⟨L1, h1, q1⟩
    | false => exact q1 hN H1 h1)
theorem gt_not (h : GT X a η L fun k L1 => Q (!k) L1) : GT X (.UnaryOp .Not a pos) η L Q := fun hN H hH =>
  WT.of (pt_not pt_W) (h.then hN hH fun k L1 H1 h1 q1 => ⟨L1, h1, q1⟩)
end

/-! ### 6. Operators and built-ins by values -/
theorem mem0 {α : Type} {a : α} {l : List α} : a ∈ a :: l := List.mem_cons_self
theorem memS {α : Type} {a b : α} {l : List α} (h : a ∈ l) : a ∈ b :: l := List.mem_cons_of_mem _ h
theorem sql {K : PySem.W.Frag} {H : Hp} {L : Lg} {p : Addr} {xs : List V} (h : Has H L) (m : (p, HO.lst xs) ∈ L) : SqL K H p xs := SqL.of (h.get m)
theorem sqt {K : PySem.W.Frag} {H : Hp} {L : Lg} {p : Addr} {xs : List V} (h : Has H L) (m : (p, HO.tup xs) ∈ L) : SqT K H p xs := SqT.of (h.get m)
section
variable {X : Cx} {L : Lg} {Q : QV} {x y : V} {i j : Int} {p q : Addr} {xs ys : List V} {v : V}
theorem go_add (h : Q (.int (i + j)) L) : GOp X (binaryOp .Add) (.int i) (.int j) L Q := GOp.of op_add fun H hH => ⟨i, j, rfl, rfl, L, hH, h⟩
theorem go_sub (h : Q (.int (i - j)) L) : GOp X (binaryOp .Sub) (.int i) (.int j) L Q := GOp.of op_sub fun H hH => ⟨i, j, rfl, rfl, L, hH, h⟩
theorem go_mul (c : CMulW i j) (h : Q (.int (i * j)) L) : GOp X (binaryOp .Mult) (.int i) (.int j) L Q := GOp.of op_mulW fun H hH => ⟨i, j, rfl, rfl, c, L, hH, h⟩
theorem go_mulS (c : (-(2 ^ 64) < i ∧ i < 2 ^ 64) ∨ (-(2 ^ 64) < j ∧ j < 2 ^ 64)) (h : Q (.int (i * j)) L) : GOp X (binaryOp .Mult) (.int i) (.int j) L Q := GOp.of op_mul fun H hH => ⟨i, j, rfl, rfl, c, L, hH, h⟩
theorem go_mod (c : 0 < j) (h : Q (.int (i % j)) L) : GOp X (binaryOp .Mod) (.int i) (.int j) L Q := GOp.of op_modN fun H hH => ⟨i, j, rfl, rfl, by omega, L, hH, by
  show Q (.int (i.fmod j)) L
  rw [Int.fmod_eq_emod_of_nonneg i (by omega)]
  exact h⟩
theorem go_div (c : 0 < j) (d : j.natAbs < 2 ^ 9000) (h : Q (.int (i / j)) L) : GOp X (binaryOp .FloorDiv) (.int i) (.int j) L Q := GOp.of op_fdivW fun H hH => ⟨i, j, rfl, rfl, wide_div c d (by decide) (by decide), L, hH, h⟩
theorem go_pow (c : CPow i j) (h : Q (.int (i ^ j.toNat)) L) : GOp X (binaryOp .Pow) (.int i) (.int j) L Q := GOp.of op_pow fun H hH => ⟨i, j, rfl, rfl, c, L, hH, h⟩
theorem go_lt (h : Q (.bl (decide (i < j))) L) : GOp X (compareOp .Lt) (.int i) (.int j) L Q := GOp.of op_lt fun H hH => ⟨i, j, rfl, rfl, L, hH, h⟩
theorem go_le (h : Q (.bl (decide (i ≤ j))) L) : GOp X (compareOp .LtE) (.int i) (.int j) L Q := GOp.of op_le fun H hH => ⟨i, j, rfl, rfl, L, hH, h⟩
theorem go_gt (h : Q (.bl (decide (j < i))) L) : GOp X (compareOp .Gt) (.int i) (.int j) L Q := GOp.of op_gt fun H hH => ⟨i, j, rfl, rfl, L, hH, h⟩
theorem go_ge (h : Q (.bl (decide (j ≤ i))) L) : GOp X (compareOp .GtE) (.int i) (.int j) L Q := GOp.of op_ge fun H hH => ⟨i, j, rfl, rfl, L, hH, h⟩
theorem dec_int : decide (V.int i = V.int j) = decide (i = j) := by
  by_cases e : i = j
  · rw [e, decide_eq_true rfl, decide_eq_true rfl]
  · rw [decide_eq_false e, decide_eq_false fun z => e (V.int.inj z)]
theorem go_eq (h : Q (.bl (decide (i = j))) L) : GOp X (compareOp .Eq) (.int i) (.int j) L Q := GOp.of op_eq fun H hH => ⟨rfl, L, hH, by rw [dec_int]; exact h⟩
theorem go_ne (h : Q (.bl (!decide (i = j))) L) : GOp X (compareOp .NotEq) (.int i) (.int j) L Q := GOp.of op_ne fun H hH => ⟨rfl, L, hH, by rw [dec_int]; exact h⟩
theorem go_eqV (s : scal x y = true) (h : Q (.bl (decide (x = y))) L) : GOp X (compareOp .Eq) x y L Q := GOp.of op_eq fun H hH => ⟨s, L, hH, h⟩
theorem go_neV (s : scal x y = true) (h : Q (.bl (!decide (x = y))) L) : GOp X (compareOp .NotEq) x y L Q := GOp.of op_ne fun H hH => ⟨s, L, hH, h⟩
theorem go_isN (h : Q (.bl (decide (x = .non))) L) : GOp X (compareOp .Is) x .non L Q := GOp.of op_isN fun H hH => ⟨rfl, L, hH, h⟩
theorem go_notN (h : Q (.bl (!decide (x = .non))) L) : GOp X (compareOp .IsNot) x .non L Q := GOp.of op_notN fun H hH => ⟨rfl, L, hH, h⟩
/-- data, told by the ledger -/
def Dl (L : Lg) (v : V) (d : PyData) : Prop := ∀ K H, Has H L → Dp K H v d
def Dls (L : Lg) (vs : List V) (ds : List PyData) : Prop := ∀ K H, Has H L → DpAll K H vs ds
theorem dl_non : Dl L .non .none := fun _ _ _ => .non
theorem dl_bl {b : Bool} : Dl L (.bl b) (.bool b) := fun _ _ _ => .bl b
theorem dl_int : Dl L (.int i) (.int i) := fun _ _ _ => .int i
theorem dl_str {z : Str} : Dl L (.str z) (.str z) := fun _ _ _ => .str z
theorem dl_lst {ds : List PyData} (m : (p, HO.lst xs) ∈ L) (h : Dls L xs ds) : Dl L (.ref p) (.list ds) := fun K H hH => .lst (sql hH m) (h K H hH)
theorem dl_tup {ds : List PyData} (m : (p, HO.tup xs) ∈ L) (h : Dls L xs ds) : Dl L (.ref p) (.tuple ds) := fun K H hH => .tup (sqt hH m) (h K H hH)
theorem dls_nil : Dls L [] [] := fun _ _ _ => .nil
theorem dls_cons {d : PyData} {ds : List PyData} (a : Dl L v d) (h : Dls L xs ds) : Dls L (v :: xs) (d :: ds) := fun K H hH => .cons (a K H hH) (h K H hH)
theorem dls_ints : ∀ {ns : List Int}, Dls L (ns.map V.int) (ns.map PyData.int)
  | [] => dls_nil
  | _ :: _ => dls_cons dl_int dls_ints
theorem go_eqD {k : Nat} {d e : PyData} (hr : Room k X.A) (a : Dl L x d) (b : Dl L y e) (s1 : SeqAt.shaped d = true) (s2 : SeqAt.shaped e = true) (h : Q (.bl (PyData.eqv d e)) L) : GOp X (compareOp .Eq) x y L Q := GOp.of (op_eqD hr.units) fun H hH => ⟨d, e, a _ H hH, b _ H hH, s1, s2, L, hH, h⟩
theorem go_neD {k : Nat} {d e : PyData} (hr : Room k X.A) (a : Dl L x d) (b : Dl L y e) (s1 : SeqAt.shaped d = true) (s2 : SeqAt.shaped e = true) (h : Q (.bl (!PyData.eqv d e)) L) : GOp X (compareOp .NotEq) x y L Q := GOp.of (op_neD hr.units) fun H hH => ⟨d, e, a _ H hH, b _ H hH, s1, s2, L, hH, h⟩
/-! subscripts -/
theorem gi_lst (m : (p, HO.lst xs) ∈ L) (e : atI xs i = some v) (h : Q v L) : GIx X (.ref p) (.int i) L Q := GIx.of ix_list fun H hH => ⟨p, xs, i, v, rfl, rfl, sql hH m, e, L, hH, h⟩
theorem gi_tup (m : (p, HO.tup xs) ∈ L) (e : atI xs i = some v) (h : Q v L) : GIx X (.ref p) (.int i) L Q := GIx.of ix_tup fun H hH => ⟨p, xs, i, v, rfl, rfl, sqt hH m, e, L, hH, h⟩
/-! built-ins -/
theorem gc_lenL (m : (p, HO.lst xs) ∈ L) (h : Q (.int (xs.length : Int)) L) : GC X (.builtin "len") [.ref p] L Q := GC.of call_len_seq fun H hH => ⟨p, xs, rfl, .inl (sql hH m), L, hH, h⟩
theorem gc_lenT (m : (p, HO.tup xs) ∈ L) (h : Q (.int (xs.length : Int)) L) : GC X (.builtin "len") [.ref p] L Q := GC.of call_len_seq fun H hH => ⟨p, xs, rfl, .inr (sqt hH m), L, hH, h⟩
theorem gc_int (h : Q (.int i) L) : GC X (.type "int") [.int i] L Q := GC.of call_int1 fun H hH => .inl ⟨i, rfl, L, hH, h⟩
theorem gc_intB {k : Bool} (h : Q (.int (if k then 1 else 0)) L) : GC X (.type "int") [.bl k] L Q := GC.of call_int1 fun H hH => .inr ⟨k, rfl, L, hH, h⟩
theorem gc_abs (h : Q (.int (i.natAbs : Int)) L) : GC X (.builtin "abs") [.int i] L Q := GC.of call_abs fun H hH => ⟨i, rfl, L, hH, by
  have e : (if i < 0 then -i else i) = (i.natAbs : Int) := by split <;> omega
  rw [e]
  exact h⟩
theorem gc_min2 (hc : X.calm = true) (h : Q (.int (if j < i then j else i)) L) : GC X (.builtin "min") [.int i, .int j] L Q := GC.of (call_min2 hc) fun H hH => ⟨i, j, rfl, L, hH, h⟩
theorem gc_list (m : (p, HO.lst xs) ∈ L) (h : ∀ q, Q (.ref q) ((q, .lst xs) :: L)) : GC X (.type "list") [.ref p] L Q := GC.of call_list_of fun H hH => ⟨p, xs, rfl, .inl (sql hH m), fun l hl => ⟨_, hH.new hl, h l⟩⟩
theorem gc_listT (m : (p, HO.tup xs) ∈ L) (h : ∀ q, Q (.ref q) ((q, .lst xs) :: L)) : GC X (.type "list") [.ref p] L Q := GC.of call_list_of fun H hH => ⟨p, xs, rfl, .inr (sqt hH m), fun l hl => ⟨_, hH.new hl, h l⟩⟩
/-- isinstance against a built-in class -/
theorem gc_isi {T c : String} {b : Bool} (ty : ∀ H, Has H L → TyX X.K H x (.type T)) (k : kitB T c = some b) (h : Q (.bl b) L) : GC X (.builtin "isinstance") [x, .ty c] L Q :=
  GC.of call_isi fun H hH => ⟨x, .ty c, .type T, .type c, b, rfl, .ty c, ty H hH, kit_ty k, L, hH, h⟩
end
/-! calls of built-ins by name -/
section
variable {X : Cx} {η : En} {L : Lg} {Q : QV} {e : Expr} {es : List Expr} {pos p : Pos} {x : Str}
theorem ge_B {id : String} (hm : X.mg x = none) (hv : bootBuiltins x = some (.builtin id)) (h : GA X (e :: es) η L fun xs L1 => GC X (.builtin id) xs L1 Q) (hg : Gl X x := by rfl) (hn : x ≠ "__name__" := by decide) (hdb : (x == ("__debug__" : Str)) = false := by decide)
    (he : starEach (e :: es) X.env = (false, eval e X.env) :: starEach es X.env := by rfl) (hpl : (backTo pos (starEach es X.env)).any (·.1) = false := by rfl) : GE X (.Call (.Name x p) (e :: es) [] pos) η L Q := fun hN H hH =>
  WE.of (pe_callB (r := fun xs H' Q' => ∀ pins s σ us, Inv X pins σ H' s → Vals xs us → wpAny (model X.prog X.w) X.A (call (.builtin id) us) (EP X pins σ Q') X.xe s)
    (fun pins s σ H' xs us Q' I r q => q pins s σ us I r) hg hm hv pa_W hn hdb he hpl)
    (h.then hN hH fun _ _ _ h1 q1 => fun pins s σ us I r => q1 pins s σ _ us h1 I r)
theorem ge_Y {T : String} (hm : X.mg x = none) (hv : bootBuiltins x = some (.type T)) (h : GA X (e :: es) η L fun xs L1 => GC X (.type T) xs L1 Q) (hg : Gl X x := by rfl) (hn : x ≠ "__name__" := by decide) (hdb : (x == ("__debug__" : Str)) = false := by decide)
    (he : starEach (e :: es) X.env = (false, eval e X.env) :: starEach es X.env := by rfl) (hpl : (backTo pos (starEach es X.env)).any (·.1) = false := by rfl) : GE X (.Call (.Name x p) (e :: es) [] pos) η L Q := fun hN H hH =>
  WE.of (pe_callTy (r := fun xs H' Q' => ∀ pins s σ us, Inv X pins σ H' s → Vals xs us → wpAny (model X.prog X.w) X.A (call (.type T) us) (EP X pins σ Q') X.xe s)
    (fun pins s σ H' xs us Q' I r q => q pins s σ us I r) hg hm hv pa_W hn hdb he hpl)
    (h.then hN hH fun _ _ _ h1 q1 => fun pins s σ us I r => q1 pins s σ _ us h1 I r)
/-- the name of a built-in class as a value -/
theorem ge_tyName {T : String} (hm : X.mg x = none) (hv : bootBuiltins x = some (.type T)) (q : Q (.ty T) L) (hg : Gl X x := by rfl) (hn : x ≠ "__name__" := by decide) (hdb : (x == ("__debug__" : Str)) = false := by decide) : GE X (.Name x pos) η L Q :=
  ge_con (pe_bltn (v := .ty T) hg hm hv rfl hn hdb) q
/-- the built-ins are no names of the module -/
structure Bi (mg : Str → Option Value) : Prop where
  len : mg "len" = none
  int : mg "int" = none
  abs : mg "abs" = none
  min : mg "min" = none
  max : mg "max" = none
  range : mg "range" = none
  isinstance : mg "isinstance" = none
  list : mg "list" = none
  tuple : mg "tuple" = none
  bool : mg "bool" = none
  str : mg "str" = none
  repr : mg "repr" = none
  sum : mg "sum" = none
  sorted : mg "sorted" = none
  any : mg "any" = none
  all : mg "all" = none
  enumerate : mg "enumerate" = none
  zip : mg "zip" = none
theorem bt_len : bootBuiltins "len" = some (.builtin "len") := by decide +kernel
theorem bt_abs : bootBuiltins "abs" = some (.builtin "abs") := by decide +kernel
theorem bt_min : bootBuiltins "min" = some (.builtin "min") := by decide +kernel
theorem bt_isinstance : bootBuiltins "isinstance" = some (.builtin "isinstance") := by decide +kernel
theorem bt_int : bootBuiltins "int" = some (.type "int") := by decide +kernel
theorem bt_bool : bootBuiltins "bool" = some (.type "bool") := by decide +kernel
theorem bt_list : bootBuiltins "list" = some (.type "list") := by decide +kernel
theorem bt_tuple : bootBuiltins "tuple" = some (.type "tuple") := by decide +kernel
theorem bt_str : bootBuiltins "str" = some (.type "str") := by decide +kernel
end

/-! ### 7. Targets, statements -/
section
variable {X : Cx} {η : En} {L : Lg} {e a b c tg : Expr} {pos : Pos} {st : Stmt} {rest body : List Stmt} {D : GD} {v : V}
theorem GG.then {Q : En → Lg → Prop} {Q' : L2.St → Hp → Prop} (h : GG X tg v η L Q) (hN : X.N = names η) {H : Hp} (hH : Has H L) (m : ∀ θ L1 H1, X.N = names θ → Has H1 L1 → Q θ L1 → Q' (vals θ) H1) : WG X tg v (vals η) H Q' := (h hN H hH).mono fun σ' H1 ⟨θ, L1, n1, es, h1, q1⟩ => by
  rw [es]
  exact m θ L1 H1 n1 h1 q1
theorem GGs.then {ts : List Expr} {vs : List V} {Q : En → Lg → Prop} {Q' : L2.St → Hp → Prop} (h : GGs X ts vs η L Q) (hN : X.N = names η) {H : Hp} (hH : Has H L) (m : ∀ θ L1 H1, X.N = names θ → Has H1 L1 → Q θ L1 → Q' (vals θ) H1) : WGs X ts vs (vals η) H Q' := (h hN H hH).mono fun σ' H1 ⟨θ, L1, n1, es, h1, q1⟩ => by
  rw [es]
  exact m θ L1 H1 n1 h1 q1
theorem gg_name {x : Str} {θ : En} {Q : En → Lg → Prop} (p : Put x v η θ) (q : Q θ L) (hn : X.N.Nodup := by assumption) (hx : Loc X.env.scope x := by first | exact Or.inl rfl | exact Or.inr rfl) (hf : X.fn x = true ∨ X.env.scope.names.lookup x = some .local := by first | exact .inl rfl | exact .inr rfl) : GG X (.Name x pos) v η L Q := fun hN H hH => by
  obtain ⟨i, h1, h2, h3⟩ := p.idx
  refine WG.of (pg_name (i := i) hn (by rw [hN]; exact h1) hx hf) ?_
  show upS X Q ((vals η).set i (some v)) H
  exact ⟨θ, L, by rw [h3]; exact hN, h2.symm, hH, q⟩
theorem ggs_nil {Q : En → Lg → Prop} (q : Q η L) : GGs X [] [] η L Q := fun hN H hH => WGs.of pgs_nil ⟨rfl, η, L, hN, rfl, hH, q⟩
theorem ggs_cons {ts : List Expr} {vs : List V} {Q : En → Lg → Prop} (h : GG X e v η L fun θ L1 => GGs X ts vs θ L1 Q)
    (hs : (assignEach (e :: ts) X.env).map (·.2) = assign e X.env :: (assignEach ts X.env).map (·.2) := by rfl) : GGs X (e :: ts) (v :: vs) η L Q := fun hN H hH =>
  WGs.of (pgs_cons pg_W pgs_W hs) ⟨v, vs, rfl, h.then hN hH fun θ L1 H1 n1 h1 q1 => q1 n1 H1 h1⟩
theorem gg_tup {es : List Expr} {k : Nat} {p : Addr} {xs : List V} {Q : En → Lg → Prop} (m : (p, HO.tup xs) ∈ L) (h : GGs X es xs η L Q) (hl : xs.length = es.length := by rfl) (hc : X.calm = true := by rfl)
    (hn : (assignEach es X.env).length = es.length := by rfl) (hst : (assignEach es X.env).findIdx? (·.1) = none := by rfl) : GG X (.Tuple es k pos) (.ref p) η L Q := fun hN H hH =>
  WG.of (pg_tup hc pgs_W hn hst) ⟨p, xs, rfl, sqt hH m, hl, h hN H hH⟩
/-- o[i] = v, by values -/
def GSt (X : Cx) (o i v : V) (L : Lg) (Q : Lg → Prop) : Prop := ∀ pins s σ H ov iv u, Has H L → Inv X pins σ H s → RelV o ov → RelV i iv → RelV v u →
  wpAny (model X.prog X.w) X.A (setItem ov iv u) (fun _ s' => ∃ H', Inv X pins σ H' s' ∧ ∃ L', Has H' L' ∧ Q L') X.xe s
theorem gst_lst {p : Addr} {xs : List V} {k : Int} {j : Nat} {M : Lg} {Q : Lg → Prop} (m : (p, HO.lst xs) ∈ L) (hi : ixN xs.length k = some j) (sw : Swap p (.lst (xs.set j v)) L M) (q : Q M) : GSt X (.ref p) (.int k) v L Q :=
  fun pins s σ H ov iv u hH I r1 r2 r3 => (show PSet X rSetL from set_list) pins s σ H (.ref p) (.int k) v ov iv u _ I r1 r2 r3 ⟨p, xs, k, j, rfl, rfl, hH.get m, hi, M, hH.swap sw, q⟩
theorem gst_30 {p : Addr} {a b c : V} {M : Lg} {Q : Lg → Prop} (m : (p, HO.lst [a, b, c]) ∈ L) (sw : Swap p (.lst [v, b, c]) L M) (q : Q M) : GSt X (.ref p) (.int 0) v L Q := gst_lst (j := 0) m rfl sw q
theorem gst_31 {p : Addr} {a b c : V} {M : Lg} {Q : Lg → Prop} (m : (p, HO.lst [a, b, c]) ∈ L) (sw : Swap p (.lst [a, v, c]) L M) (q : Q M) : GSt X (.ref p) (.int 1) v L Q := gst_lst (j := 1) m rfl sw q
theorem gst_32 {p : Addr} {a b c : V} {M : Lg} {Q : Lg → Prop} (m : (p, HO.lst [a, b, c]) ∈ L) (sw : Swap p (.lst [a, b, v]) L M) (q : Q M) : GSt X (.ref p) (.int 2) v L Q := gst_lst (j := 2) m rfl sw q
theorem gg_sub {o i : Expr} {Q : En → Lg → Prop} (h : GE X o η L fun x L1 => GE X i η L1 fun y L2 => GSt X x y v L2 fun L3 => Q η L3)
    (ha : ∀ v, assign (.Subscript o i pos) X.env v = (do
      let ov ← holding [v] (eval o X.env)
      let iv ← holding [v, ov] (eval i X.env)
      standAt pos
      holding [v, ov, iv] (setItem ov iv v)
      release [v, ov, iv] []) := by intro _; rfl) : GG X (.Subscript o i pos) v η L Q := fun hN H hH =>
  WG.of (pg_sub (t := fun x y z H' Q' => ∀ pins s σ ov iv u, Inv X pins σ H' s → RelV x ov → RelV y iv → RelV z u → wpAny (model X.prog X.w) X.A (setItem ov iv u) (fun _ s' => ∃ H'', Inv X pins σ H'' s' ∧ Q' H'') X.xe s)
    pe_W pe_W (fun pins s σ H' x y z ov iv u Q' I r1 r2 r3 q => q pins s σ ov iv u I r1 r2 r3) ha)
    (h.then hN hH fun _ _ _ h1 q1 => q1.then hN h1 fun _ _ _ h2 q2 => fun pins s σ ov iv u I r1 r2 r3 =>
      thn (q2 pins s σ _ ov iv u h2 I r1 r2 r3) fun _ _ ⟨H3, J, L3, h3, q3⟩ => ⟨H3, J, η, L3, hN, rfl, h3, q3⟩)

theorem GS.run {σ : L2.St} {H : Hp} (h : GS X st D η L) (hN : X.N = names η) (hH : Has H L) : WS X st (D.ends X) (vals η) H := h hN H hH
theorem SPm {pins : List (Addr × Obj)} {D D' : Ends} {f : Flow} {s : Shared} (h : SP X pins D f s) (nx : ∀ σ H, D.nx σ H → D'.nx σ H) (rt : ∀ v H, D.rt v H → D'.rt v H) (bk : ∀ σ H, D.bk σ H → D'.bk σ H) (ct : ∀ σ H, D.ct σ H → D'.ct σ H) : SP X pins D' f s := by
  cases f with
  | next => obtain ⟨σ', H', I, q⟩ := h; exact ⟨σ', H', I, nx _ _ q⟩
  | brk => obtain ⟨σ', H', I, q⟩ := h; exact ⟨σ', H', I, bk _ _ q⟩
  | cont => obtain ⟨σ', H', I, q⟩ := h; exact ⟨σ', H', I, ct _ _ q⟩
  | ret u => obtain ⟨v, σ', H', I, r, q⟩ := h; exact ⟨v, σ', H', I, r, rt _ _ q⟩
theorem WS.mono {σ : L2.St} {H : Hp} {D D' : Ends} (h : WS X st D σ H) (nx : ∀ σ H, D.nx σ H → D'.nx σ H) (rt : ∀ v H, D.rt v H → D'.rt v H) (bk : ∀ σ H, D.bk σ H → D'.bk σ H) (ct : ∀ σ H, D.ct σ H → D'.ct σ H) : WS X st D' σ H :=
  fun pins s I => thn (h pins s I) fun _ _ z => SPm z nx rt bk ct
theorem WSs.mono {σ : L2.St} {H : Hp} {D D' : Ends} {sts : List Stmt} (h : WSs X sts D σ H) (nx : ∀ σ H, D.nx σ H → D'.nx σ H) (rt : ∀ v H, D.rt v H → D'.rt v H) (bk : ∀ σ H, D.bk σ H → D'.bk σ H) (ct : ∀ σ H, D.ct σ H → D'.ct σ H) : WSs X sts D' σ H :=
  fun pins s I => thn (h pins s I) fun _ _ z => SPm z nx rt bk ct
theorem gss_nil (q : D.nx η L) : GSs X [] D η L := fun hN H hH => WSs.of pss_nil ⟨η, L, hN, rfl, hH, q⟩
theorem gss_cons (h : GS X st { D with nx := fun θ L1 => GSs X rest D θ L1 } η L) : GSs X (st :: rest) D η L := fun hN H hH =>
  WSs.of (pss_cons ps_W pss_W) ((h hN H hH).mono (fun σ1 H1 ⟨θ, L1, n1, es, h1, q1⟩ => by
    rw [es]
    exact q1 n1 H1 h1) (fun _ _ z => z) (fun _ _ z => z) fun _ _ z => z)
/-- ways meet: what holds behind the first statement -/
theorem gss_cut (M : En → Lg → Prop) (h : GS X st { D with nx := M } η L) (k : ∀ θ L1, M θ L1 → GSs X rest D θ L1) : GSs X (st :: rest) D η L := fun hN H hH =>
  WSs.of (pss_cons ps_W pss_W) ((h hN H hH).mono (fun σ1 H1 ⟨θ, L1, n1, es, h1, q1⟩ => by
    rw [es]
    exact k θ L1 q1 n1 H1 h1) (fun _ _ z => z) (fun _ _ z => z) fun _ _ z => z)
theorem GS.cut (M : En → Lg → Prop) {Q : En → Lg → Prop} (h : GS X st { D with nx := M } η L) (k : ∀ θ L1, M θ L1 → Q θ L1) (e : D.nx = Q := by rfl) : GS X st D η L := fun hN H hH =>
  (h hN H hH).mono (fun σ1 H1 ⟨θ, L1, n1, es, h1, q1⟩ => ⟨θ, L1, n1, es, h1, by rw [e]; exact k θ L1 q1⟩) (fun _ _ z => z) (fun _ _ z => z) fun _ _ z => z
theorem GSs.sub {M : Lg} {sts : List Stmt} (s : Sub M L) (h : GSs X sts D η M) : GSs X sts D η L := fun hN H hH => h hN H (s H hH)
theorem GS.sub {M : Lg} (s : Sub M L) (h : GS X st D η M) : GS X st D η L := fun hN H hH => h hN H (s H hH)
theorem gs_never (h : False) : GS X st D η L := h.elim
theorem gs_pass (q : D.nx η L) : GS X (.Pass pos) D η L := fun hN H hH => WS.of ps_pass ⟨η, L, hN, rfl, hH, q⟩
theorem gs_break (q : D.bk η L) : GS X (.Break pos) D η L := fun hN H hH => WS.of ps_break ⟨η, L, hN, rfl, hH, q⟩
theorem gs_continue (q : D.ct η L) : GS X (.Continue pos) D η L := fun hN H hH => WS.of ps_continue ⟨η, L, hN, rfl, hH, q⟩
theorem gs_expr (h : GE X e η L fun _ L1 => D.nx η L1) (hs : swapsWith e none pos.line X.env = pure false := by rfl) : GS X (.Expr e pos) D η L := fun hN H hH =>
  WS.of (ps_expr pe_W hs) (h.then hN hH fun _ L1 H1 h1 q1 => ⟨η, L1, hN, rfl, h1, q1⟩)
theorem gs_ret (h : GE X e η L D.rt) : GS X (.Return (some e) pos) D η L := fun hN H hH => WS.of (ps_ret pe_W) (h hN H hH)
theorem gs_retN (q : D.rt .non L) : GS X (.Return none pos) D η L := fun hN H hH => WS.of ps_retN ⟨L, hH, q⟩
theorem gs_if {p q : List Stmt} (h : GT X c η L fun k L1 => if k = true then GSs X p D η L1 else GSs X q D η L1) : GS X (.If c p q pos) D η L := fun hN H hH =>
  WS.of (ps_if pt_W pss_W pss_W) (h.then hN hH fun k L1 H1 h1 q1 => by
    cases k with
    | true => exact q1 hN H1 h1
    | false => exact q1 hN H1 h1)
/-- x = e, x a name of the def's own -/
theorem gs_set {x : Str} {f : V → En} {pos' : Pos} (p : PutF x η f) (h : GE X e η L fun v L1 => D.nx (f v) L1) (hn : X.N.Nodup := by assumption) (hx : Loc X.env.scope x := by first | exact Or.inl rfl | exact Or.inr rfl)
    (hs : swapsWith e (some (.Name x pos')) pos.line X.env = pure false := by rfl) (hf : X.fn x = true ∨ X.env.scope.names.lookup x = some .local := by first | exact .inl rfl | exact .inr rfl) : GS X (.Assign [.Name x pos'] e pos) D η L := fun hN H hH => by
  obtain ⟨i, h1, h2⟩ := p.idx
  refine WS.of (ps_set (i := i) hn (by rw [hN]; exact h1) hx pe_W hs hf) (h.then hN hH fun v L1 H1 g1 q1 => ?_)
  show upS X D.nx ((vals η).set i (some v)) H1
  exact ⟨f v, L1, by rw [(h2 v).2]; exact hN, (h2 v).1.symm, g1, q1⟩
/-- x op= y, by values -/
def GIp (X : Cx) (op : Operator) (x y : V) (L : Lg) (Q : QV) : Prop := ∀ pins s σ H v u, Has H L → Inv X pins σ H s → RelV x v → RelV y u → wpAny (model X.prog X.w) X.A (inplaceOp op v u) (EP X pins σ (up Q)) X.xe s
theorem gp_add {i j : Int} {Q : QV} (h : Q (.int (i + j)) L) : GIp X .Add (.int i) (.int j) L Q := fun pins s σ H v u hH I r1 r2 => (show PIp X .Add (ipI fun i j => i + j) from ip_add) pins s σ H _ _ v u _ I r1 r2 ⟨i, j, rfl, rfl, L, hH, h⟩
theorem gp_sub {i j : Int} {Q : QV} (h : Q (.int (i - j)) L) : GIp X .Sub (.int i) (.int j) L Q := fun pins s σ H v u hH I r1 r2 => (show PIp X .Sub (ipI fun i j => i - j) from ip_sub) pins s σ H _ _ v u _ I r1 r2 ⟨i, j, rfl, rfl, L, hH, h⟩
theorem gp_mul {i j : Int} {Q : QV} (c : CMulW i j) (h : Q (.int (i * j)) L) : GIp X .Mult (.int i) (.int j) L Q := fun pins s σ H v u hH I r1 r2 => by
  obtain ⟨t1, rfl⟩ := r1
  obtain ⟨t2, rfl⟩ := r2
  exact imul_int ⟨.int (i * j), H, I.tok _, ⟨_, rfl⟩, L, hH, h⟩ c.ok
/-- x op= e -/
theorem gs_aug {x : Str} {y : V} {f : V → En} {pos' : Pos} {op : Operator} (r : At x y η) (p : PutF x η f)
    (h : GE X e η L fun z L1 => GIp X op y z L1 fun w L2 => D.nx (f w) L2)
    (hn : X.N.Nodup := by assumption) (hx : Loc X.env.scope x := by first | exact Or.inl rfl | exact Or.inr rfl) (hf : X.fn x = true ∨ X.env.scope.names.lookup x = some .local := by first | exact .inl rfl | exact .inr rfl) : GS X (.AugAssign (.Name x pos') op e pos) D η L := fun hN H hH => by
  obtain ⟨i, h1, h2⟩ := p.idx
  obtain ⟨j, g1, g2⟩ := r.idx
  have ij : i = j := by
    have h1' : X.N[i]? = some x := by rw [hN]; exact h1
    have g1' : X.N[j]? = some x := by rw [hN]; exact g1
    obtain ⟨a1, a2⟩ := List.getElem?_eq_some_iff.mp h1'
    obtain ⟨b1, b2⟩ := List.getElem?_eq_some_iff.mp g1'
    exact (List.getElem_inj hn).mp (a2.trans b2.symm)
  subst ij
  refine WS.of (ps_aug (i := i) (ti := fun a b H' Q' => ∀ pins s σ v u, Inv X pins σ H' s → RelV a v → RelV b u → wpAny (model X.prog X.w) X.A (inplaceOp op v u) (EP X pins σ Q') X.xe s) hn (by rw [hN]; exact h1) hx pe_W
    (fun pins s σ H' a b v u Q' I r1 r2 q => q pins s σ v u I r1 r2) hf) ⟨y, g2, ?_⟩
  refine h.then hN hH fun z L1 H1 k1 q1 => fun pins s σ v u I r1 r2 => ?_
  refine thn (q1 pins s σ H1 v u k1 I r1 r2) fun w _ ⟨x', H2, J, r3, L2, k2, q2⟩ => ⟨x', H2, J, r3, ?_⟩
  show upS X D.nx ((vals η).set i (some x')) H2
  exact ⟨f x', L2, by rw [(h2 x').2]; exact hN, (h2 x').1.symm, k2, q2⟩
/-- a, b = x, y (both written) -/
theorem gs_par {x y : Str} {f : V → En} {g : V → V → En} {px py pt pos : Pos} {kt k2 pt2} (p : PutF x η f) (q : ∀ v, PutF y (f v) (g v)) (h : GA X [a, b] η L fun vs L1 => ∃ v w, vs = [v, w] ∧ D.nx (g v w) L1)
    (hw : swappedStores [.Tuple [.Name x px, .Name y py] kt pt] (.Tuple [a, b] k2 pt2) X.env = pure (some [x, y]) := by rfl) (hxy : x ≠ y := by decide +kernel) (hn : X.N.Nodup := by assumption) (hc : X.calm = true := by rfl)
    (hx : X.env.scope.names.lookup x = some .local := by rfl) (hy : X.env.scope.names.lookup y = some .local := by rfl)
    (hs : swapsWithSole [.Tuple [.Name x px, .Name y py] kt pt] (.Tuple [a, b] k2 pt2) pos.line X.env = pure false := by rfl) :
    GS X (.Assign [.Tuple [.Name x px, .Name y py] kt pt] (.Tuple [a, b] k2 pt2) pos) D η L := fun hN H hH => by
  obtain ⟨i, h1, h2⟩ := p.idx
  obtain ⟨j, g1⟩ : ∃ j : Nat, ∀ v, (names (f v))[j]? = some y ∧ ∀ w, vals (g v w) = (vals (f v)).set j (some w) ∧ names (g v w) = names (f v) := by
    obtain ⟨j, k1, k2⟩ := (q .non).idx
    refine ⟨j, fun v => ?_⟩
    obtain ⟨j', m1, m2⟩ := (q v).idx
    have e : j = j' := by
      rw [(h2 .non).2] at k1
      rw [(h2 v).2] at m1
      have k1' : X.N[j]? = some y := by rw [hN]; exact k1
      have m1' : X.N[j']? = some y := by rw [hN]; exact m1
      obtain ⟨a1, a2⟩ := List.getElem?_eq_some_iff.mp k1'
      obtain ⟨b1, b2⟩ := List.getElem?_eq_some_iff.mp m1'
      exact (List.getElem_inj hn).mp (a2.trans b2.symm)
    subst e
    exact ⟨m1, m2⟩
  have hi : X.N[i]? = some x := by rw [hN]; exact h1
  have hj : X.N[j]? = some y := by
    have z := (g1 .non).1
    rw [(h2 .non).2] at z
    rw [hN]
    exact z
  have hij : i ≠ j := fun e => hxy (by rw [e, hj] at hi; exact (Option.some.inj hi).symm)
  refine WS.of (ps_par (i := i) (j := j) hc hn hi hj hij hx hy pa_W hw hs) (h.then hN hH fun vs L1 H1 k1 ⟨v, w, e1, q1⟩ => ⟨v, w, e1, ?_⟩)
  show upS X D.nx (((vals η).set i (some v)).set j (some w)) H1
  refine ⟨g v w, L1, ?_, ?_, k1, q1⟩
  · rw [((g1 v).2 w).2, (h2 v).2]
    exact hN
  · rw [((g1 v).2 w).1, (h2 v).1]
end

/-! ### 8. Loops -/
section
variable {X : Cx} {η : En} {L : Lg} {e a b c tg iter : Expr} {pos : Pos} {body : List Stmt} {D : GD}
theorem gs_asg (h : GE X e η L fun v L1 => GG X tg v η L1 D.nx) (hs : swapsWithSole [tg] e pos.line X.env = pure false := by rfl) (hw : swappedStores [tg] e X.env = pure none := by rfl)
    (h1 : (assignEach [tg] X.env).map (·.2) = [assign tg X.env] := by rfl) : GS X (.Assign [tg] e pos) D η L := fun hN H hH =>
  WS.of (ps_asg pe_W pg_W hs hw h1) (h.then hN hH fun v L1 H1 k1 q1 => q1 hN H1 k1)
/-- a loop's invariant: Pv by the turn -/
structure LoopBy (X : Cx) (tg : Expr) (body : List Stmt) (D : GD) (item : Nat → V → Prop) (n : Nat) (η : En) (L : Lg) (Pv : Nat → En → Lg → Prop) : Prop where
  h0 : Pv 0 η L
  hs : ∀ i x θ M, i < n → item i x → Pv i θ M → GG X tg x θ M fun θ' M' => GSs X body { nx := Pv (i + 1), rt := D.rt, bk := D.nx, ct := Pv (i + 1) } θ' M'
  hd : ∀ θ M, Pv n θ M → D.nx θ M
/-- one turn, as the library's loops ask it -/
theorem turn {item : Nat → V → Prop} {n : Nat} {Pv : Nat → En → Lg → Prop} (l : LoopBy X tg body D item n η L Pv) {i : Nat} {x : V} {σ : L2.St} {H : Hp} (hi : i < n) (hx : item i x) (p : upS X (Pv i) σ H) :
    WG X tg x σ H fun σ2 H2 => WSs X body { D.ends X with nx := upS X (Pv (i + 1)), ct := upS X (Pv (i + 1)), bk := (D.ends X).nx } σ2 H2 := by
  obtain ⟨θ, M, n1, es, h1, q1⟩ := p
  rw [es]
  exact (l.hs i x θ M hi hx q1).then n1 h1 fun θ' M' H2 n2 h2 q2 => q2 n2 H2 h2
theorem gs_range1 {p pos' : Pos} (h : GA X [a] η L fun vs L1 => ∃ (j : Int) (Pv : Nat → En → Lg → Prop), vs = [.int j] ∧ (-(2 ^ 62) ≤ j ∧ j < 2 ^ 62) ∧ LoopBy X tg body D (fun i x => x = .int (i : Int)) j.toNat η L1 Pv) (hm : X.mg "range" = none)
    (hp : PassesOwn (model X.prog X.w) X.A X.env X.xe := by first | exact PassesOwn.never | exact passes_of rfl | assumption) (hc : X.calm = true := by rfl) (hg : Gl X "range" := by rfl)
    (hs' : starEach [a] X.env = [(false, eval a X.env)] := by rfl) (hs : ∀ x, foldedSetIterable (.Call (.Name "range" p) [a] [] pos') X.env x = pure x := by intro _; rfl) : GS X (.For tg (.Call (.Name "range" p) [a] [] pos') body [] pos) D η L := fun hN H hH =>
  WS.of (ps_for hp hc (pi_range1 hg hm pa_W hs') pg_W pss_W hs) (h.then hN hH fun vs L1 H1 k1 ⟨j, Pv, e1, bd, l⟩ => by
    refine ⟨j, e1, bd.1, bd.2, for_range (fun i => upS X (Pv i)) ⟨η, L1, hN, rfl, k1, l.h0⟩ (fun i σ H2 hlt q => ?_) (fun σ H2 ⟨θ, M, n1, es, h2, q⟩ => ⟨θ, M, n1, es, h2, l.hd θ M q⟩)⟩
    rw [Int.zero_add]
    exact turn l hlt rfl q)
theorem gs_range2 {p pos' : Pos} (h : GA X [a, b] η L fun vs L1 => ∃ (j k : Int) (Pv : Nat → En → Lg → Prop), vs = [.int j, .int k] ∧ (-(2 ^ 62) ≤ j ∧ j < 2 ^ 62 ∧ -(2 ^ 62) ≤ k ∧ k < 2 ^ 62) ∧ LoopBy X tg body D (fun i x => x = .int (j + (i : Int))) (k - j).toNat η L1 Pv) (hm : X.mg "range" = none)
    (hp : PassesOwn (model X.prog X.w) X.A X.env X.xe := by first | exact PassesOwn.never | exact passes_of rfl | assumption) (hc : X.calm = true := by rfl) (hg : Gl X "range" := by rfl)
    (hs' : starEach [a, b] X.env = [(false, eval a X.env), (false, eval b X.env)] := by rfl) (hs2 : starEach [b] X.env = [(false, eval b X.env)] := by rfl) (hs : ∀ x, foldedSetIterable (.Call (.Name "range" p) [a, b] [] pos') X.env x = pure x := by intro _; rfl) : GS X (.For tg (.Call (.Name "range" p) [a, b] [] pos') body [] pos) D η L := fun hN H hH =>
  WS.of (ps_for hp hc (pi_range2 hg hm pa_W hs' hs2) pg_W pss_W hs) (h.then hN hH fun vs L1 H1 k1 ⟨j, k, Pv, e1, bd, l⟩ => by
    refine ⟨j, k, e1, bd, for_range (fun i => upS X (Pv i)) ⟨η, L1, hN, rfl, k1, l.h0⟩ (fun i σ H3 hlt q => ?_) (fun σ H3 ⟨θ, M, n1, es, h2, q⟩ => ⟨θ, M, n1, es, h2, l.hd θ M q⟩)⟩
    exact turn l hlt rfl q)
theorem gs_list (h : GE X e η L fun v L1 => ∃ (p : Addr) (xs : List V) (Pv : Nat → En → Lg → Prop), v = .ref p ∧ (∀ i θ M, i ≤ xs.length → Pv i θ M → (p, HO.lst xs) ∈ M) ∧ LoopBy X tg body D (fun i x => xs[i]? = some x) xs.length η L1 Pv)
    (hp : PassesOwn (model X.prog X.w) X.A X.env X.xe := by first | exact PassesOwn.never | exact passes_of rfl | assumption) (hc : X.calm = true := by rfl) (hs : ∀ x, foldedSetIterable e X.env x = pure x := by intro _; rfl) : GS X (.For tg e body [] pos) D η L := fun hN H hH =>
  WS.of (ps_for hp hc (pi_list pe_W) pg_W pss_W hs) (h.then hN hH fun v L1 H1 k1 ⟨p, xs, Pv, e1, keep, l⟩ => by
    refine ⟨p, e1, ⟨xs, sql k1 (keep 0 η L1 (Nat.zero_le _) l.h0)⟩, for_list (xs := xs) (fun i => upS X (Pv i)) ⟨η, L1, hN, rfl, k1, l.h0⟩ (fun i σ H2 hi ⟨θ, M, n1, es, h2, q⟩ => sql h2 (keep i θ M hi q)) (fun i x σ H2 hx q => ?_) (fun σ H2 ⟨θ, M, n1, es, h2, q⟩ => ⟨θ, M, n1, es, h2, l.hd θ M q⟩)⟩
    exact turn l (List.getElem?_eq_some_iff.mp hx).1 hx q)
theorem gs_tuple (h : GE X e η L fun v L1 => ∃ (p : Addr) (xs : List V) (Pv : Nat → En → Lg → Prop), v = .ref p ∧ (∀ i θ M, i ≤ xs.length → Pv i θ M → (p, HO.tup xs) ∈ M) ∧ LoopBy X tg body D (fun i x => xs[i]? = some x) xs.length η L1 Pv)
    (hp : PassesOwn (model X.prog X.w) X.A X.env X.xe := by first | exact PassesOwn.never | exact passes_of rfl | assumption) (hc : X.calm = true := by rfl) (hs : ∀ x, foldedSetIterable e X.env x = pure x := by intro _; rfl) : GS X (.For tg e body [] pos) D η L := fun hN H hH =>
  WS.of (ps_for hp hc (pi_tup pe_W) pg_W pss_W hs) (h.then hN hH fun v L1 H1 k1 ⟨p, xs, Pv, e1, keep, l⟩ => by
    refine ⟨p, e1, ⟨xs, sqt k1 (keep 0 η L1 (Nat.zero_le _) l.h0)⟩, for_tup (xs := xs) (fun i => upS X (Pv i)) ⟨η, L1, hN, rfl, k1, l.h0⟩ (fun i σ H2 hi ⟨θ, M, n1, es, h2, q⟩ => sqt h2 (keep i θ M hi q)) (fun i x σ H2 hx q => ?_) (fun σ H2 ⟨θ, M, n1, es, h2, q⟩ => ⟨θ, M, n1, es, h2, l.hd θ M q⟩)⟩
    exact turn l (List.getElem?_eq_some_iff.mp hx).1 hx q)
/-- while: the word Pv with its measure as a part -/
theorem gs_while (Pv : Nat → En → Lg → Prop) (m0 : Nat) (h0 : Pv m0 η L)
    (hs : ∀ m θ M, Pv m θ M → GT X c θ M fun k M1 => if k = true then GSs X body { nx := fun θ' M' => ∃ m', m' < m ∧ Pv m' θ' M', rt := D.rt, bk := D.nx, ct := fun θ' M' => ∃ m', m' < m ∧ Pv m' θ' M' } θ M1 else D.nx θ M1)
    (hp : PassesOwn (model X.prog X.w) X.A X.env X.xe := by first | exact PassesOwn.never | exact passes_of rfl | assumption) : GS X (.While c body [] pos) D η L := fun hN H hH =>
  WS.of (ps_while hp pt_W pss_W) ⟨fun m => upS X (Pv m), ⟨m0, η, L, hN, rfl, hH, h0⟩, fun m σ H1 ⟨θ, M, n1, es, h1, q1⟩ => by
    rw [es]
    refine (hs m θ M q1).then n1 h1 fun k M1 H2 h2 q2 => ?_
    cases k with
    | true =>
      refine ⟨upS X fun θ' M' => ∃ m', m' < m ∧ Pv m' θ' M', fun σ' H' ⟨θ', M', n', e', h', m', hlt, q'⟩ => ⟨m', hlt, θ', M', n', e', h', q'⟩, ?_⟩
      exact q2 n1 H2 h2
    | false => exact ⟨θ, M1, n1, rfl, h2, q2⟩⟩
end

/-! ### 9. Defs and their promises -/
abbrev XL := Value → Option Addr → Lg → Prop
abbrev SpL := List V → Lg → QV → XL → Prop
/-- a promise over ledgers, as the library's -/
def toSp (sp : SpL) : Sp := fun vs H Q E => ∃ L Ql El, Has H L ∧ sp vs L Ql El ∧ (∀ v L' H', Has H' L' → Ql v L' → Q v H') ∧ ∀ c d L' H', Has H' L' → El c d L' → E c d H'
section
variable {P : Program} {w : World} {K : PySem.W.Frag} {mg : Str → Option Value} {base : Heap}
/-- the def x of the text as it stands behind the top -/
def Df (K : PySem.W.Frag) (mg : Str → Option Value) (x : Str) (st : Stmt) : Prop := ∃ f fd, mg x = some (.ref f) ∧ Fun K x x st f fd
/-- the def x keeps its promise -/
def Fn (P : Program) (w : World) (K : PySem.W.Frag) (mg : Str → Option Value) (base : Heap) (CX : CXT) (x : Str) (k : Nat) (sp : SpL) : Prop := ∃ f, mg x = some (.ref f) ∧ PySem.W.keepIn K (.ref f) = true ∧ FnR P w K mg base CX k f (toSp sp)
/-- what is left over may be dropped -/
def drp (Q : QV) : QV := fun v L => ∃ M, Sub M L ∧ Q v M
def bodyD (Q : QV) : GD := { nx := fun _ L => drp Q .non L, rt := drp Q, bk := fun _ _ => False, ct := fun _ _ => False }
def begun (N : List Str) (vs : List V) : En := N.zip (L2.start N vs)
theorem names_begun {N : List Str} {vs : List V} (h : vs.length ≤ N.length) : names (begun N vs) = N ∧ vals (begun N vs) = L2.start N vs := by
  have l : (L2.start N vs).length = N.length := by
    unfold L2.start
    rw [List.length_append, List.length_map, List.length_replicate]
    omega
  unfold names vals begun
  exact ⟨List.map_fst_zip (Nat.le_of_eq l.symm), List.map_snd_zip (Nat.le_of_eq l)⟩
/-- where the body of such a def stands -/
def cx0 (P : Program) (w : World) (K : PySem.W.Frag) (mg : Str → Option Value) (base : Heap) (N : List Str) (x : Str) (sc : Scope) (f : Addr) (cdv : Value) (A : Around) (outer : List Env) (s : Shared) (H : Hp) (E0 : XK) : Cx := (cxOf CX0 P w K mg base N x sc f cdv A outer s H E0).nox
/-- THE RULE for a def that lets no exception out -/
theorem fn_plain {x : Str} {st : Stmt} {N ps : List Str} {k : Nat} {sp : SpL} (F : Df K mg x st) (S : FnScope N ps (defScope st))
    (hb : ∀ (kV doc pm : Value) (an : Option Addr) (cdv ct : Value) (us : List Value), us.length = ps.length → bindArgs (PySem.W.fnOf x x (defArgs st) (defBody st) (defScope st) .none kV doc pm an cdv ct) ⟨us, []⟩ = pure (ps.zip us))
    (hl : ps.length ≤ N.length) (len : ∀ vs L Q E, sp vs L Q E → vs.length = ps.length)
    (body : ∀ (X : Cx) (f : Addr) (cdv : Value) (A : Around) (outer : List Env) (s : Shared) (H : Hp) (E0 : XK) (L : Lg) (vs : List V) (Q : QV) (E : XL), X = cx0 P w K mg base N x (defScope st) f cdv A outer s H E0 → X.N.Nodup → Room k X.A → sp vs L Q E →
      GSs X (defBody st) (bodyD Q) (begun N vs) L) : Fn P w K mg base CX0 x (k + 1) sp := by
  obtain ⟨f, fd, hm, F⟩ := F
  have G : FnOk P w K mg base CX0 (k + 1) f fd ps (toSp sp) := by
    refine F.ok S (fun vs H Q E ⟨L, Ql, El, _, h, _⟩ => len vs L Ql El h) (fun cdv A outer s H vs Q E hr ⟨L, Ql, El, hH, h, hq, _⟩ => ?_)
    have hlv : vs.length ≤ N.length := by
      rw [len vs L Ql El h]
      exact hl
    refine ⟨WSs _ (defBody st), pss_W, ?_⟩
    have z := body _ f cdv A outer s H E L vs Ql El rfl S.nd hr h (by rw [(names_begun hlv).1] <;> rfl) H hH
    rw [(names_begun hlv).2] at z
    refine z.mono (fun σ H' hh => ?_) (fun v H' hh => ?_) (fun _ _ hh => ?_) (fun _ _ hh => ?_)
    · obtain ⟨θ, M, _, _, h', M', sb, q⟩ := hh
      exact hq _ M' H' (sb _ h') q
    · obtain ⟨M, h', M', sb, q⟩ := hh
      exact hq _ M' H' (sb _ h') q
    · obtain ⟨_, _, _, _, _, q⟩ := hh
      exact q.elim
    · obtain ⟨_, _, _, _, _, q⟩ := hh
      exact q.elim
  have rw2 : FnR P w K mg base CX0 (k + 1) f (fun vs H Q E => toSp sp (vs ++ []) H Q E) := FnOk.raw G (F.binds hb) .nil
  exact ⟨f, hm, F.kp, rw2.imp fun vs H Q E h => by rw [List.append_nil]; exact h⟩
end

/-! ### 10. Calls -/
def NoX : XL := fun _ _ _ => False
def upX (E : XL) : XK := fun c d H => ∃ L, Has H L ∧ E c d L
section
variable {X : Cx} {η : En} {L : Lg} {Q : QV} {El : XL} {CX : CXT} {x : Str} {j k : Nat} {sp : SpL} {e o : Expr} {es : List Expr} {pos p apos : Pos}
theorem passA {E : XK} : Passes CX0 X E := fun _ _ _ _ _ _ _ h => h.elim
theorem passN : Passes (L2.CX X.prog X.w) X (upX NoX) := fun _ _ _ _ _ _ _ h => by
  obtain ⟨_, _, _, _, _, _, _, _, _, _, _, _, _, _, z⟩ := h
  exact z.elim
theorem up_sp {vs : List V} {H : Hp} (hH : Has H L) (h : sp vs L Q El) : toSp sp vs H (up Q) (upX El) := ⟨L, Q, El, hH, h, fun _ L' _ h' q => ⟨L', h', q⟩, fun _ _ L' _ h' q => ⟨L', h', q⟩⟩
theorem ge_call (F : Fn X.prog X.w X.K X.mg X.base CX x k sp) (hr : Room j X.A) (hx : Passes CX X (upX El)) (h : GA X (e :: es) η L fun vs L1 => sp vs L1 Q El) (hjk : k ≤ j := by decide) (hg : Gl X x := by rfl) (hd : (x == ("__debug__" : Str)) = false := by decide)
    (he : starEach (e :: es) X.env = (false, eval e X.env) :: starEach es X.env := by rfl) (hpl : (backTo pos (starEach es X.env)).any (·.1) = false := by rfl) : GE X (.Call (.Name x p) (e :: es) [] pos) η L Q := fun hN H hH pins s I => by
  obtain ⟨f, hm, hk, F⟩ := F
  refine wpAny_Call_Name_kw (ld_glob I hg hm ?_ hd)
  refine PySem.W.callWith_K (h₀ := X.base) I.ok.mod.kin hk ?_ he hpl
  refine thn (h hN H hH pos pins s I) fun us s1 ⟨vs, H1, J, r, L1, h1, q⟩ => ⟨J.kIn, ?_⟩
  exact wpAny_call (run_fnR F (hr.mono hjk) hx J r (up_sp h1 q))
theorem ge_call0 (F : Fn X.prog X.w X.K X.mg X.base CX x k sp) (hr : Room j X.A) (hx : Passes CX X (upX El)) (h : sp [] L Q El) (hjk : k ≤ j := by decide) (hg : Gl X x := by rfl) (hd : (x == ("__debug__" : Str)) = false := by decide) : GE X (.Call (.Name x p) [] [] pos) η L Q := fun hN H hH pins s I => by
  obtain ⟨f, hm, hk, F⟩ := F
  refine wpAny_Call_Name_kw (ld_glob I hg hm ?_ hd)
  exact PySem.W.callWith_K0 I.kIn hk (wpAny_call (run_fnR (us := []) F (hr.mono hjk) hx I .nil (up_sp hH h)))
/-- xs.append(e) -/
theorem ge_append (h : GE X o η L fun v L1 => ∃ l zs, v = .ref l ∧ (l, HO.lst zs) ∈ L1 ∧ GE X e η L1 fun y L2 => ∃ xs M, (l, HO.lst xs) ∈ L2 ∧ xs.length < sizeLine ∧ Swap l (.lst (xs ++ [y])) L2 M ∧ Q .non M)
    (hbase : attributeBase o "append" X.env (eval o X.env) = eval o X.env := by rfl)
    (hfew : ((backTo pos (starEach [e] X.env)).all (fun x => !x.1) && (backToKw pos (keywordEach [] X.env)).all (fun x => x.1.isSome)
      && decide ([e].length + ([] : List Keyword).length + (if ([] : List Keyword).isEmpty then 0 else 1) < 30)) = true := by rfl)
    (hline : (apos.endLine == pos.line) = true := by rfl) (hs : starEach [e] X.env = (false, eval e X.env) :: starEach [] X.env := by rfl) : GE X (.Call (.Attribute o "append" apos) [e] [] pos) η L Q := fun hN H hH =>
  WE.of (pe_bm PySem.F.plainAttrs_list PySem.F.slot_list_append PySem.F.type_list_append mt_append pe_W (pa_cons pe_W pa_nil hs) hbase hfew hline hs rfl) (h.then hN hH fun v L1 H1 k1 ⟨l, zs, ev, m, q⟩ => by
    subst ev
    exact ⟨.inl ⟨rfl, zs, sql k1 m⟩, q.then hN k1 fun y L2 H2 k2 ⟨xs, M, m2, z, sw, q2⟩ => ⟨l, xs, y, rfl, rfl, k2.get m2, z, M, k2.swap sw, q2⟩⟩)
/-- a slice with both ends left out, or written -/
def GPart (X : Cx) (o : Option Expr) (η : En) (L : Lg) (Q : Option Int → Lg → Prop) : Prop := match o with
  | none => Q none L
  | some e => GE X e η L fun v L1 => ∃ i, v = .int i ∧ Q (some i) L1
def WPart (X : Cx) (o : Option Expr) : TO := match o with
  | none => tNoPart
  | some e => tPart (WE X e)
theorem po_W {o : Option Expr} : PO X o (WPart X o) := by
  cases o with
  | none => exact po_none
  | some e => exact po_some pe_W
theorem GPart.then {o : Option Expr} {Q : Option Int → Lg → Prop} {Q' : Option Int → Hp → Prop} (h : GPart X o η L Q) (hN : X.N = names η) {H : Hp} (hH : Has H L) (m : ∀ v L1 H1, Has H1 L1 → Q v L1 → Q' v H1) : WPart X o (vals η) H Q' := by
  cases o with
  | none => exact m none L H hH h
  | some e => exact GE.then h hN hH fun v L1 H1 h1 ⟨i, ei, q⟩ => ⟨i, ei, m _ L1 H1 h1 q⟩
def InL (K : PySem.W.Frag) (L : Lg) (p : Addr) (xs : List V) : Prop := ∀ H, Has H L → SqL K H p xs
theorem ge_sliceL {lo hi : Option Expr} {p2 : Pos} (h : GE X e η L fun v L1 => ∃ p xs, v = .ref p ∧ GPart X lo η L1 fun i L2 => GPart X hi η L2 fun j L3 => InL X.K L3 p xs ∧ ∀ q, Q (.ref q) ((q, .lst (cutV xs i j)) :: L3)) : GE X (.Subscript e (.Slice lo hi none p2) pos) η L Q := fun hN H hH =>
  WE.of (pe_slice sl_list pe_W po_W po_W) (h.then hN hH fun v L1 H1 k1 ⟨p, xs, ev, q⟩ => q.then hN k1 fun i L2 H2 k2 q2 => q2.then hN k2 fun j L3 H3 k3 ⟨m, q3⟩ => ⟨p, xs, ev, m H3 k3, fun r hr => ⟨_, k3.new hr, q3 r⟩⟩)
end
/-- def f(*v) -/
def spStar (sp : SpL) : SpL := fun vs L Q E => vs.length ≤ sizeLine ∧ ∀ p, sp [.ref p] ((p, .tup vs) :: L) Q E
theorem bind_star0 {B : List Value → Sem (List (Str × Value))} {pv : Str} (h0 : B [] = (newTuple [] >>= fun t => pure [(pv, t)])) (h1 : ∀ r rs, B (r :: rs) = (newTuple (r :: rs) >>= fun t => pure [(pv, t)])) :
    ∀ us rest : List Value, us.length = ([] : List Str).length → B (us ++ rest) = (newTuple rest >>= fun t => pure (([] : List Str).zip us ++ [(pv, t)]))
  | [], [], _ => h0
  | [], r :: rs, _ => h1 r rs
section
variable {P : Program} {w : World} {K : PySem.W.Frag} {mg : Str → Option Value} {base : Heap}
theorem fn_starred {x pv : Str} {st : Stmt} {N : List Str} {k : Nat} {sp : SpL} (F : Df K mg x st) (S : FnScope N [pv] (defScope st))
    (h0 : ∀ (kV doc pm : Value) (an : Option Addr) (cdv ct : Value), bindArgs (PySem.W.fnOf x x (defArgs st) (defBody st) (defScope st) .none kV doc pm an cdv ct) ⟨[], []⟩ = (newTuple [] >>= fun t => pure [(pv, t)]))
    (h1 : ∀ (kV doc pm : Value) (an : Option Addr) (cdv ct : Value) (r : Value) (rs : List Value), bindArgs (PySem.W.fnOf x x (defArgs st) (defBody st) (defScope st) .none kV doc pm an cdv ct) ⟨r :: rs, []⟩ = (newTuple (r :: rs) >>= fun t => pure [(pv, t)]))
    (hl : 1 ≤ N.length) (len : ∀ vs L Q E, sp vs L Q E → vs.length = 1)
    (body : ∀ (X : Cx) (f : Addr) (cdv : Value) (A : Around) (outer : List Env) (s : Shared) (H : Hp) (E0 : XK) (L : Lg) (vs : List V) (Q : QV) (E : XL), X = cx0 P w K mg base N x (defScope st) f cdv A outer s H E0 → X.N.Nodup → Room k X.A → sp vs L Q E →
      GSs X (defBody st) (bodyD Q) (begun N vs) L) : Fn P w K mg base CX0 x (k + 1) (spStar sp) := by
  obtain ⟨f, fd, hm, F⟩ := F
  refine ⟨f, hm, F.kp, ?_⟩
  obtain ⟨oc, od, kV, doc, pm, an, cdv, ct, osl, rfl, lk, hcd⟩ := F.ex
  have G := StX.fn_star (CX := CX0) (ps := []) (pv := pv) (k := k) (sp := toSp sp) (P := P) (w := w) (mg := mg) (base := base) lk hcd S StX.cxUp_none (bind_star0 (B := fun us => bindArgs (PySem.W.fnOf x x (defArgs st) (defBody st) (defScope st) .none kV doc pm an cdv ct) ⟨us, []⟩) (h0 kV doc pm an cdv ct) (h1 kV doc pm an cdv ct)) (fun A outer s H vs Q E hr ⟨L, Ql, El, hH, h, hq, _⟩ => by
    have hlv : vs.length ≤ N.length := by
      rw [len vs L Ql El h]
      exact hl
    refine ⟨WSs _ (defBody st), PSs.nox pss_W, ?_⟩
    have z := body _ f cdv A outer s H E L vs Ql El rfl S.nd hr h (by rw [(names_begun hlv).1] <;> rfl) H hH
    rw [(names_begun hlv).2] at z
    refine z.mono (fun σ H' hh => ?_) (fun v H' hh => ?_) (fun _ _ hh => ?_) (fun _ _ hh => ?_)
    · obtain ⟨θ, M, _, _, h', M', sb, q⟩ := hh
      exact hq _ M' H' (sb _ h') q
    · obtain ⟨M, h', M', sb, q⟩ := hh
      exact hq _ M' H' (sb _ h') q
    · obtain ⟨_, _, _, _, _, q⟩ := hh
      exact q.elim
    · obtain ⟨_, _, _, _, _, q⟩ := hh
      exact q.elim)
  refine FnR.imp G fun vs H Q E ⟨L, Ql, El, hH, h, hq, he⟩ => ⟨[], vs, rfl, rfl, h.1, fun p hp => ⟨_, Ql, El, hH.new hp, h.2 p, hq, he⟩⟩
end

/-! ### 11. Kinds of values -/
inductive Knd (L : Lg) : V → String → Prop
  | non : Knd L .non "NoneType"
  | bl {b : Bool} : Knd L (.bl b) "bool"
  | int {i : Int} : Knd L (.int i) "int"
  | str {x : Str} : Knd L (.str x) "str"
  | lst {p : Addr} {xs : List V} (m : (p, HO.lst xs) ∈ L) : Knd L (.ref p) "list"
  | tup {p : Addr} {xs : List V} (m : (p, HO.tup xs) ∈ L) : Knd L (.ref p) "tuple"
  | dct {p : Addr} {kvs : List (Key × V)} (m : (p, HO.dK kvs) ∈ L) : Knd L (.ref p) "dict"
theorem Knd.ty {K : PySem.W.Frag} {L : Lg} {x : V} {T : String} (k : Knd L x T) (H : Hp) (hH : Has H L) : TyX K H x (.type T) := by
  cases k with
  | non => exact .base .non
  | bl => exact .base (.bl _)
  | int => exact .base (.int _)
  | str => exact .base (.str _)
  | lst m => exact .base (.lst (hH.get m))
  | tup m => exact .base (.tup (hH.get m))
  | dct m => exact .base (.dK (hH.get m))
theorem Knd.sub {L M : Lg} {x : V} {T : String} (k : Knd L x T) (s : ∀ e ∈ L, e ∈ M) : Knd M x T := by
  cases k with
  | non => exact .non
  | bl => exact .bl
  | int => exact .int
  | str => exact .str
  | lst m => exact .lst (s _ m)
  | tup m => exact .tup (s _ m)
  | dct m => exact .dct (s _ m)
theorem kb_int_int : kitB "int" "int" = some true := by decide +kernel
theorem kb_int_bool : kitB "int" "bool" = some false := by decide +kernel
theorem kb_bool_int : kitB "bool" "int" = some true := by decide +kernel
theorem kb_bool_bool : kitB "bool" "bool" = some true := by decide +kernel
theorem kb_non_int : kitB "NoneType" "int" = some false := by decide +kernel
theorem kb_str_int : kitB "str" "int" = some false := by decide +kernel
theorem kb_list_int : kitB "list" "int" = some false := by decide +kernel
theorem kb_tuple_int : kitB "tuple" "int" = some false := by decide +kernel
theorem kb_dict_int : kitB "dict" "int" = some false := by decide +kernel
theorem kb_tuple_tuple : kitB "tuple" "tuple" = some true := by decide +kernel
theorem kb_int_tuple : kitB "int" "tuple" = some false := by decide +kernel
theorem kb_bool_tuple : kitB "bool" "tuple" = some false := by decide +kernel
theorem kb_non_tuple : kitB "NoneType" "tuple" = some false := by decide +kernel
theorem kb_str_tuple : kitB "str" "tuple" = some false := by decide +kernel
theorem kb_list_tuple : kitB "list" "tuple" = some false := by decide +kernel
theorem kb_dict_tuple : kitB "dict" "tuple" = some false := by decide +kernel
section
variable {X : Cx} {L : Lg} {Q : QV} {x : V} {T c : String} {b : Bool}
theorem gc_isK (k : Knd L x T) (e : kitB T c = some b) (h : Q (.bl b) L) : GC X (.builtin "isinstance") [x, .ty c] L Q := gc_isi (fun H hH => k.ty H hH) e h
end
theorem sz1 : 1 ≤ sizeLine := by decide +kernel
theorem sz2 : 2 ≤ sizeLine := by decide +kernel
theorem sz3 : 3 ≤ sizeLine := by decide +kernel
theorem sz_le {n : Nat} (h : n ≤ 1000) : n ≤ sizeLine := Nat.le_trans h (by decide +kernel)
theorem sz_lt {n : Nat} (h : n < 1000) : n < sizeLine := Nat.lt_of_lt_of_le h (by decide +kernel)
/-! what stands elsewhere in the ledger, brought to its head -/
theorem Sub.keep {L M : Lg} {e : Addr × HO} (s : M.Sublist L) : Sub (e :: M) (e :: L) := Sub.sublist (s.cons_cons e)
section
variable {a b c d e f g h i : Addr × HO} {R : Lg}
theorem br0 : Sub (a :: b :: R) (a :: b :: R) := Sub.refl
theorem br1 : Sub (a :: b :: c :: R) (c :: a :: b :: R) := Sub.perm (List.perm_middle (l₁ := [a, b])).symm.symm
theorem br2 : Sub (a :: b :: c :: d :: R) (c :: d :: a :: b :: R) := Sub.perm (by
  have z := List.perm_append_comm (l₁ := [a, b]) (l₂ := [c, d])
  exact z.append_right R)
theorem br3 : Sub (a :: b :: c :: d :: e :: R) (c :: d :: e :: a :: b :: R) := Sub.perm (by
  have z := List.perm_append_comm (l₁ := [a, b]) (l₂ := [c, d, e])
  exact z.append_right R)
theorem br4 : Sub (a :: b :: c :: d :: e :: f :: R) (c :: d :: e :: f :: a :: b :: R) := Sub.perm (by
  have z := List.perm_append_comm (l₁ := [a, b]) (l₂ := [c, d, e, f])
  exact z.append_right R)
theorem br5 : Sub (a :: b :: c :: d :: e :: f :: g :: R) (c :: d :: e :: f :: g :: a :: b :: R) := Sub.perm (by
  have z := List.perm_append_comm (l₁ := [a, b]) (l₂ := [c, d, e, f, g])
  exact z.append_right R)
theorem br6 : Sub (a :: b :: c :: d :: e :: f :: g :: h :: R) (c :: d :: e :: f :: g :: h :: a :: b :: R) := Sub.perm (by
  have z := List.perm_append_comm (l₁ := [a, b]) (l₂ := [c, d, e, f, g, h])
  exact z.append_right R)
end

/-! built-ins by their own names -/
section
variable {X : Cx} {η : En} {L : Lg} {Q : QV} {e : Expr} {es : List Expr} {pos p : Pos}
theorem gb_len (B : Bi X.mg) (h : GA X (e :: es) η L fun xs L1 => GC X (.builtin "len") xs L1 Q) (hg : Gl X "len" := by rfl) (he : starEach (e :: es) X.env = (false, eval e X.env) :: starEach es X.env := by rfl) (hpl : (backTo pos (starEach es X.env)).any (·.1) = false := by rfl) :
    GE X (.Call (.Name "len" p) (e :: es) [] pos) η L Q := ge_B B.len bt_len h hg (by decide) (by decide) he hpl
theorem gb_abs (B : Bi X.mg) (h : GA X (e :: es) η L fun xs L1 => GC X (.builtin "abs") xs L1 Q) (hg : Gl X "abs" := by rfl) (he : starEach (e :: es) X.env = (false, eval e X.env) :: starEach es X.env := by rfl) (hpl : (backTo pos (starEach es X.env)).any (·.1) = false := by rfl) :
    GE X (.Call (.Name "abs" p) (e :: es) [] pos) η L Q := ge_B B.abs bt_abs h hg (by decide) (by decide) he hpl
theorem gb_min (B : Bi X.mg) (h : GA X (e :: es) η L fun xs L1 => GC X (.builtin "min") xs L1 Q) (hg : Gl X "min" := by rfl) (he : starEach (e :: es) X.env = (false, eval e X.env) :: starEach es X.env := by rfl) (hpl : (backTo pos (starEach es X.env)).any (·.1) = false := by rfl) :
    GE X (.Call (.Name "min" p) (e :: es) [] pos) η L Q := ge_B B.min bt_min h hg (by decide) (by decide) he hpl
theorem gb_isinstance (B : Bi X.mg) (h : GA X (e :: es) η L fun xs L1 => GC X (.builtin "isinstance") xs L1 Q) (hg : Gl X "isinstance" := by rfl) (he : starEach (e :: es) X.env = (false, eval e X.env) :: starEach es X.env := by rfl) (hpl : (backTo pos (starEach es X.env)).any (·.1) = false := by rfl) :
    GE X (.Call (.Name "isinstance" p) (e :: es) [] pos) η L Q := ge_B B.isinstance bt_isinstance h hg (by decide) (by decide) he hpl
theorem gb_int (B : Bi X.mg) (h : GA X (e :: es) η L fun xs L1 => GC X (.type "int") xs L1 Q) (hg : Gl X "int" := by rfl) (he : starEach (e :: es) X.env = (false, eval e X.env) :: starEach es X.env := by rfl) (hpl : (backTo pos (starEach es X.env)).any (·.1) = false := by rfl) :
    GE X (.Call (.Name "int" p) (e :: es) [] pos) η L Q := ge_Y B.int bt_int h hg (by decide) (by decide) he hpl
theorem gb_list (B : Bi X.mg) (h : GA X (e :: es) η L fun xs L1 => GC X (.type "list") xs L1 Q) (hg : Gl X "list" := by rfl) (he : starEach (e :: es) X.env = (false, eval e X.env) :: starEach es X.env := by rfl) (hpl : (backTo pos (starEach es X.env)).any (·.1) = false := by rfl) :
    GE X (.Call (.Name "list" p) (e :: es) [] pos) η L Q := ge_Y B.list bt_list h hg (by decide) (by decide) he hpl
theorem gb_tuple (B : Bi X.mg) (h : GA X (e :: es) η L fun xs L1 => GC X (.type "tuple") xs L1 Q) (hg : Gl X "tuple" := by rfl) (he : starEach (e :: es) X.env = (false, eval e X.env) :: starEach es X.env := by rfl) (hpl : (backTo pos (starEach es X.env)).any (·.1) = false := by rfl) :
    GE X (.Call (.Name "tuple" p) (e :: es) [] pos) η L Q := ge_Y B.tuple bt_tuple h hg (by decide) (by decide) he hpl
theorem gb_bool (B : Bi X.mg) (h : GA X (e :: es) η L fun xs L1 => GC X (.type "bool") xs L1 Q) (hg : Gl X "bool" := by rfl) (he : starEach (e :: es) X.env = (false, eval e X.env) :: starEach es X.env := by rfl) (hpl : (backTo pos (starEach es X.env)).any (·.1) = false := by rfl) :
    GE X (.Call (.Name "bool" p) (e :: es) [] pos) η L Q := ge_Y B.bool bt_bool h hg (by decide) (by decide) he hpl
theorem gb_str (B : Bi X.mg) (h : GA X (e :: es) η L fun xs L1 => GC X (.type "str") xs L1 Q) (hg : Gl X "str" := by rfl) (he : starEach (e :: es) X.env = (false, eval e X.env) :: starEach es X.env := by rfl) (hpl : (backTo pos (starEach es X.env)).any (·.1) = false := by rfl) :
    GE X (.Call (.Name "str" p) (e :: es) [] pos) η L Q := ge_Y B.str bt_str h hg (by decide) (by decide) he hpl
theorem gv_int (B : Bi X.mg) (q : Q (.ty "int") L) (hg : Gl X "int" := by rfl) : GE X (.Name "int" pos) η L Q := ge_tyName B.int bt_int q hg (by decide) (by decide)
theorem gv_bool (B : Bi X.mg) (q : Q (.ty "bool") L) (hg : Gl X "bool" := by rfl) : GE X (.Name "bool" pos) η L Q := ge_tyName B.bool bt_bool q hg (by decide) (by decide)
theorem gv_tuple (B : Bi X.mg) (q : Q (.ty "tuple") L) (hg : Gl X "tuple" := by rfl) : GE X (.Name "tuple" pos) η L Q := ge_tyName B.tuple bt_tuple q hg (by decide) (by decide)
theorem gv_list (B : Bi X.mg) (q : Q (.ty "list") L) (hg : Gl X "list" := by rfl) : GE X (.Name "list" pos) η L Q := ge_tyName B.list bt_list q hg (by decide) (by decide)
theorem gv_str (B : Bi X.mg) (q : Q (.ty "str") L) (hg : Gl X "str" := by rfl) : GE X (.Name "str" pos) η L Q := ge_tyName B.str bt_str q hg (by decide) (by decide)
end
/-! ### 12. Answers -/
theorem ite_t {A B : Prop} (h : A) : if true = true then A else B := by rw [if_pos rfl]; exact h
theorem ite_f {A B : Prop} (h : B) : if false = true then A else B := by rw [if_neg Bool.false_ne_true]; exact h
theorem ite_d {c A B : Prop} [Decidable c] (h : c → A) (k : ¬ c → B) : if decide c = true then A else B := by
  by_cases z : c
  · rw [if_pos (decide_eq_true z)]; exact h z
  · rw [decide_eq_false z, if_neg Bool.false_ne_true]; exact k z
theorem ite_n {c A B : Prop} [Decidable c] (h : ¬ c → A) (k : c → B) : if (!decide c) = true then A else B := by
  by_cases z : c
  · rw [decide_eq_true z]; exact ite_f (k z)
  · rw [decide_eq_false z]; exact ite_t (h z)
theorem ite_nt {A B : Prop} (h : B) : if (!true) = true then A else B := ite_f h
theorem ite_nf {A B : Prop} (h : A) : if (!false) = true then A else B := ite_t h
theorem ite_b {b : Bool} {A B : Prop} (h : b = true → A) (k : b = false → B) : if b = true then A else B := by
  cases b with
  | true => exact ite_t (h rfl)
  | false => exact ite_f (k rfl)
/-! ### 13. Operators that hand on a letter -/
section
variable {X : Cx} {L : Lg} {Q : QV} {i j r : Int}
theorem go_modR (c : 0 < j) (h : ∀ r, 0 ≤ r → r < j → Q (.int r) L) : GOp X (binaryOp .Mod) (.int i) (.int j) L Q := go_mod c (h _ (Int.emod_nonneg _ (by omega)) (Int.emod_lt_of_pos _ c))
theorem go_powL (c : CPow i j) (e : i ^ j.toNat = r) (h : Q (.int r) L) : GOp X (binaryOp .Pow) (.int i) (.int j) L Q := go_pow c (by rw [e]; exact h)
theorem go_powR (c : CPow i j) (h : ∀ r, Q (.int r) L) : GOp X (binaryOp .Pow) (.int i) (.int j) L Q := go_pow c (h _)
end
theorem bnd {s t A B : Int} (s0 : 0 ≤ s) (s1 : s ≤ A) (t0 : 0 ≤ t) (t1 : t ≤ B) : 0 ≤ s * t ∧ s * t ≤ A * B := ⟨Int.mul_nonneg s0 t0, Int.mul_le_mul s1 t1 t0 (Int.le_trans s0 s1)⟩
theorem depthInts : ∀ ns : List Int, PyData.depthAll (ns.map PyData.int) = 0
  | [] => by simp [PyData.depthAll]
  | n :: r => by
    have e := depthInts r
    simp [PyData.depthAll, PyData.depth, e]
theorem layInts : ∀ ns : List Int, PyData.canLayAll0 (ns.map PyData.int) = true
  | [] => by simp [PyData.canLayAll0]
  | n :: r => by
    have e := layInts r
    simp [PyData.canLayAll0, PyData.canLay0, e]
theorem shapedL (ns : List Int) : SeqAt.shaped (.list (ns.map PyData.int)) = true := by
  have a := depthInts ns
  have b := layInts ns
  simp [SeqAt.shaped, PyData.canLay0, PyData.depth, a, b]
theorem shapedT (ns : List Int) : SeqAt.shaped (.tuple (ns.map PyData.int)) = true := by
  have a := depthInts ns
  have b := layInts ns
  simp [SeqAt.shaped, PyData.canLay0, PyData.depth, a, b]
theorem eqvInts : ∀ ns ms : List Int, PyData.eqvAll (ns.map PyData.int) (ms.map PyData.int) = decide (ns = ms)
  | [], [] => by simp [PyData.eqvAll]
  | [], m :: r => by simp [PyData.eqvAll]
  | n :: r, [] => by simp [PyData.eqvAll]
  | n :: r, m :: q => by
    have e := eqvInts r q
    simp [PyData.eqvAll, PyData.eqv, e]
    by_cases h : n = m <;> by_cases k : r = q <;> simp [h, k]
theorem eqvL (ns ms : List Int) : PyData.eqv (.list (ns.map PyData.int)) (.list (ms.map PyData.int)) = decide (ns = ms) := by
  rw [← eqvInts]
  simp [PyData.eqv]
section
variable {X : Cx} {L : Lg} {Q : QV} {i j r : Int}
theorem go_divS (c : 0 < j) (d : j < 2 ^ 64) (h : Q (.int (i / j)) L) : GOp X (binaryOp .FloorDiv) (.int i) (.int j) L Q := go_div c (Nat.lt_of_lt_of_le (by omega : j.natAbs < 2 ^ 64) (Nat.pow_le_pow_right (by decide) (by decide))) h
theorem go_divK {k : Nat} (c : 0 < j) (d : j.natAbs < 2 ^ k) (hk : k ≤ 9000) (h : Q (.int (i / j)) L) : GOp X (binaryOp .FloorDiv) (.int i) (.int j) L Q := go_div c (Nat.lt_of_lt_of_le d (Nat.pow_le_pow_right (by decide) hk)) h
end
/-! ### 14. Three names at once -/
theorem idxU {N : List Str} (hn : N.Nodup) {i j : Nat} {x : Str} (h : N[i]? = some x) (k : N[j]? = some x) : i = j := by
  obtain ⟨a1, a2⟩ := List.getElem?_eq_some_iff.mp h
  obtain ⟨b1, b2⟩ := List.getElem?_eq_some_iff.mp k
  exact (List.getElem_inj hn).mp (a2.trans b2.symm)
section
variable {X : Cx} {η : En} {L : Lg} {a b c : Expr} {D : GD}
theorem PutF.at {x : Str} {N : List Str} {i : Nat} {θ : En} {f : V → En} (p : PutF x θ f) (hn : N.Nodup) (hN : N = names θ) (h : N[i]? = some x) (v : V) : vals (f v) = (vals θ).set i (some v) ∧ names (f v) = names θ := by
  obtain ⟨j, h1, h2⟩ := p.idx
  have e : i = j := idxU hn h (by rw [hN]; exact h1)
  subst e
  exact h2 v
theorem gs_par3 {x y z : Str} {f : V → En} {g : V → V → En} {k : V → V → V → En} {px py pz pt pos : Pos} {kt k2 pt2} (p : PutF x η f) (q : ∀ v, PutF y (f v) (g v)) (r : ∀ v w, PutF z (g v w) (k v w))
    (h : GA X [a, b, c] η L fun vs L1 => ∃ u v w, vs = [u, v, w] ∧ D.nx (k u v w) L1)
    (hw : swappedStores [.Tuple [.Name x px, .Name y py, .Name z pz] kt pt] (.Tuple [a, b, c] k2 pt2) X.env = pure (some [x, y, z]) := by rfl) (hxy : x ≠ y := by decide +kernel) (hxz : x ≠ z := by decide +kernel) (hyz : y ≠ z := by decide +kernel) (hn : X.N.Nodup := by assumption) (hc : X.calm = true := by rfl)
    (hx : X.env.scope.names.lookup x = some .local := by rfl) (hy : X.env.scope.names.lookup y = some .local := by rfl) (hz : X.env.scope.names.lookup z = some .local := by rfl)
    (hs : swapsWithSole [.Tuple [.Name x px, .Name y py, .Name z pz] kt pt] (.Tuple [a, b, c] k2 pt2) pos.line X.env = pure false := by rfl) :
    GS X (.Assign [.Tuple [.Name x px, .Name y py, .Name z pz] kt pt] (.Tuple [a, b, c] k2 pt2) pos) D η L := fun hN H hH => by
  obtain ⟨i, h1, h2⟩ := p.idx
  have nf : ∀ v, names (f v) = X.N := fun v => (h2 v).2.trans hN.symm
  obtain ⟨j, g1, _⟩ := (q .non).idx
  rw [nf] at g1
  have ng : ∀ v w, names (g v w) = X.N := fun v w => ((q v).at hn (nf v).symm g1 w).2.trans (nf v)
  obtain ⟨l, k1, _⟩ := (r .non .non).idx
  rw [ng] at k1
  have i1 : X.N[i]? = some x := by rw [hN]; exact h1
  have ne : ∀ {m n : Nat} {s t : Str}, X.N[m]? = some s → X.N[n]? = some t → s ≠ t → m ≠ n := fun hm hn' d e => d (by rw [e, hn'] at hm; exact (Option.some.inj hm).symm)
  refine WS.of (ps_par3 (i := i) (j := j) (l := l) hc hn i1 g1 k1 (ne i1 g1 hxy) (ne i1 k1 hxz) (ne g1 k1 hyz) hx hy hz pa_W hw hs) (h.then hN hH fun vs L1 H1 m1 ⟨u, v, w, e1, q1⟩ => ⟨u, v, w, e1, ?_⟩)
  show upS X D.nx ((((vals η).set i (some u)).set j (some v)).set l (some w)) H1
  have z := (r u v).at hn (ng u v).symm k1 w
  refine ⟨k u v w, L1, (z.2.trans (ng u v)).symm, ?_, m1, q1⟩
  rw [z.1, ((q u).at hn (nf u).symm g1 v).1, (h2 u).1]
end
section
variable {X : Cx} {L : Lg} {Q : QV} {i : Int} {p : Addr}
theorem isN_int (h : Q (.bl false) L) : GOp X (compareOp .Is) (.int i) .non L Q := go_isN h
theorem isN_ref (h : Q (.bl false) L) : GOp X (compareOp .Is) (.ref p) .non L Q := go_isN h
theorem isN_non (h : Q (.bl true) L) : GOp X (compareOp .Is) .non .non L Q := go_isN h
theorem notN_int (h : Q (.bl true) L) : GOp X (compareOp .IsNot) (.int i) .non L Q := go_notN h
theorem notN_ref (h : Q (.bl true) L) : GOp X (compareOp .IsNot) (.ref p) .non L Q := go_notN h
theorem notN_non (h : Q (.bl false) L) : GOp X (compareOp .IsNot) .non .non L Q := go_notN h
end
theorem gu_neg {X : Cx} {L : Lg} {Q : QV} {i : Int} (h : Q (.int (-i)) L) : GUn X (unaryOp .USub) (.int i) L Q := GUn.of un_neg fun H hH => ⟨i, rfl, L, hH, h⟩
/-! ### 15. The law itself -/
def spLaw (K : PySem.W.Frag) : SpL := fun vs L Q _ => ∃ (a : Addr) (ns : List Int), vs = [.ref a] ∧ InL K L a (ns.map V.int) ∧ ∀ M, Q (.bl true) M
theorem law_in {K : PySem.W.Frag} {H : Hp} {a : Addr} {ns : List Int} (h : SqL K H a (ns.map V.int)) : toSp (spLaw K) [.ref a] H (fun v _ => v = .bl true) fun _ _ _ => False := by
  have key : ∀ L : Lg, Has H L → InL K L a (ns.map V.int) → toSp (spLaw K) [.ref a] H (fun v _ => v = .bl true) fun _ _ _ => False := fun L hL hi =>
    ⟨L, fun v _ => v = .bl true, NoX, hL, ⟨a, ns, rfl, hi, fun _ => rfl⟩, fun _ _ _ _ q => q, fun _ _ _ _ _ q => q⟩
  have one : ∀ o : HO, H a = some o → Has H [(a, o)] := fun o ho => ⟨by simp, fun e m => by
    obtain rfl : e = (a, o) := by simpa using m
    exact ho⟩
  rcases h with (h | ⟨o, h⟩) | h
  · exact key [(a, .lst (ns.map V.int))] (one _ h) fun H' h' => sql h' mem0
  · exact key [(a, .frz o (.lst (ns.map V.int)))] (one _ h) fun H' h' => .inl (.inr ⟨o, h'.get mem0⟩)
  · exact key [] Has.nil fun H' _ => .inr h
section
variable {P : Program} {w : World} {K : PySem.W.Frag} {mg : Str → Option Value} {base : Heap}
/-- as fn_plain, for the law's own entry -/
theorem fn_entry {x : Str} {st : Stmt} {N ps : List Str} {k : Nat} {sp : SpL} {f : Addr} {fd : FuncData} (F : Fun K x x st f fd) (S : FnScope N ps (defScope st))
    (hl : ps.length ≤ N.length) (len : ∀ vs L Q E, sp vs L Q E → vs.length = ps.length)
    (body : ∀ (X : Cx) (f : Addr) (cdv : Value) (A : Around) (outer : List Env) (s : Shared) (H : Hp) (E0 : XK) (L : Lg) (vs : List V) (Q : QV) (E : XL), X = cx0 P w K mg base N x (defScope st) f cdv A outer s H E0 → X.N.Nodup → Room k X.A → sp vs L Q E →
      GSs X (defBody st) (bodyD Q) (begun N vs) L) : FnOk P w K mg base CX0 (k + 1) f fd ps (toSp sp) := by
  refine F.ok S (fun vs H Q E ⟨L, Ql, El, _, h, _⟩ => len vs L Ql El h) (fun cdv A outer s H vs Q E hr ⟨L, Ql, El, hH, h, hq, _⟩ => ?_)
  have hlv : vs.length ≤ N.length := by
    rw [len vs L Ql El h]
    exact hl
  refine ⟨WSs _ (defBody st), pss_W, ?_⟩
  have z := body _ f cdv A outer s H E L vs Ql El rfl S.nd hr h (by rw [(names_begun hlv).1] <;> rfl) H hH
  rw [(names_begun hlv).2] at z
  refine z.mono (fun σ H' hh => ?_) (fun v H' hh => ?_) (fun _ _ hh => ?_) (fun _ _ hh => ?_)
  · obtain ⟨θ, M, _, _, h', M', sb, q⟩ := hh
    exact hq _ M' H' (sb _ h') q
  · obtain ⟨M, h', M', sb, q⟩ := hh
    exact hq _ M' H' (sb _ h') q
  · obtain ⟨_, _, _, _, _, q⟩ := hh
    exact q.elim
  · obtain ⟨_, _, _, _, _, q⟩ := hh
    exact q.elim
end
end G
/-! ### 11. The walk as tactics -/
local macro_rules | `(tactic| walk_at "g_at") => `(tactic| first | with_reducible exact G.At.here | (with_reducible apply G.At.there; walk_at "g_at"))
local macro_rules | `(tactic| walk_at "g_put") => `(tactic| first | with_reducible exact G.PutF.here | (with_reducible apply G.PutF.there; walk_at "g_put"))
local macro_rules | `(tactic| walk_at "g_pv") => `(tactic| first | with_reducible exact G.Put.here | (with_reducible apply G.Put.there; walk_at "g_pv"))
local macro_rules | `(tactic| walk_at "g_mem") => `(tactic| first | with_reducible exact G.mem0 | with_reducible assumption | (with_reducible apply G.memS; walk_at "g_mem"))
local macro_rules | `(tactic| walk_at "g_memd") => `(tactic| first | exact G.mem0 | (apply G.memS; walk_at "g_memd"))
local macro_rules | `(tactic| walk_at "g_swap") => `(tactic| first | with_reducible exact G.Swap.here | with_reducible assumption | (with_reducible apply G.Swap.there; walk_at "g_swap"))
/-- one step at an expression -/
local macro_rules | `(tactic| walk_at "g_e") => `(tactic| first
  | ((with_reducible show G.GE _ (PySem.Expr.Name _ _) _ _ _); first
    | refine G.ge_var (by walk_at "g_at") ?_
    | ((with_reducible show G.GE _ (PySem.Expr.Name "int" _) _ _ _); refine G.gv_int (by assumption) ?_)
    | ((with_reducible show G.GE _ (PySem.Expr.Name "bool" _) _ _ _); refine G.gv_bool (by assumption) ?_)
    | ((with_reducible show G.GE _ (PySem.Expr.Name "tuple" _) _ _ _); refine G.gv_tuple (by assumption) ?_)
    | ((with_reducible show G.GE _ (PySem.Expr.Name "list" _) _ _ _); refine G.gv_list (by assumption) ?_)
    | ((with_reducible show G.GE _ (PySem.Expr.Name "str" _) _ _ _); refine G.gv_str (by assumption) ?_))
  | ((with_reducible show G.GE _ (PySem.Expr.Constant _ _ _) _ _ _); first
    | refine G.ge_int ?_
    | refine G.ge_bl ?_
    | refine G.ge_non ?_
    | refine G.ge_str ?_)
  | ((with_reducible show G.GE _ (PySem.Expr.BinOp _ _ _ _) _ _ _); refine G.ge_bin ?_)
  | ((with_reducible show G.GE _ (PySem.Expr.UnaryOp _ _ _) _ _ _); first | refine G.ge_not ?_ | refine G.ge_un ?_)
  | ((with_reducible show G.GE _ (PySem.Expr.Compare _ _ _ _) _ _ _); refine G.ge_cmp ?_)
  | ((with_reducible show G.GE _ (PySem.Expr.BoolOp _ _ _) _ _ _); first | refine G.ge_and ?_ | refine G.ge_or ?_ | refine G.ge_one ?_)
  | ((with_reducible show G.GE _ (PySem.Expr.IfExp _ _ _ _) _ _ _); refine G.ge_if ?_)
  | ((with_reducible show G.GE _ (PySem.Expr.Tuple _ _ _) _ _ _); refine G.ge_tup ?_)
  | ((with_reducible show G.GE _ (PySem.Expr.List _ _) _ _ _); refine G.ge_lst ?_)
  | ((with_reducible show G.GE _ (PySem.Expr.Subscript _ _ _) _ _ _); first | refine G.ge_sliceL ?_ | refine G.ge_ix ?_)
  | ((with_reducible show G.GE _ (PySem.Expr.Call (PySem.Expr.Attribute _ "append" _) _ _ _) _ _ _); refine G.ge_append ?_)
  | ((with_reducible show G.GE _ (PySem.Expr.Call (PySem.Expr.Name "len" _) _ _ _) _ _ _); refine G.gb_len (by assumption) ?_)
  | ((with_reducible show G.GE _ (PySem.Expr.Call (PySem.Expr.Name "abs" _) _ _ _) _ _ _); refine G.gb_abs (by assumption) ?_)
  | ((with_reducible show G.GE _ (PySem.Expr.Call (PySem.Expr.Name "min" _) _ _ _) _ _ _); refine G.gb_min (by assumption) ?_)
  | ((with_reducible show G.GE _ (PySem.Expr.Call (PySem.Expr.Name "isinstance" _) _ _ _) _ _ _); refine G.gb_isinstance (by assumption) ?_)
  | ((with_reducible show G.GE _ (PySem.Expr.Call (PySem.Expr.Name "int" _) _ _ _) _ _ _); refine G.gb_int (by assumption) ?_)
  | ((with_reducible show G.GE _ (PySem.Expr.Call (PySem.Expr.Name "list" _) _ _ _) _ _ _); refine G.gb_list (by assumption) ?_)
  | ((with_reducible show G.GE _ (PySem.Expr.Call (PySem.Expr.Name "tuple" _) _ _ _) _ _ _); refine G.gb_tuple (by assumption) ?_)
  | ((with_reducible show G.GE _ (PySem.Expr.Call (PySem.Expr.Name "bool" _) _ _ _) _ _ _); refine G.gb_bool (by assumption) ?_)
  | ((with_reducible show G.GE _ (PySem.Expr.Call (PySem.Expr.Name "str" _) _ _ _) _ _ _); refine G.gb_str (by assumption) ?_))
local macro_rules | `(tactic| walk_at "g_t") => `(tactic| first
  | ((with_reducible show G.GT _ (PySem.Expr.Compare _ _ _ _) _ _ _); refine G.gt_cmp ?_)
  | ((with_reducible show G.GT _ (PySem.Expr.UnaryOp _ _ _) _ _ _); refine G.gt_not ?_)
  | ((with_reducible show G.GT _ (PySem.Expr.BoolOp _ _ _) _ _ _); refine G.gt_w ?_)
  | ((with_reducible show G.GW _ _ _ _ _); first | refine G.gw_and ?_ | refine G.gw_and1 ?_ | refine G.gw_or ?_ | refine G.gw_or1 ?_)
  | refine G.gt_val ?_)
local macro_rules | `(tactic| walk_at "g_o") => `(tactic| first
  | with_reducible refine G.go_add ?_
  | with_reducible refine G.gu_neg ?_
  | with_reducible refine G.go_sub ?_
  | with_reducible refine G.go_lt ?_
  | with_reducible refine G.go_le ?_
  | with_reducible refine G.go_gt ?_
  | with_reducible refine G.go_ge ?_
  | with_reducible refine G.go_eq ?_
  | with_reducible refine G.go_ne ?_
  | with_reducible refine G.isN_int ?_
  | with_reducible refine G.isN_ref ?_
  | with_reducible refine G.isN_non ?_
  | with_reducible refine G.notN_int ?_
  | with_reducible refine G.notN_ref ?_
  | with_reducible refine G.notN_non ?_
  | with_reducible refine G.gc_int ?_
  | with_reducible refine G.gc_intB ?_
  | with_reducible refine G.gc_abs ?_
  | with_reducible refine G.gc_lenL (by walk_at "g_mem") ?_
  | with_reducible refine G.gc_lenT (by walk_at "g_mem") ?_
  | ((with_reducible show G.GIx _ _ _ _ _); first | refine G.gi_lst (by walk_at "g_mem") (by rfl) ?_ | refine G.gi_tup (by walk_at "g_mem") (by rfl) ?_)
  | ((with_reducible show G.GSt _ _ _ _ _ _); first | refine G.gst_30 (by walk_at "g_mem") (by walk_at "g_swap") ?_ | refine G.gst_31 (by walk_at "g_mem") (by walk_at "g_swap") ?_ | refine G.gst_32 (by walk_at "g_mem") (by walk_at "g_swap") ?_)
  | with_reducible refine G.gp_add ?_
  | with_reducible refine G.gp_sub ?_
  | refine G.gc_min2 rfl ?_)
local macro_rules | `(tactic| walk_at "g_s") => `(tactic| first
  | ((with_reducible show G.GS _ (PySem.Stmt.Assign _ _ _) _ _ _); first
    | refine G.gs_set (by walk_at "g_put") ?_
    | refine G.gs_par (by walk_at "g_put") (fun _ => by walk_at "g_put") ?_
    | refine G.gs_par3 (by walk_at "g_put") (fun _ => by walk_at "g_put") (fun _ _ => by walk_at "g_put") ?_
    | refine G.gs_asg ?_)
  | ((with_reducible show G.GS _ (PySem.Stmt.AugAssign _ _ _ _) _ _ _); refine G.gs_aug (by walk_at "g_at") (by walk_at "g_put") ?_)
  | ((with_reducible show G.GS _ (PySem.Stmt.Return _ _) _ _ _); first | refine G.gs_ret ?_ | refine G.gs_retN ?_)
  | ((with_reducible show G.GS _ (PySem.Stmt.Expr _ _) _ _ _); refine G.gs_expr ?_)
  | ((with_reducible show G.GS _ (PySem.Stmt.Pass _) _ _ _); refine G.gs_pass ?_)
  | ((with_reducible show G.GS _ (PySem.Stmt.Break _) _ _ _); refine G.gs_break ?_)
  | ((with_reducible show G.GS _ (PySem.Stmt.Continue _) _ _ _); refine G.gs_continue ?_))
local macro_rules | `(tactic| walk_at "g_g") => `(tactic| first
  | refine G.gg_name (by walk_at "g_pv") ?_
  | refine G.gg_tup (by walk_at "g_mem") ?_
  | refine G.gg_sub ?_)
local macro_rules | `(tactic| walk_at "g_i") => `(tactic| first
  | with_reducible refine G.ite_t ?_
  | with_reducible refine G.ite_f ?_
  | with_reducible refine G.ite_nt ?_
  | with_reducible refine G.ite_nf ?_
  | ((with_reducible show ∃ _, _ = _ ∧ _); with_reducible refine ⟨_, rfl, ?_⟩)
  | ((with_reducible show ∃ _ _, _ = _ ∧ _); with_reducible refine ⟨_, _, rfl, ?_⟩)
  | ((with_reducible show ∃ _ _ _, _ = _ ∧ _); with_reducible refine ⟨_, _, _, rfl, ?_⟩)
  | ((with_reducible show ∃ _ _, _ = _ ∧ _ ∈ _ ∧ _); refine ⟨_, _, rfl, (by walk_at "g_mem"), ?_⟩)
  | ((with_reducible show ∃ _ _, _ ∈ _ ∧ _ < _ ∧ _); refine ⟨_, _, (by walk_at "g_mem"), (by exact G.sz_lt (by simp only [List.length_cons, List.length_nil]; omega)), (by walk_at "g_swap"), ?_⟩)
  | ((with_reducible show _ ∧ _); refine ⟨(by walk_at "g_size"), fun p => ?_⟩))
local macro_rules | `(tactic| walk_at "g_sub") => `(tactic| first | with_reducible exact G.Sub.refl | (refine G.Sub.trans ?_ G.Sub.drop; walk_at "g_sub"))
local macro_rules | `(tactic| walk_at "g_subl") => `(tactic| first | with_reducible exact List.Sublist.refl _ | with_reducible apply List.Sublist.cons_cons | with_reducible apply List.Sublist.cons)
local macro_rules | `(tactic| walk_at "g_end") => `(tactic| (refine G.Sub.sublist ?_; repeat (first | with_reducible exact List.Sublist.refl _ | with_reducible apply List.Sublist.cons_cons | with_reducible apply List.Sublist.cons)))
local macro_rules | `(tactic| walk_at "g_br") => `(tactic| first | with_reducible exact G.br0 | with_reducible exact G.br1 | with_reducible exact G.br2 | with_reducible exact G.br3 | with_reducible exact G.br4 | with_reducible exact G.br5 | with_reducible exact G.br6)
local macro_rules | `(tactic| walk_at "g_len") => `(tactic| (intro vs L Q E h; repeat (first | (obtain ⟨e, _⟩ := h; subst e; rfl) | (obtain ⟨_, h⟩ := h))))
local macro_rules | `(tactic| walk_at "g_size") => `(tactic| first | exact G.sz1 | exact G.sz2 | exact G.sz3 | exact G.sz_le (n := 0) (by decide) | exact G.sz_le (n := 4) (by decide) | exact G.sz_le (n := 5) (by decide) | exact G.sz_le (n := 6) (by decide) | exact G.sz_le (n := 7) (by decide) | exact G.sz_le (n := 8) (by decide) | exact G.sz_le (by first | decide | omega | (simp only [List.length_cons, List.length_nil]; omega)))
/-- all steps but a test's -/
local macro_rules | `(tactic| walk_at "gx1") => `(tactic| first
  | with_reducible refine G.gss_cons ?_
  | with_reducible refine G.gss_nil ?_
  | ((with_reducible show G.GA _ _ _ _ _); first | refine G.ga_cons ?_ | refine G.ga_nil ?_)
  | ((with_reducible show G.GE _ _ _ _ _); walk_at "g_e")
  | ((with_reducible show G.GT _ _ _ _ _); walk_at "g_t")
  | ((with_reducible show G.GW _ _ _ _ _); walk_at "g_t")
  | ((with_reducible show G.GS _ _ _ _ _); walk_at "g_s")
  | ((with_reducible show G.GG _ _ _ _ _ _); walk_at "g_g")
  | ((with_reducible show G.GGs _ _ _ _ _ _); first | refine G.ggs_cons ?_ | refine G.ggs_nil ?_)
  | walk_at "g_o"
  | walk_at "g_i")
local macro_rules | `(tactic| walk_at "g1") => `(tactic| first
  | ((with_reducible show G.GS _ (PySem.Stmt.If _ _ _ _) _ _ _); refine G.gs_if ?_)
  | walk_at "gx1")
local macro_rules | `(tactic| walk_at "g") => `(tactic| repeat (walk_at "g1"; try dsimp only [G.bodyD]))
local macro_rules | `(tactic| walk_at "gx") => `(tactic| repeat (walk_at "gx1"; try dsimp only [G.bodyD]))
namespace T
open PySem PySem.Spec PyProof.Rows L2 G
def top (i : Nat) : Stmt := PySem.Challenge.pw_wheelreach_k04_whole_great_numbers.main.body.getD i (.Pass ⟨0, 0, 0, 0⟩)
abbrev s_is_whole : Stmt := top 4
abbrev N_is_whole : List Str := ["value"]
theorem sc_is_whole : FnScope N_is_whole ["value"] (defScope s_is_whole) := ⟨rfl, rfl, rfl, by decide +kernel, rfl, by decide +kernel, by decide +kernel⟩
abbrev s_need_whole : Stmt := top 5
abbrev N_need_whole : List Str := ["value"]
theorem sc_need_whole : FnScope N_need_whole ["value"] (defScope s_need_whole) := ⟨rfl, rfl, rfl, by decide +kernel, rfl, by decide +kernel, by decide +kernel⟩
abbrev s_need_above : Stmt := top 6
abbrev N_need_above : List Str := ["value"]
theorem sc_need_above : FnScope N_need_above ["value"] (defScope s_need_above) := ⟨rfl, rfl, rfl, by decide +kernel, rfl, by decide +kernel, by decide +kernel⟩
abbrev s_divisor_of : Stmt := top 7
abbrev N_divisor_of : List Str := ["one", "other"]
theorem sc_divisor_of : FnScope N_divisor_of ["one", "other"] (defScope s_divisor_of) := ⟨rfl, rfl, rfl, by decide +kernel, rfl, by decide +kernel, by decide +kernel⟩
abbrev s_common : Stmt := top 8
abbrev N_common : List Str := ["numbers", "number", "found"]
theorem sc_common : FnScope N_common ["numbers"] (defScope s_common) := ⟨rfl, rfl, rfl, by decide +kernel, rfl, by decide +kernel, by decide +kernel⟩
abbrev s_multiple : Stmt := top 9
abbrev N_multiple : List Str := ["numbers", "number", "found"]
theorem sc_multiple : FnScope N_multiple ["numbers"] (defScope s_multiple) := ⟨rfl, rfl, rfl, by decide +kernel, rfl, by decide +kernel, by decide +kernel⟩
abbrev s_apart : Stmt := top 10
abbrev N_apart : List Str := ["d", "period", "gap"]
theorem sc_apart : FnScope N_apart ["d", "period"] (defScope s_apart) := ⟨rfl, rfl, rfl, by decide +kernel, rfl, by decide +kernel, by decide +kernel⟩
abbrev s_inverse_of : Stmt := top 11
abbrev N_inverse_of : List Str := ["number", "modulus", "one", "other", "first", "second", "times"]
theorem sc_inverse_of : FnScope N_inverse_of ["number", "modulus"] (defScope s_inverse_of) := ⟨rfl, rfl, rfl, by decide +kernel, rfl, by decide +kernel, by decide +kernel⟩
abbrev s_need_part : Stmt := top 12
abbrev N_need_part : List Str := ["part"]
theorem sc_need_part : FnScope N_need_part ["part"] (defScope s_need_part) := ⟨rfl, rfl, rfl, by decide +kernel, rfl, by decide +kernel, by decide +kernel⟩
abbrev s_together : Stmt := top 13
abbrev N_together : List Str := ["parts", "part", "found", "step", "remainder", "divisor", "shared", "gap", "turns"]
theorem sc_together : FnScope N_together ["parts"] (defScope s_together) := ⟨rfl, rfl, rfl, by decide +kernel, rfl, by decide +kernel, by decide +kernel⟩
abbrev s_law_pen : Stmt := top 15
abbrev N_law_pen : List Str := ["_law_script"]
theorem sc_law_pen : FnScope N_law_pen ["_law_script"] (defScope s_law_pen) := ⟨rfl, rfl, rfl, by decide +kernel, rfl, by decide +kernel, by decide +kernel⟩
abbrev s_law_draw : Stmt := top 16
abbrev N_law_draw : List Str := ["_law_pen_here", "_law_many", "_law_digit", "_law_begun", "_law_raw", "_law_great_here", "_law_stirred"]
theorem sc_law_draw : FnScope N_law_draw ["_law_pen_here", "_law_many"] (defScope s_law_draw) := ⟨rfl, rfl, rfl, by decide +kernel, rfl, by decide +kernel, by decide +kernel⟩
abbrev s_law_pick : Stmt := top 17
abbrev N_law_pick : List Str := ["_law_pen_here", "_law_some"]
theorem sc_law_pick : FnScope N_law_pick ["_law_pen_here", "_law_some"] (defScope s_law_pick) := ⟨rfl, rfl, rfl, by decide +kernel, rfl, by decide +kernel, by decide +kernel⟩
abbrev s_law_great : Stmt := top 18
abbrev N_law_great : List Str := ["_law_pen_here", "_law_found", "_law_turn"]
theorem sc_law_great : FnScope N_law_great ["_law_pen_here"] (defScope s_law_great) := ⟨rfl, rfl, rfl, by decide +kernel, rfl, by decide +kernel, by decide +kernel⟩
abbrev s_law_remainders_right : Stmt := top 19
abbrev N_law_remainders_right : List Str := ["_law_pen_here", "_law_whole", "_law_one", "_law_two", "_law_three", "_law_round_so", "_law_parts", "_law_found", "_law_bent", "_law_shared"]
theorem sc_law_remainders_right : FnScope N_law_remainders_right ["_law_pen_here"] (defScope s_law_remainders_right) := ⟨rfl, rfl, rfl, by decide +kernel, rfl, by decide +kernel, by decide +kernel⟩
abbrev s_law_divisors_right : Stmt := top 20
abbrev N_law_divisors_right : List Str := ["_law_pen_here", "_law_one", "_law_two", "_law_three"]
theorem sc_law_divisors_right : FnScope N_law_divisors_right ["_law_pen_here"] (defScope s_law_divisors_right) := ⟨rfl, rfl, rfl, by decide +kernel, rfl, by decide +kernel, by decide +kernel⟩
abbrev s_law_apart_right : Stmt := top 21
abbrev N_law_apart_right : List Str := ["_law_pen_here", "_law_period", "_law_d", "_law_more", "_law_gap"]
theorem sc_law_apart_right : FnScope N_law_apart_right ["_law_pen_here"] (defScope s_law_apart_right) := ⟨rfl, rfl, rfl, by decide +kernel, rfl, by decide +kernel, by decide +kernel⟩
abbrev s_law : Stmt := top 22
abbrev N_law : List Str := ["_law_script", "_law_pen_here", "_law_turn"]
theorem sc_law : FnScope N_law ["_law_script"] (defScope s_law) := ⟨rfl, rfl, rfl, by decide +kernel, rfl, by decide +kernel, by decide +kernel⟩
/-! ### numbers.py, where nothing is refused -/
def spIsWhole : SpL := fun vs L Q _ => ∃ i : Int, vs = [.int i] ∧ Q (.bl true) L
def spNeedWhole : SpL := fun vs L Q _ => ∃ i : Int, vs = [.int i] ∧ Q .non L
def spNeedAbove : SpL := fun vs L Q _ => ∃ i : Int, vs = [.int i] ∧ 1 ≤ i ∧ Q .non L
def spDiv : SpL := fun vs L Q _ => ∃ a b : Nat, vs = [.int a, .int b] ∧ b < 2 ^ 9000 ∧ Q (.int (Nat.gcd a b : Nat)) L
def gcds (l : List Int) : Nat := l.foldl (fun a n => Nat.gcd a n.natAbs) 0
def lcms (l : List Int) : Nat := l.foldl (fun a n => Nat.lcm a n.natAbs) 1
def spCommon0 : SpL := fun vs L Q _ => ∃ p ns M, vs = [.ref p] ∧ L = (p, .tup (ns.map V.int)) :: M ∧ (∀ n ∈ ns, n.natAbs < 2 ^ 9000) ∧ Q (.int (gcds ns : Nat)) M
def spMultiple0 : SpL := fun vs L Q _ => ∃ p ns M, vs = [.ref p] ∧ L = (p, .tup (ns.map V.int)) :: M ∧ (∀ n ∈ ns, 1 ≤ n ∧ n.natAbs < 2 ^ 5000) ∧ ns.length ≤ 60 ∧ Q (.int (lcms ns : Nat)) M
def apartN (d p : Int) : Int := if p - d % p < d % p then p - d % p else d % p
def spApart : SpL := fun vs L Q _ => ∃ d p : Int, vs = [.int d, .int p] ∧ 1 ≤ p ∧ Q (.int (apartN d p)) L
section
variable {P : Program} {w : World} {K : PySem.W.Frag} {mg : Str → Option Value} {base : Heap}
theorem fn_is_whole (B : Bi mg) (F : Df K mg "is_whole" s_is_whole) : Fn P w K mg base CX0 "is_whole" 1 spIsWhole := by
  refine fn_plain F sc_is_whole (fun _ _ _ _ _ _ us hl => match us, hl with | [_], _ => rfl) (by decide) (by walk_at "g_len") ?_
  intro X f cdv A outer s H E0 L vs Q E hX nd hr h
  subst hX
  obtain ⟨i, rfl, q⟩ := h
  show GSs _ (defBody s_is_whole) (bodyD Q) [("value", some (.int i))] L
  refine gss_cons ?_
  walk_at "g"
  refine gc_isK .int kb_int_int ?_
  walk_at "g"
  refine gc_isK .int kb_int_bool ?_
  walk_at "g"
  exact ⟨_, Sub.refl, q⟩
theorem fn_need_whole (B : Bi mg) (F : Df K mg "need_whole" s_need_whole) (D1 : Fn P w K mg base CX0 "is_whole" 1 spIsWhole) : Fn P w K mg base CX0 "need_whole" 2 spNeedWhole := by
  refine fn_plain F sc_need_whole (fun _ _ _ _ _ _ us hl => match us, hl with | [_], _ => rfl) (by decide) (by walk_at "g_len") ?_
  intro X f cdv A outer s H E0 L vs Q E hX nd hr h
  subst hX
  obtain ⟨i, rfl, q⟩ := h
  show GSs _ (defBody s_need_whole) (bodyD Q) [("value", some (.int i))] L
  refine gss_cons ?_
  walk_at "g"
  refine ge_call (El := NoX) D1 hr passA ?_
  walk_at "g"
  refine ⟨i, rfl, ?_⟩
  walk_at "g"
  exact ⟨_, Sub.refl, q⟩
theorem fn_need_above (B : Bi mg) (F : Df K mg "need_above" s_need_above) (D1 : Fn P w K mg base CX0 "is_whole" 1 spIsWhole) : Fn P w K mg base CX0 "need_above" 2 spNeedAbove := by
  refine fn_plain F sc_need_above (fun _ _ _ _ _ _ us hl => match us, hl with | [_], _ => rfl) (by decide) (by walk_at "g_len") ?_
  intro X f cdv A outer s H E0 L vs Q E hX nd hr h
  subst hX
  obtain ⟨i, rfl, h1, q⟩ := h
  show GSs _ (defBody s_need_above) (bodyD Q) [("value", some (.int i))] L
  refine gss_cons ?_
  walk_at "g"
  refine ge_call (El := NoX) D1 hr passA ?_
  walk_at "g"
  refine ⟨i, rfl, ?_⟩
  walk_at "g"
  refine ite_d (fun z => absurd z (by omega)) (fun _ => ?_)
  walk_at "g"
  exact ⟨_, Sub.refl, q⟩
theorem fn_divisor_of (B : Bi mg) (F : Df K mg "divisor_of" s_divisor_of) : Fn P w K mg base CX0 "divisor_of" 1 spDiv := by
  refine fn_plain F sc_divisor_of (fun _ _ _ _ _ _ us hl => match us, hl with | [_, _], _ => rfl) (by decide) (by walk_at "g_len") ?_
  intro X f cdv A outer s H E0 L vs Q E hX nd hr h
  subst hX
  obtain ⟨a, b, rfl, hb, q⟩ := h
  show GSs _ (defBody s_divisor_of) (bodyD Q) [("one", some (.int a)), ("other", some (.int b))] L
  refine gss_cons ?_
  refine gs_while (fun m θ M => ∃ c d : Nat, θ = ([("one", some (.int c)), ("other", some (.int d))] : En) ∧ M = L ∧ Nat.gcd c d = Nat.gcd a b ∧ m = d) b ⟨a, b, rfl, rfl, rfl, rfl⟩ ?_
  rintro m θ M ⟨c, d, rfl, rfl, hg, rfl⟩
  walk_at "g"
  refine ite_n (fun hd => ?_) (fun hd => ?_)
  · walk_at "g"
    refine go_mod (by omega) ?_
    walk_at "g"
    refine ⟨c % m, Nat.mod_lt _ (by omega), m, c % m, ?_, rfl, ?_, rfl⟩
    · rw [Int.natCast_emod]
    · rw [← hg, Nat.gcd_comm m (c % m), ← Nat.gcd_rec, Nat.gcd_comm]
  · walk_at "g"
    have e : m = 0 := by omega
    subst e
    rw [← hg, Nat.gcd_zero_right] at q
    exact ⟨_, Sub.refl, q⟩
theorem getMapInt {ns : List Int} {i : Nat} {x : V} (h : (ns.map V.int)[i]? = some x) : ∃ n, ns[i]? = some n ∧ x = .int n := by
  rw [List.getElem?_map] at h
  cases e : ns[i]? with
  | none =>
    rw [e] at h
    cases h
  | some n =>
    rw [e] at h
    exact ⟨n, rfl, (Option.some.inj h).symm⟩
theorem takeMore {α : Type} {l : List α} {i : Nat} {x : α} (h : l[i]? = some x) : l.take (i + 1) = l.take i ++ [x] := by
  rw [List.take_succ, h] <;> rfl
theorem gcds_more {ns : List Int} {i : Nat} {n : Int} (h : ns[i]? = some n) : gcds (ns.take (i + 1)) = Nat.gcd (gcds (ns.take i)) n.natAbs := by
  unfold gcds
  rw [takeMore h, List.foldl_append]
  rfl
theorem lcms_more {ns : List Int} {i : Nat} {n : Int} (h : ns[i]? = some n) : lcms (ns.take (i + 1)) = Nat.lcm (lcms (ns.take i)) n.natAbs := by
  unfold lcms
  rw [takeMore h, List.foldl_append]
  rfl
theorem lcms_pos : ∀ {ns : List Int}, (∀ n ∈ ns, 1 ≤ n) → ∀ i, 0 < lcms (ns.take i) := by
  intro ns h i
  induction i with
  | zero => exact Nat.one_pos
  | succ i ih =>
    cases e : ns[i]? with
    | none =>
      have z : ns.take (i + 1) = ns.take i := by rw [List.take_succ, e] <;> simp
      rw [z]
      exact ih
    | some n =>
      rw [lcms_more e]
      have h1 := h n (List.mem_of_getElem? e)
      exact Nat.lcm_pos ih (by omega)
theorem lcms_lt {ns : List Int} (h : ∀ n ∈ ns, n.natAbs < 2 ^ 5000) : ∀ i, lcms (ns.take i) < 2 ^ (5000 * i + 1) := by
  intro i
  induction i with
  | zero => exact (by decide : 1 < 2 ^ 1)
  | succ i ih =>
    cases e : ns[i]? with
    | none =>
      have z : ns.take (i + 1) = ns.take i := by rw [List.take_succ, e] <;> simp
      rw [z]
      exact Nat.lt_of_lt_of_le ih (Nat.pow_le_pow_right (by decide) (by omega))
    | some n =>
      rw [lcms_more e]
      have h1 := h n (List.mem_of_getElem? e)
      have h2 : Nat.lcm (lcms (ns.take i)) n.natAbs ≤ lcms (ns.take i) * n.natAbs := Nat.div_le_self _ _
      have h3 : lcms (ns.take i) * n.natAbs < 2 ^ (5000 * i + 1) * 2 ^ 5000 := Nat.mul_lt_mul'' ih h1
      rw [← Nat.pow_add] at h3
      exact Nat.lt_of_le_of_lt h2 (Nat.lt_of_lt_of_le h3 (Nat.pow_le_pow_right (by decide) (by omega)))
theorem fn_common (B : Bi mg) (F : Df K mg "common" s_common) (D1 : Fn P w K mg base CX0 "need_whole" 2 spNeedWhole) (D2 : Fn P w K mg base CX0 "divisor_of" 1 spDiv) : Fn P w K mg base CX0 "common" 3 (spStar spCommon0) := by
  refine fn_starred F sc_common (fun _ _ _ _ _ _ => rfl) (fun _ _ _ _ _ _ _ _ => rfl) (by decide) (by walk_at "g_len") ?_
  intro X f cdv A outer s H E0 L vs Q E hX nd hr h
  subst hX
  obtain ⟨p, ns, M, rfl, rfl, hb, q⟩ := h
  show GSs _ (defBody s_common) (bodyD Q) [("numbers", some (.ref p)), ("number", none), ("found", none)] _
  refine gss_cons ?_
  refine gs_tuple ?_
  walk_at "g"
  refine ⟨p, ns.map V.int, fun i θ N => N = (p, .tup (ns.map V.int)) :: M ∧ ∃ u, θ = ([("numbers", some (.ref p)), ("number", u), ("found", none)] : En), rfl, fun i θ N _ ⟨e, _⟩ => by rw [e]; exact mem0, ⟨rfl, none, rfl⟩, ?_, ?_⟩
  · rintro i x θ N hi hx ⟨rfl, u, rfl⟩
    obtain ⟨n, hn, rfl⟩ := getMapInt hx
    refine gg_name (by walk_at "g_pv") ?_
    walk_at "g"
    refine ge_call (El := NoX) D1 hr passA ?_
    walk_at "g"
    refine ⟨n, rfl, ?_⟩
    walk_at "g"
    exact ⟨rfl, _, rfl⟩
  rintro θ N ⟨rfl, u, rfl⟩
  walk_at "g"
  refine gs_tuple ?_
  walk_at "g"
  refine ⟨p, ns.map V.int, fun i θ N => N = (p, .tup (ns.map V.int)) :: M ∧ ∃ u, θ = ([("numbers", some (.ref p)), ("number", u), ("found", some (.int (gcds (ns.take i) : Nat)))] : En), rfl, fun i θ N _ ⟨e, _⟩ => by rw [e]; exact mem0, ⟨rfl, u, rfl⟩, ?_, ?_⟩
  · rintro i x θ N hi hx ⟨rfl, u, rfl⟩
    obtain ⟨n, hn, rfl⟩ := getMapInt hx
    refine gg_name (by walk_at "g_pv") ?_
    walk_at "g"
    refine ge_call (El := NoX) D2 hr passA ?_
    walk_at "g"
    refine ⟨_, _, rfl, hb n (List.mem_of_getElem? hn), ?_⟩
    walk_at "g"
    refine ⟨rfl, some (.int n), ?_⟩
    rw [gcds_more hn]
  · rintro θ N ⟨rfl, u, rfl⟩
    walk_at "g"
    rw [List.length_map, List.take_length]
    exact ⟨_, Sub.drop, q⟩
theorem fn_multiple (B : Bi mg) (F : Df K mg "multiple" s_multiple) (D1 : Fn P w K mg base CX0 "need_above" 2 spNeedAbove) (D2 : Fn P w K mg base CX0 "divisor_of" 1 spDiv) : Fn P w K mg base CX0 "multiple" 3 (spStar spMultiple0) := by
  refine fn_starred F sc_multiple (fun _ _ _ _ _ _ => rfl) (fun _ _ _ _ _ _ _ _ => rfl) (by decide) (by walk_at "g_len") ?_
  intro X f cdv A outer s H E0 L vs Q E hX nd hr h
  subst hX
  obtain ⟨p, ns, M, rfl, rfl, hb, hl, q⟩ := h
  show GSs _ (defBody s_multiple) (bodyD Q) [("numbers", some (.ref p)), ("number", none), ("found", none)] _
  refine gss_cons ?_
  refine gs_tuple ?_
  walk_at "g"
  refine ⟨p, ns.map V.int, fun i θ N => N = (p, .tup (ns.map V.int)) :: M ∧ ∃ u, θ = ([("numbers", some (.ref p)), ("number", u), ("found", none)] : En), rfl, fun i θ N _ ⟨e, _⟩ => by rw [e]; exact mem0, ⟨rfl, none, rfl⟩, ?_, ?_⟩
  · rintro i x θ N hi hx ⟨rfl, u, rfl⟩
    obtain ⟨n, hn, rfl⟩ := getMapInt hx
    refine gg_name (by walk_at "g_pv") ?_
    walk_at "g"
    refine ge_call (El := NoX) D1 hr passA ?_
    walk_at "g"
    refine ⟨n, rfl, (hb n (List.mem_of_getElem? hn)).1, ?_⟩
    walk_at "g"
    exact ⟨rfl, _, rfl⟩
  rintro θ N ⟨rfl, u, rfl⟩
  walk_at "g"
  refine gs_tuple ?_
  walk_at "g"
  refine ⟨p, ns.map V.int, fun i θ N => N = (p, .tup (ns.map V.int)) :: M ∧ ∃ u, θ = ([("numbers", some (.ref p)), ("number", u), ("found", some (.int (lcms (ns.take i) : Nat)))] : En), rfl, fun i θ N _ ⟨e, _⟩ => by rw [e]; exact mem0, ⟨rfl, u, rfl⟩, ?_, ?_⟩
  · rintro i x θ N hi hx ⟨rfl, u, rfl⟩
    obtain ⟨n, hn, rfl⟩ := getMapInt hx
    rw [List.length_map] at hi
    obtain ⟨n1, n2⟩ := hb n (List.mem_of_getElem? hn)
    have hp := lcms_pos (fun n h => (hb n h).1) i
    have hlt := lcms_lt (fun n h => (hb n h).2) i
    have en : (n.natAbs : Int) = n := by omega
    have gp : 0 < Nat.gcd (lcms (ns.take i)) n.natAbs := Nat.gcd_pos_of_pos_left _ hp
    have gle : Nat.gcd (lcms (ns.take i)) n.natAbs ≤ n.natAbs := Nat.le_of_dvd (by omega) (Nat.gcd_dvd_right _ _)
    refine gg_name (by walk_at "g_pv") ?_
    walk_at "g"
    refine ge_call (El := NoX) D2 hr passA ?_
    walk_at "g"
    refine ⟨lcms (ns.take i), n.natAbs, by rw [en], Nat.lt_of_lt_of_le n2 (Nat.pow_le_pow_right (by decide) (by decide)), ?_⟩
    refine go_div (by omega) (Nat.lt_of_le_of_lt gle (Nat.lt_of_lt_of_le n2 (Nat.pow_le_pow_right (by decide) (by decide)))) ?_
    walk_at "g"
    refine go_mul (wide_mul (a := 5000 * 60 + 1) (b := 5000) ?_ n2 (by decide) (by decide) (by decide)) ?_
    · rw [← Int.natCast_ediv, Int.natAbs_natCast]
      exact Nat.lt_of_le_of_lt (Nat.div_le_self _ _) (Nat.lt_of_lt_of_le hlt (Nat.pow_le_pow_right (by decide) (by omega)))
    walk_at "g"
    refine ⟨rfl, some (.int n), ?_⟩
    have e2 : ((lcms (ns.take i) : Nat) : Int) / ((Nat.gcd (lcms (ns.take i)) n.natAbs : Nat) : Int) * n = ((lcms (ns.take (i + 1)) : Nat) : Int) := by
      rw [lcms_more hn, Nat.lcm]
      conv => lhs; rhs; rw [← en]
      rw [← Int.natCast_ediv, ← Int.natCast_mul]
      congr 1
      rw [Nat.div_mul_right_comm (Nat.gcd_dvd_left _ _)]
    rw [e2]
  · rintro θ N ⟨rfl, u, rfl⟩
    walk_at "g"
    rw [List.length_map, List.take_length]
    exact ⟨_, Sub.drop, q⟩
theorem fn_apart (B : Bi mg) (F : Df K mg "apart" s_apart) (D1 : Fn P w K mg base CX0 "need_whole" 2 spNeedWhole) (D2 : Fn P w K mg base CX0 "need_above" 2 spNeedAbove) : Fn P w K mg base CX0 "apart" 3 spApart := by
  refine fn_plain F sc_apart (fun _ _ _ _ _ _ us hl => match us, hl with | [_, _], _ => rfl) (by decide) (by walk_at "g_len") ?_
  intro X f cdv A outer s H E0 L vs Q E hX nd hr h
  subst hX
  obtain ⟨d, p, rfl, hp, q⟩ := h
  show GSs _ (defBody s_apart) (bodyD Q) [("d", some (.int d)), ("period", some (.int p)), ("gap", none)] L
  refine gss_cons ?_
  walk_at "g"
  refine ge_call (El := NoX) D1 hr passA ?_
  walk_at "g"
  refine ⟨d, rfl, ?_⟩
  walk_at "g"
  refine ge_call (El := NoX) D2 hr passA ?_
  walk_at "g"
  refine ⟨p, rfl, hp, ?_⟩
  walk_at "g"
  refine go_mod (by omega) ?_
  walk_at "g"
  exact ⟨_, Sub.refl, q⟩
end
/-! ### inverse_of, need_part, together -/
def spInv : SpL := fun vs L Q _ => ∃ a m : Nat, vs = [.int a, .int m] ∧ 1 ≤ m ∧ m < 2 ^ 8000 ∧ ∀ r : Nat, r < m → ((a * r : Nat) : Int) % m = ((Nat.gcd a m : Nat) : Int) % m → Q (.int (r : Nat)) L
def spNeedPart : SpL := fun vs L Q _ => ∃ p a b, vs = [.ref p] ∧ (p, HO.tup [.int a, .int b]) ∈ L ∧ 1 ≤ b ∧ Q .non L
/-- Euclid's turn: what is kept of the factors -/
structure InvAt (a m : Nat) (one other : Nat) (first second : Int) : Prop where
  g : Nat.gcd one other = Nat.gcd a m
  e1 : (m : Int) ∣ (a : Int) * first - one
  e2 : (m : Int) ∣ (a : Int) * second - other
  b : first.natAbs * other + second.natAbs * one ≤ m
  p : 1 ≤ one
  o : one ≤ m
  s : other ≤ m
theorem InvAt.start {a m : Nat} (h : 1 ≤ m) : InvAt a m m (a % m) 0 1 where
  g := by rw [Nat.gcd_comm, ← Nat.gcd_rec, Nat.gcd_comm]
  e1 := by rw [Int.mul_zero]; exact ⟨-1, by omega⟩
  e2 := by
    rw [Int.mul_one, Int.natCast_emod]
    exact Int.dvd_self_sub_emod
  b := by simp
  p := h
  o := Nat.le_refl _
  s := Nat.le_of_lt (Nat.mod_lt _ h)
theorem InvAt.turn {a m one other : Nat} {first second : Int} (i : InvAt a m one other first second) (h : 0 < other) : InvAt a m other (one % other) second (first - (one / other : Nat) * second) where
  g := by rw [← i.g, Nat.gcd_comm other, ← Nat.gcd_rec, Nat.gcd_comm]
  e1 := i.e2
  e2 := by
    obtain ⟨k, hk⟩ := i.e1
    obtain ⟨l, hl⟩ := i.e2
    refine ⟨k - (one / other : Nat) * l, ?_⟩
    have z : ((one % other : Nat) : Int) = (one : Int) - (one / other : Nat) * (other : Int) := by
      have := Nat.div_add_mod one other
      rw [Nat.mul_comm] at this
      omega
    rw [z, Int.mul_sub, Int.mul_sub, ← hk, Int.mul_left_comm (m : Int), ← hl, Int.mul_sub, Int.mul_left_comm (a : Int)]
    omega
  b := by
    have z := Nat.div_add_mod one other
    have h1 : (first - (one / other : Nat) * second).natAbs ≤ first.natAbs + (one / other) * second.natAbs := by
      have q := Int.natAbs_sub_le first (((one / other : Nat) : Int) * second)
      rw [Int.natAbs_mul, Int.natAbs_natCast] at q
      exact q
    have h2 : (first - (one / other : Nat) * second).natAbs * other ≤ (first.natAbs + (one / other) * second.natAbs) * other := Nat.mul_le_mul_right _ h1
    have h3 : second.natAbs * one = second.natAbs * (one % other) + (one / other) * second.natAbs * other := by
      conv => lhs; rw [← z]
      rw [Nat.mul_add, Nat.add_comm, Nat.mul_comm other, ← Nat.mul_assoc, Nat.mul_comm second.natAbs (one / other)]
    have h4 := i.b
    rw [Nat.add_mul] at h2
    omega
  p := h
  o := i.s
  s := Nat.le_trans (Nat.le_of_lt (Nat.mod_lt _ h)) i.s
theorem InvAt.done {a m one : Nat} {first second : Int} (i : InvAt a m one 0 first second) (hm : 1 ≤ m) : ∃ r : Nat, (r : Int) = first % m ∧ r < m ∧ ((a * r : Nat) : Int) % m = ((Nat.gcd a m : Nat) : Int) % m := by
  have n0 : 0 ≤ first % m := Int.emod_nonneg _ (by omega)
  have n1 : first % m < m := Int.emod_lt_of_pos _ (by omega)
  refine ⟨(first % m).toNat, by omega, by omega, ?_⟩
  have g := i.g
  rw [Nat.gcd_zero_right] at g
  rw [Int.natCast_mul, Int.toNat_of_nonneg n0, ← g]
  have e := i.e1
  rw [Int.mul_emod, Int.emod_emod_of_dvd _ (Int.dvd_refl _), ← Int.mul_emod]
  exact Int.emod_eq_emod_iff_emod_sub_eq_zero.mpr (Int.emod_eq_zero_of_dvd e)
section
variable {P : Program} {w : World} {K : PySem.W.Frag} {mg : Str → Option Value} {base : Heap}
theorem fn_inverse_of (B : Bi mg) (F : Df K mg "inverse_of" s_inverse_of) : Fn P w K mg base CX0 "inverse_of" 1 spInv := by
  refine fn_plain F sc_inverse_of (fun _ _ _ _ _ _ us hl => match us, hl with | [_, _], _ => rfl) (by decide) (by walk_at "g_len") ?_
  intro X f cdv A outer s H E0 L vs Q E hX nd hr h
  subst hX
  obtain ⟨a, m, rfl, hm, hb, q⟩ := h
  show GSs _ (defBody s_inverse_of) (bodyD Q) [("number", some (.int a)), ("modulus", some (.int m)), ("one", none), ("other", none), ("first", none), ("second", none), ("times", none)] L
  refine gss_cons ?_
  walk_at "g"
  refine go_mod (by omega) ?_
  walk_at "g"
  refine gs_while (fun n θ M => ∃ (c d : Nat) (x y : Int) (u : Option V), θ = ([("number", some (.int a)), ("modulus", some (.int m)), ("one", some (.int c)), ("other", some (.int d)), ("first", some (.int x)), ("second", some (.int y)), ("times", u)] : En) ∧ Sub L M ∧ InvAt a m c d x y ∧ n = d) (a % m) ⟨m, a % m, 0, 1, none, by rw [Int.natCast_emod], by walk_at "g_sub", InvAt.start hm, rfl⟩ ?_
  rintro n θ M ⟨c, d, x, y, u, rfl, hs, iv, rfl⟩
  walk_at "g"
  have big : (2 : Nat) ^ 8000 ≤ 2 ^ 9000 := Nat.pow_le_pow_right (by decide) (by decide)
  refine ite_d (fun hd => ?_) (fun hd => ?_)
  · have iv2 := iv.turn (by omega : 0 < n)
    have ny : y.natAbs ≤ m := Nat.le_trans (Nat.le_mul_of_pos_right _ iv.p) (Nat.le_trans (Nat.le_add_left _ _) iv.b)
    have hbb := iv2.b
    have sn : ∀ k : Nat, k ≤ m → ((k : Nat) : Int).natAbs < 2 ^ 8000 := fun k hk => by
      rw [Int.natAbs_natCast]
      exact Nat.lt_of_le_of_lt hk hb
    have ec : (c : Int) / (n : Int) = ((c / n : Nat) : Int) := (Int.natCast_ediv c n).symm
    have tm : c / n ≤ m := Nat.le_trans (Nat.div_le_self _ _) iv.o
    have sy : y.natAbs < 2 ^ 8000 := Nat.lt_of_le_of_lt ny hb
    walk_at "g"
    refine go_div (by omega) (Nat.lt_of_lt_of_le (sn n iv.s) big) ?_
    walk_at "g"
    rw [ec]
    refine go_mul (wide_mul (sn _ tm) (sn n iv.s) (by decide) (by decide) (by decide)) ?_
    walk_at "g"
    refine go_mul (wide_mul (sn _ tm) sy (by decide) (by decide) (by decide)) ?_
    walk_at "g"
    refine ⟨c % n, Nat.mod_lt _ (by omega), n, c % n, y, x - ((c / n : Nat) : Int) * y, some (.int ((c / n : Nat) : Int)), ?_, hs, iv2, rfl⟩
    have z : (c : Int) - ((c / n : Nat) : Int) * (n : Int) = ((c % n : Nat) : Int) := by
      have := Nat.div_add_mod c n
      rw [Nat.mul_comm] at this
      omega
    rw [z]
  · have e : n = 0 := by omega
    subst e
    walk_at "g"
    refine go_mod (by omega) ?_
    walk_at "g"
    obtain ⟨r, r1, r2, r3⟩ := iv.done hm
    rw [← r1]
    exact ⟨L, hs, q r r2 r3⟩
theorem fn_need_part (B : Bi mg) (F : Df K mg "need_part" s_need_part) (D1 : Fn P w K mg base CX0 "is_whole" 1 spIsWhole) : Fn P w K mg base CX0 "need_part" 2 spNeedPart := by
  refine fn_plain F sc_need_part (fun _ _ _ _ _ _ us hl => match us, hl with | [_], _ => rfl) (by decide) (by walk_at "g_len") ?_
  intro X f cdv A outer s H E0 L vs Q E hX nd hr h
  subst hX
  obtain ⟨p, a, b, rfl, hm, h1, q⟩ := h
  show GSs _ (defBody s_need_part) (bodyD Q) [("part", some (.ref p))] L
  refine gss_cons ?_
  walk_at "g"
  refine gc_isK (.tup hm) kb_tuple_tuple ?_
  walk_at "g"
  refine ite_n (fun z => absurd rfl z) (fun _ => ?_)
  walk_at "g"
  refine ge_call (El := NoX) D1 hr passA ?_
  walk_at "g"
  refine ⟨a, rfl, ?_⟩
  walk_at "g"
  refine ge_call (El := NoX) D1 hr passA ?_
  walk_at "g"
  refine ⟨b, rfl, ?_⟩
  walk_at "g"
  refine ite_d (fun z => absurd z (by omega)) (fun _ => ?_)
  walk_at "g"
  exact ⟨_, Sub.refl, q⟩
end
/-! ### what remainders come to together -/
/-- n leaves each remainder -/
def Leaves (l : List (Int × Int)) (n : Int) : Prop := ∀ e ∈ l, e.2 ∣ n - e.1
def mods (l : List (Int × Int)) : Nat := lcms (l.map (·.2))
inductive Tog (l : List (Int × Int)) : V → Prop
  | none (h : ∀ n, ¬ Leaves l n) : Tog l .non
  | some (f : Nat) (h : f < mods l) (e : Leaves l f) : Tog l (.int f)
theorem natDvd {a : Int} {b : Nat} (h : a ∣ (b : Int)) : a.natAbs ∣ b := by
  have z := Int.natAbs_dvd_natAbs.mpr h
  rw [Int.natAbs_natCast] at z
  exact z
theorem castDvd {a : Nat} {n : Int} : ((a : Nat) : Int) ∣ n ↔ a ∣ n.natAbs := by
  rw [← Int.natCast_dvd_natCast, Int.dvd_natAbs]
theorem lcms_dvd {ns : List Int} {n : Int} (h : ∀ d ∈ ns, d ∣ n) : ∀ i, ((lcms (ns.take i) : Nat) : Int) ∣ n := by
  intro i
  induction i with
  | zero => exact Int.one_dvd n
  | succ i ih =>
    cases e : ns[i]? with
    | none =>
      have z : ns.take (i + 1) = ns.take i := by rw [List.take_succ, e] <;> simp
      rw [z]
      exact ih
    | some d =>
      rw [lcms_more e]
      have h1 := h d (List.mem_of_getElem? e)
      have a : lcms (ns.take i) ∣ n.natAbs := castDvd.mp ih
      have b : d.natAbs ∣ n.natAbs := Int.natAbs_dvd_natAbs.mpr h1
      exact castDvd.mpr (Nat.lcm_dvd a b)
theorem lcms_dvd' {ns : List Int} {n : Int} (h : ∀ d ∈ ns, d ∣ n) : ((lcms ns : Nat) : Int) ∣ n := by
  have z := lcms_dvd h ns.length
  rw [List.take_length] at z
  exact z
theorem dvd_lcms {ns : List Int} {d : Int} (h : d ∈ ns) : d ∣ ((lcms ns : Nat) : Int) := by
  have key : ∀ i, ∀ d ∈ ns.take i, d ∣ ((lcms (ns.take i) : Nat) : Int) := by
    intro i
    induction i with
    | zero => intro d h; simp at h
    | succ i ih =>
      intro d h
      cases e : ns[i]? with
      | none =>
        have z : ns.take (i + 1) = ns.take i := by rw [List.take_succ, e] <;> simp
        rw [z] at h ⊢
        exact ih d h
      | some x =>
        rw [takeMore e] at h
        rw [lcms_more e]
        rcases List.mem_append.mp h with h | h
        · exact Int.dvd_trans (ih d h) (Int.natCast_dvd_natCast.mpr (Nat.dvd_lcm_left _ _))
        · obtain rfl : d = x := by simpa using h
          exact Int.dvd_trans (Int.dvd_natAbs.mpr (Int.dvd_refl d)) (Int.natCast_dvd_natCast.mpr (Nat.dvd_lcm_right _ _))
  have z := key ns.length d
  rw [List.take_length] at z
  exact z h
/-- one more pair -/
theorem tog_no {f s : Nat} {r : Int} {d : Nat} (hd : 0 < d) (h : ¬ (r - f) % d % (Nat.gcd s d : Nat) = 0) (n : Int) : ¬ ((s : Int) ∣ n - f ∧ (d : Int) ∣ n - r) := by
  rintro ⟨a, b⟩
  refine h ?_
  have ga : ((Nat.gcd s d : Nat) : Int) ∣ n - f := Int.dvd_trans (Int.natCast_dvd_natCast.mpr (Nat.gcd_dvd_left s d)) a
  have gb : ((Nat.gcd s d : Nat) : Int) ∣ n - r := Int.dvd_trans (Int.natCast_dvd_natCast.mpr (Nat.gcd_dvd_right s d)) b
  have gd : ((Nat.gcd s d : Nat) : Int) ∣ (d : Int) := Int.natCast_dvd_natCast.mpr (Nat.gcd_dvd_right s d)
  rw [Int.emod_emod_of_dvd _ gd]
  have e : r - (f : Int) = (n - f) - (n - r) := by omega
  rw [e]
  exact Int.emod_eq_zero_of_dvd (Int.dvd_sub ga gb)
structure TogTurn (f s : Nat) (r : Int) (d : Nat) (f' s' : Int) : Prop where
  hf : ∃ k : Nat, f' = (k : Int) ∧ k < Nat.lcm s d
  hs : s' = ((Nat.lcm s d : Nat) : Int)
  ha : (s : Int) ∣ f' - f
  hb : (d : Int) ∣ f' - r
theorem tog_yes {f s : Nat} {r : Int} {d inv : Nat} (hs : 0 < s) (hf : f < s) (hd : 0 < d) (h : (r - f) % d % (Nat.gcd s d : Nat) = 0)
    (hi : ((s / Nat.gcd s d * inv : Nat) : Int) % (d / Nat.gcd s d : Nat) = ((Nat.gcd (s / Nat.gcd s d) (d / Nat.gcd s d) : Nat) : Int) % (d / Nat.gcd s d : Nat)) :
    TogTurn f s r d ((f : Int) + s * ((r - f) % d / (Nat.gcd s d : Nat) * inv % (d / Nat.gcd s d : Nat))) (s * (d / Nat.gcd s d : Nat)) := by
  have gp : 0 < Nat.gcd s d := Nat.gcd_pos_of_pos_left _ hs
  obtain ⟨t, ht⟩ := Nat.gcd_dvd_right s d
  obtain ⟨u, hu⟩ := Nat.gcd_dvd_left s d
  generalize hg : Nat.gcd s d = g at *
  have e1 : d / g = t := by rw [ht, Nat.mul_div_cancel_left _ gp]
  have e2 : s / g = u := by rw [hu, Nat.mul_div_cancel_left _ gp]
  have tp : 0 < t := by
    rcases Nat.eq_zero_or_pos t with z | z
    · rw [z, Nat.mul_zero] at ht
      omega
    · exact z
  have co : Nat.gcd u t = 1 := by
    have z := Nat.gcd_mul_left g u t
    rw [← hu, ← ht, hg] at z
    exact Nat.eq_of_mul_eq_mul_left gp (by rw [← z, Nat.mul_one])
  rw [e1, e2, co] at hi
  rw [e1]
  have el : Nat.lcm s d = s * t := by
    rw [Nat.lcm, hg]
    conv => lhs; lhs; rhs; rw [ht]
    rw [Nat.mul_left_comm, Nat.mul_div_cancel_left _ gp]
  have q0 : 0 ≤ (r - f) % d / (g : Int) * inv % (t : Int) := Int.emod_nonneg _ (by omega)
  have q1 : (r - f) % d / (g : Int) * inv % (t : Int) < t := Int.emod_lt_of_pos _ (by omega)
  generalize hq : (r - f) % d / (g : Int) * inv % (t : Int) = q at *
  obtain ⟨k, rfl⟩ : ∃ k : Nat, q = (k : Int) := ⟨q.toNat, by omega⟩
  refine ⟨⟨f + s * k, by rw [Int.natCast_add, Int.natCast_mul], ?_⟩, ?_, ?_, ?_⟩
  · rw [el]
    have : s * k + s ≤ s * t := by
      rw [← Nat.mul_succ]
      exact Nat.mul_le_mul_left _ (by omega)
    omega
  · rw [el, Int.natCast_mul]
  · exact ⟨k, by omega⟩
  · -- modulo d = g t
    have a1 : ((g : Int)) ∣ (r - f) % d := Int.dvd_of_emod_eq_zero h
    obtain ⟨m, hm⟩ := a1
    have a2 : (r - f) % d / (g : Int) = m := by rw [hm, Int.mul_ediv_cancel_left _ (by omega)]
    rw [a2] at hq
    have a3 : (t : Int) ∣ (u : Int) * k - m := by
      have z1 : (t : Int) ∣ m * inv - k := by rw [← hq]; exact Int.dvd_self_sub_emod
      have z2 : (t : Int) ∣ (u : Int) * inv - 1 := by
        rw [Int.natCast_mul] at hi
        exact Int.dvd_of_emod_eq_zero (Int.emod_eq_emod_iff_emod_sub_eq_zero.mp hi)
      have e : (u : Int) * k - m = m * (u * inv - 1) - u * (m * inv - k) := by
        rw [Int.mul_sub, Int.mul_sub, Int.mul_left_comm (u : Int) m]
        omega
      rw [e]
      exact Int.dvd_sub (Int.dvd_trans z2 (Int.dvd_mul_left _ _)) (Int.dvd_trans z1 (Int.dvd_mul_left _ _))
    obtain ⟨v, hv⟩ := a3
    have a4 : (d : Int) ∣ (r - f) - (r - f) % d := Int.dvd_self_sub_emod
    have e : (f : Int) + s * k - r = d * v - ((r - f) - (r - f) % d) := by
      rw [hm]
      have s1 : (s : Int) * k = g * (u * k) := by rw [hu, Int.natCast_mul, Int.mul_assoc]
      have s2 : (d : Int) * v = g * (t * v) := by rw [ht, Int.natCast_mul, Int.mul_assoc]
      rw [s1, s2, ← hv, Int.mul_sub]
      omega
    rw [e]
    exact Int.dvd_sub (Int.dvd_mul_right _ _) a4
abbrev Pr := Addr × Int × Int
def prs (ps : List Pr) : List (Int × Int) := ps.map fun e => e.2
def spTogether0 : SpL := fun vs L Q _ => ∃ (t : Addr) (ps : List Pr) (M : Lg), vs = [.ref t] ∧ L = (t, .tup (ps.map fun e => V.ref e.1)) :: M ∧
  (∀ e ∈ ps, (e.1, HO.tup [.int e.2.1, .int e.2.2]) ∈ M ∧ 1 ≤ e.2.2 ∧ e.2.2.natAbs < 2 ^ 5000) ∧ ps.length ≤ 60 ∧ ∀ v, Tog (prs ps) v → Q v M
theorem getMap {α β : Type} {f : α → β} {l : List α} {i : Nat} {x : β} (h : (l.map f)[i]? = some x) : ∃ e, l[i]? = some e ∧ x = f e := by
  rw [List.getElem?_map] at h
  cases q : l[i]? with
  | none =>
    rw [q] at h
    cases h
  | some e =>
    rw [q] at h
    exact ⟨e, rfl, (Option.some.inj h).symm⟩
/-- behind i pairs -/
structure TogAt (l : List (Int × Int)) (i : Nat) (f s : Nat) : Prop where
  es : s = lcms ((l.map (·.2)).take i)
  lt : f < s
  ok : ∀ e ∈ l.take i, e.2 ∣ (f : Int) - e.1
theorem TogAt.all {l : List (Int × Int)} {i f s : Nat} (t : TogAt l i f s) {n : Int} (h : Leaves l n) : (s : Int) ∣ n - f := by
  rw [t.es, ← List.map_take]
  refine lcms_dvd' fun d hd => ?_
  obtain ⟨e, he, rfl⟩ := List.mem_map.mp hd
  have a := h e (List.mem_of_mem_take he)
  have b := t.ok e he
  have z : n - (f : Int) = (n - e.1) - (f - e.1) := by omega
  rw [z]
  exact Int.dvd_sub a b
section
variable {P : Program} {w : World} {K : PySem.W.Frag} {mg : Str → Option Value} {base : Heap}
theorem fn_together (B : Bi mg) (F : Df K mg "together" s_together) (D1 : Fn P w K mg base CX0 "need_part" 2 spNeedPart) (D2 : Fn P w K mg base CX0 "divisor_of" 1 spDiv) (D3 : Fn P w K mg base CX0 "inverse_of" 1 spInv) : Fn P w K mg base CX0 "together" 3 (spStar spTogether0) := by
  refine fn_starred F sc_together (fun _ _ _ _ _ _ => rfl) (fun _ _ _ _ _ _ _ _ => rfl) (by decide) (by walk_at "g_len") ?_
  intro X f cdv A outer s H E0 L vs Q E hX nd hr h
  subst hX
  obtain ⟨t, ps, M, rfl, rfl, hb, hl, q⟩ := h
  show GSs _ (defBody s_together) (bodyD Q) [("parts", some (.ref t)), ("part", none), ("found", none), ("step", none), ("remainder", none), ("divisor", none), ("shared", none), ("gap", none), ("turns", none)] _
  refine gss_cons ?_
  refine gs_tuple ?_
  walk_at "g"
  refine ⟨t, ps.map fun e => V.ref e.1, fun i θ N => N = (t, .tup (ps.map fun e => V.ref e.1)) :: M ∧ ∃ u, θ = ([("parts", some (.ref t)), ("part", u), ("found", none), ("step", none), ("remainder", none), ("divisor", none), ("shared", none), ("gap", none), ("turns", none)] : En), rfl, fun i θ N _ ⟨e, _⟩ => by rw [e]; exact mem0, ⟨rfl, none, rfl⟩, ?_, ?_⟩
  · rintro i x θ N hi hx ⟨rfl, u, rfl⟩
    obtain ⟨e, he, rfl⟩ := getMap hx
    obtain ⟨m1, m2, m3⟩ := hb e (List.mem_of_getElem? he)
    refine gg_name (by walk_at "g_pv") ?_
    walk_at "g"
    refine ge_call (El := NoX) D1 hr passA ?_
    walk_at "g"
    refine ⟨e.1, e.2.1, e.2.2, rfl, memS m1, m2, ?_⟩
    walk_at "g"
    exact ⟨rfl, _, rfl⟩
  rintro θ N ⟨rfl, u, rfl⟩
  walk_at "g"
  refine GS.sub Sub.drop (gs_tuple ?_)
  walk_at "g"
  refine ⟨t, ps.map fun e => V.ref e.1, fun i θ N => N = (t, .tup (ps.map fun e => V.ref e.1)) :: M ∧ ∃ (f s : Nat) (u0 u1 u2 u3 u4 u5 : Option V), θ = ([("parts", some (.ref t)), ("part", u0), ("found", some (.int f)), ("step", some (.int s)), ("remainder", u1), ("divisor", u2), ("shared", u3), ("gap", u4), ("turns", u5)] : En) ∧ TogAt (prs ps) i f s, rfl, fun i θ N _ ⟨e, _⟩ => by rw [e]; exact mem0, ⟨rfl, 0, 1, _, _, _, _, _, _, rfl, ⟨rfl, by decide, fun e he => by simp at he⟩⟩, ?_, ?_⟩
  · rintro i x θ N hi hx ⟨rfl, f0, s0, u0, u1, u2, u3, u4, u5, rfl, ta⟩
    obtain ⟨e, he, rfl⟩ := getMap hx
    rw [List.length_map] at hi
    obtain ⟨m1, m2, m3⟩ := hb e (List.mem_of_getElem? he)
    obtain ⟨a, r, d⟩ := e
    dsimp only at m1 m2 m3
    have m1' : (a, HO.tup [.int r, .int d]) ∈ (t, .tup (ps.map fun e => V.ref e.1)) :: M := memS m1
    obtain ⟨dn, rfl⟩ : ∃ dn : Nat, d = (dn : Int) := ⟨d.toNat, by omega⟩
    rw [Int.natAbs_natCast] at m3
    have dp : 0 < dn := by omega
    have sp0 : 0 < s0 := by
      rw [ta.es]
      refine lcms_pos (fun n hn => ?_) i
      obtain ⟨e, he2, rfl⟩ := List.mem_map.mp hn
      obtain ⟨z, hz, rfl⟩ := List.mem_map.mp he2
      exact (hb z hz).2.1
    have slt : s0 < 2 ^ (5000 * 60 + 1) := by
      rw [ta.es]
      refine Nat.lt_of_lt_of_le (lcms_lt (fun n hn => ?_) i) (Nat.pow_le_pow_right (by decide) (by omega))
      obtain ⟨e, he2, rfl⟩ := List.mem_map.mp hn
      obtain ⟨z, hz, rfl⟩ := List.mem_map.mp he2
      exact (hb z hz).2.2
    have gp : 0 < Nat.gcd s0 dn := Nat.gcd_pos_of_pos_left _ sp0
    have gle : Nat.gcd s0 dn ≤ dn := Nat.le_of_dvd dp (Nat.gcd_dvd_right _ _)
    have dlt : dn < 2 ^ 8000 := Nat.lt_of_lt_of_le m3 (Nat.pow_le_pow_right (by decide) (by decide))
    have glt : Nat.gcd s0 dn < 2 ^ 9000 := Nat.lt_of_le_of_lt gle (Nat.lt_of_lt_of_le dlt (Nat.pow_le_pow_right (by decide) (by decide)))
    have tlt : dn / Nat.gcd s0 dn < 2 ^ 8000 := Nat.lt_of_le_of_lt (Nat.div_le_self _ _) dlt
    have tp : 0 < dn / Nat.gcd s0 dn := Nat.div_pos gle gp
    walk_at "g"
    refine ge_call (El := NoX) D2 hr passA ?_
    walk_at "g"
    refine ⟨s0, dn, rfl, Nat.lt_of_lt_of_le dlt (Nat.pow_le_pow_right (by decide) (by decide)), ?_⟩
    walk_at "g"
    refine go_mod (by omega) ?_
    walk_at "g"
    refine go_mod (by omega) ?_
    walk_at "g"
    refine ite_n (fun hz => ?_) (fun hz => ?_)
    · walk_at "g"
      refine ⟨_, Sub.drop, q _ (.none fun n hn => ?_)⟩
      exact tog_no dp hz n ⟨ta.all hn, hn (r, (dn : Int)) (List.mem_of_getElem? (i := i) (by rw [prs, List.getElem?_map, he] <;> rfl))⟩
    walk_at "g"
    refine go_div (by omega) (by rw [Int.natAbs_natCast]; exact glt) ?_
    rw [← Int.natCast_ediv]
    walk_at "g"
    refine go_div (by omega) (by rw [Int.natAbs_natCast]; exact glt) ?_
    walk_at "g"
    refine ge_call (El := NoX) D3 hr passA ?_
    walk_at "g"
    refine go_div (by omega) (by rw [Int.natAbs_natCast]; exact glt) ?_
    rw [← Int.natCast_ediv]
    walk_at "g"
    refine ⟨s0 / Nat.gcd s0 dn, dn / Nat.gcd s0 dn, rfl, tp, tlt, fun inv i1 i2 => ?_⟩
    have tt := tog_yes (r := r) sp0 ta.lt dp hz i2
    have gap0 : 0 ≤ (r - (f0 : Int)) % (dn : Int) := Int.emod_nonneg _ (by omega)
    have gap1 : (r - (f0 : Int)) % (dn : Int) < dn := Int.emod_lt_of_pos _ (by omega)
    have w0 : 0 ≤ (r - (f0 : Int)) % (dn : Int) / ((Nat.gcd s0 dn : Nat) : Int) := Int.ediv_nonneg gap0 (by omega)
    have w1 : (r - (f0 : Int)) % (dn : Int) / ((Nat.gcd s0 dn : Nat) : Int) ≤ (r - (f0 : Int)) % (dn : Int) := Int.ediv_le_self _ gap0
    refine go_mul (wide_mul (a := 8000) (b := 8000) (by omega) (by omega) (by decide) (by decide) (by decide)) ?_
    walk_at "g"
    refine go_mod (by omega) ?_
    walk_at "g"
    have v0 : 0 ≤ (r - (f0 : Int)) % (dn : Int) / ((Nat.gcd s0 dn : Nat) : Int) * (inv : Int) % ((dn / Nat.gcd s0 dn : Nat) : Int) := Int.emod_nonneg _ (by omega)
    have v1 : (r - (f0 : Int)) % (dn : Int) / ((Nat.gcd s0 dn : Nat) : Int) * (inv : Int) % ((dn / Nat.gcd s0 dn : Nat) : Int) < ((dn / Nat.gcd s0 dn : Nat) : Int) := Int.emod_lt_of_pos _ (by omega)
    refine go_mul (wide_mul (a := 5000 * 60 + 1) (b := 8000) (by rw [Int.natAbs_natCast]; exact slt) (by omega) (by decide) (by decide) (by decide)) ?_
    walk_at "g"
    refine gp_mul (wide_mul (a := 5000 * 60 + 1) (b := 8000) (by rw [Int.natAbs_natCast]; exact slt) (by omega) (by decide) (by decide) (by decide)) ?_
    walk_at "g"
    obtain ⟨⟨k, k1, k2⟩, ts, t1, t2⟩ := tt
    rw [k1] at t1 t2
    rw [k1, ts]
    refine ⟨rfl, k, Nat.lcm s0 dn, _, _, _, _, _, _, rfl, ?_⟩
    have hgi : ((prs ps).map (·.2))[i]? = some (dn : Int) := by
      rw [List.getElem?_map, prs, List.getElem?_map, he] <;> rfl
    have hgp : (prs ps)[i]? = some (r, (dn : Int)) := by
      rw [prs, List.getElem?_map, he] <;> rfl
    refine ⟨?_, k2, fun e hm => ?_⟩
    · rw [lcms_more hgi, ← ta.es, Int.natAbs_natCast]
    · rw [takeMore hgp] at hm
      rcases List.mem_append.mp hm with hm | hm
      · have a1 := ta.ok e hm
        have a2 : e.2 ∣ ((s0 : Nat) : Int) := by
          rw [ta.es, ← List.map_take]
          exact dvd_lcms (List.mem_map.mpr ⟨e, hm, rfl⟩)
        have z : (k : Int) - e.1 = (k - f0) + (f0 - e.1) := by omega
        rw [z]
        exact Int.dvd_add (Int.dvd_trans a2 t1) a1
      · obtain rfl : e = (r, (dn : Int)) := by simpa using hm
        exact t2
  · rintro θ N ⟨rfl, f0, s0, u0, u1, u2, u3, u4, u5, rfl, ta⟩
    walk_at "g"
    refine ⟨_, Sub.drop, q _ (.some f0 ?_ ?_)⟩
    · have z := ta.lt
      rw [ta.es, List.length_map, List.take_of_length_le (by simp [prs])] at z
      exact z
    · have z := ta.ok
      rw [List.length_map, List.take_of_length_le (by simp [prs])] at z
      exact z
end
/-! ### the pen -/
abbrev penO (c : Addr) (n m : Int) : HO := .lst [.ref c, .int n, .int m]
abbrev celO (ns : List Int) : HO := .lst (ns.map V.int)
def spDraw : SpL := fun vs L Q _ => ∃ (p c : Addr) (ns : List Int) (n m many : Int) (R : Lg), vs = [.ref p, .int many] ∧ Sub ((p, penO c n m) :: (c, celO ns) :: R) L ∧ ns.length ≤ 63 ∧ 0 < many ∧ many < 2 ^ 64 ∧ 0 ≤ n ∧ n ≤ 100000 ∧ 0 ≤ m ∧
  ∀ d n' m', 0 ≤ d → d < many → 0 ≤ n' → n' ≤ n + 1 → 0 ≤ m' → Q (.int d) ((p, penO c n' m') :: (c, celO ns) :: R)
section
variable {P : Program} {w : World} {K : PySem.W.Frag} {mg : Str → Option Value} {base : Heap}
theorem cut63 {ns : List Int} : ∃ ms : List Int, ms.length ≤ 63 ∧ cutV (ns.map V.int) none (some 63) = ms.map V.int := by
  refine ⟨ns.take 63, by rw [List.length_take]; omega, ?_⟩
  unfold cutV
  have e1 : HT.sIx (ns.map V.int).length 0 none = 0 := rfl
  have e2 : HT.sIx (ns.map V.int).length (ns.map V.int).length (some 63) = min 63 (ns.map V.int).length := HT.sIx_nat _ _ 63
  rw [e1, e2, List.drop_zero, Nat.sub_zero, List.map_take, ← List.take_take, List.take_length]
theorem fn_law_pen (B : Bi mg) (F : Df K mg "_law_pen" s_law_pen) : Fn P w K mg base CX0 "_law_pen" 1 (fun vs L Q _ => ∃ (a : Addr) (ns : List Int), vs = [.ref a] ∧ InL K L a (ns.map V.int) ∧ ∀ p c ms, ms.length ≤ 63 → Q (.ref p) ((p, penO c 0 0) :: (c, celO ms) :: L)) := by
  refine fn_plain F sc_law_pen (fun _ _ _ _ _ _ us hl => match us, hl with | [_], _ => rfl) (by decide) (by walk_at "g_len") ?_
  intro X f cdv A outer s H E0 L vs Q E hX nd hr h
  subst hX
  obtain ⟨a, ns, rfl, hi, q⟩ := h
  show GSs _ (defBody s_law_pen) (bodyD Q) [("_law_script", some (.ref a))] L
  refine gss_cons ?_
  walk_at "g"
  refine ⟨a, ns.map V.int, rfl, ?_⟩
  show GE _ _ _ _ _
  walk_at "g"
  refine ⟨hi, fun q1 => ?_⟩
  obtain ⟨ms, hm, em⟩ := cut63 (ns := ns)
  rw [em]
  walk_at "g"
  refine gc_list mem0 fun c => ?_
  walk_at "g"

  exact ⟨_, Sub.sublist (((List.sublist_cons_self _ _).cons_cons _).cons_cons _), q _ c ms hm⟩
theorem fn_law_draw (B : Bi mg) (F : Df K mg "_law_draw" s_law_draw) : Fn P w K mg base CX0 "_law_draw" 1 spDraw := by
  refine fn_plain F sc_law_draw (fun _ _ _ _ _ _ us hl => match us, hl with | [_, _], _ => rfl) (by decide) (by walk_at "g_len") ?_
  intro X f cdv A outer s H E0 L vs Q E hX nd hr h
  subst hX
  obtain ⟨p, c, ns, n, m, many, R, rfl, sb, h63, k1, k2, n0, n1, m0, q⟩ := h
  refine GSs.sub sb ?_
  show GSs _ (defBody s_law_draw) (bodyD Q) [("_law_pen_here", some (.ref p)), ("_law_many", some (.int many)), ("_law_digit", none), ("_law_begun", none), ("_law_raw", none), ("_law_great_here", none), ("_law_stirred", none)] _
  refine gss_cons ?_
  walk_at "g"
  refine ite_d (fun hm => ?_) (fun hm => ?_)
  · walk_at "g"
    refine go_modR k1 fun d d0 d1 => ?_
    walk_at "g"
    refine go_divS k1 k2 ?_
    walk_at "g"
    exact ⟨_, Sub.refl, q d n (m / many) d0 d1 n0 (by omega) (Int.ediv_nonneg m0 (by omega))⟩
  walk_at "g"
  refine go_mulS (.inl (by decide)) ?_
  walk_at "gx"
  refine GS.cut (fun θ M => ∃ r : Int, θ = ([("_law_pen_here", some (.ref p)), ("_law_many", some (.int many)), ("_law_digit", none), ("_law_begun", some (.int n)), ("_law_raw", some (.int r)), ("_law_great_here", none), ("_law_stirred", none)] : En) ∧ Sub ((p, penO c (n + 1) m) :: (c, celO ns) :: R) M) ?_ ?_
  · walk_at "g"
    refine go_neD (d := .list (ns.map PyData.int)) (e := .list ([].map PyData.int)) hr (dl_lst (by walk_at "g_mem") dls_ints) (dl_lst (by walk_at "g_mem") dls_nil) (shapedL _) (shapedL _) ?_
    rw [eqvL]
    walk_at "g"
    refine ite_n (fun hz => ?_) (fun hz => ?_)
    · walk_at "g"
      have hp : 0 < (ns.length : Int) := by
        cases ns with
        | nil => exact absurd rfl hz
        | cons a r => rw [List.length_cons]; omega
      rw [List.length_map]
      refine go_modR hp fun d d0 d1 => ?_
      obtain ⟨k, rfl⟩ : ∃ k : Nat, d = (k : Int) := ⟨d.toNat, by omega⟩
      have hk : k < ns.length := by omega
      refine gi_lst (by walk_at "g_mem") (atI_nat (v := .int ns[k]) (by rw [List.getElem?_map, List.getElem?_eq_getElem hk] <;> rfl)) ?_
      walk_at "g"
      walk_at "g_sub"
    · walk_at "g"
      walk_at "g_sub"
  rintro θ M ⟨raw, rfl, hs⟩
  refine GSs.sub hs ?_
  walk_at "gx"
  refine gs_if (GT.imp (Q := fun k M => M = (p, penO c (n + 1) m) :: (c, celO ns) :: R ∧ (k = true → 1000000000000000000 ≤ (raw.natAbs : Int))) ?_ ?_)
  · walk_at "g"
    refine ite_d (fun _ => ?_) (fun _ => ⟨rfl, fun z => nomatch z⟩)
    walk_at "g"
    refine go_powL (r := 1000000000000000000) ⟨by decide, by decide, by decide⟩ (by decide) ?_
    walk_at "g"
    exact ⟨rfl, fun z => of_decide_eq_true z⟩
  rintro k M ⟨rfl, hk⟩
  refine ite_b (fun e => ?_) (fun e => ?_)
  · have hr1 := hk e
    walk_at "g"
    refine go_powL (r := 1000000000000000000) ⟨by decide, by decide, by decide⟩ (by decide) ?_
    walk_at "g"
    refine go_mulS (.inl (by decide)) ?_
    walk_at "g"
    have g0 : 0 ≤ 2 * ((raw.natAbs : Int) - 1000000000000000000) + (if (decide (raw < 0)) = true then 1 else 0) := by split <;> omega
    refine go_divS k1 k2 ?_
    walk_at "g"
    refine go_modR k1 fun d d0 d1 => ?_
    walk_at "g"
    exact ⟨_, Sub.refl, q d (n + 1) _ d0 d1 (by omega) (by omega) (Int.ediv_nonneg g0 (by omega))⟩
  walk_at "g"
  refine go_modR (by decide) fun a a0 a1 => ?_
  walk_at "g"
  refine go_mulS (.inl (by decide)) ?_
  walk_at "g"
  refine go_powR ⟨by decide, by decide, by omega⟩ fun b => ?_
  walk_at "g"
  refine go_modR (by decide) fun s s0 s1 => ?_
  walk_at "g"
  refine go_mulS (.inl (by decide)) ?_
  walk_at "g"
  have b1 := bnd (t := 2 * n + 605) (B := 300000) s0 (Int.le_of_lt s1) (by omega) (by omega)
  refine go_mulS (.inl (by omega)) ?_
  walk_at "g"
  refine go_mulS (.inl (by decide)) ?_
  walk_at "g"
  have b2 := bnd (s := 40701 * n) (t := n) (A := 40701 * 100000) (B := 100000) (by omega) (by omega) n0 n1
  refine go_mulS (.inl (by omega)) ?_
  walk_at "g"
  refine go_powR ⟨by decide, by decide, by omega⟩ fun b => ?_
  walk_at "g"
  refine go_modR (by decide) fun s' s0' s1' => ?_
  walk_at "g"
  refine go_divS (by decide) (by decide) ?_
  walk_at "g"
  refine go_modR k1 fun d d0 d1 => ?_
  walk_at "g"
  exact ⟨_, Sub.refl, q d (n + 1) m d0 d1 (by omega) (by omega) m0⟩
end
/-! ### the law's own defs -/
def spPick : SpL := fun vs L Q _ => ∃ (p c q : Addr) (ns : List Int) (n m : Int) (R : Lg) (xs : List V), vs = [.ref p, .ref q] ∧ Sub ((p, penO c n m) :: (c, celO ns) :: R) L ∧ ns.length ≤ 63 ∧ 0 ≤ n ∧ n ≤ 100000 ∧ 0 ≤ m ∧ (q, HO.lst xs) ∈ R ∧ 0 < xs.length ∧ xs.length ≤ 1000 ∧
  ∀ x n' m', x ∈ xs → 0 ≤ n' → n' ≤ n + 1 → 0 ≤ m' → Q x ((p, penO c n' m') :: (c, celO ns) :: R)
/-- what a great one may be: from 1 on, not too great -/
def greatOk (g : Int) : Prop := 1 ≤ g ∧ g < 10 ^ 40
def spGreat : SpL := fun vs L Q _ => ∃ (p c : Addr) (ns : List Int) (n m : Int) (R : Lg), vs = [.ref p] ∧ Sub ((p, penO c n m) :: (c, celO ns) :: R) L ∧ ns.length ≤ 63 ∧ 0 ≤ n ∧ n + 5 ≤ 100000 ∧ 0 ≤ m ∧
  ∀ g n' m', 1 ≤ g → g < 10 ^ 40 → 0 ≤ n' → n' ≤ n + 5 → 0 ≤ m' → Q (.int g) ((p, penO c n' m') :: (c, celO ns) :: R)
theorem powPos {b : Int} (h : 1 ≤ b) : ∀ i : Nat, 1 ≤ b ^ i
  | 0 => by simp
  | i + 1 => by
    rw [Int.pow_succ]
    have := Int.mul_le_mul (powPos h i) h (by decide) (by have := powPos h i; omega)
    omega
theorem powLe {b : Int} (h : 1 ≤ b) {i j : Nat} (hij : i ≤ j) : b ^ i ≤ b ^ j := by
  obtain ⟨k, rfl⟩ := Nat.exists_eq_add_of_le hij
  rw [Int.pow_add]
  have := Int.mul_le_mul (Int.le_refl (b ^ i)) (powPos h k) (by decide) (by have := powPos h i; omega)
  omega
section
variable {P : Program} {w : World} {K : PySem.W.Frag} {mg : Str → Option Value} {base : Heap}
theorem fn_law_pick (B : Bi mg) (F : Df K mg "_law_pick" s_law_pick) (D1 : Fn P w K mg base CX0 "_law_draw" 1 spDraw) : Fn P w K mg base CX0 "_law_pick" 2 spPick := by
  refine fn_plain F sc_law_pick (fun _ _ _ _ _ _ us hl => match us, hl with | [_, _], _ => rfl) (by decide) (by walk_at "g_len") ?_
  intro X f cdv A outer s H E0 L vs Q E hX nd hr h
  subst hX
  obtain ⟨p, c, q, ns, n, m, R, xs, rfl, sb, h63, n0, n1, m0, hq, hx0, hx1, k⟩ := h
  refine GSs.sub sb ?_
  show GSs _ (defBody s_law_pick) (bodyD Q) [("_law_pen_here", some (.ref p)), ("_law_some", some (.ref q))] _
  refine gss_cons ?_
  walk_at "g"
  refine ge_call (El := NoX) D1 hr passA ?_
  walk_at "g"
  refine ⟨p, c, ns, n, m, xs.length, R, rfl, Sub.refl, h63, by omega, by omega, n0, n1, m0, fun d n' m' d0 d1 a0 a1 b0 => ?_⟩
  obtain ⟨j, rfl⟩ : ∃ j : Nat, d = (j : Int) := ⟨d.toNat, by omega⟩
  have hj : j < xs.length := by omega
  refine gi_lst (memS (memS hq)) (atI_nat (List.getElem?_eq_getElem hj)) ?_
  walk_at "g"
  exact ⟨_, Sub.refl, k _ n' m' (List.getElem_mem hj) a0 a1 b0⟩
theorem fn_law_great (B : Bi mg) (F : Df K mg "_law_great" s_law_great) (D1 : Fn P w K mg base CX0 "_law_draw" 1 spDraw) (D2 : Fn P w K mg base CX0 "_law_pick" 2 spPick) : Fn P w K mg base CX0 "_law_great" 3 spGreat := by
  refine fn_plain F sc_law_great (fun _ _ _ _ _ _ us hl => match us, hl with | [_], _ => rfl) (by decide) (by walk_at "g_len") ?_
  intro X f cdv A outer s H E0 L vs Q E hX nd hr h
  subst hX
  obtain ⟨p, c, ns, n, m, R, rfl, sb, h63, n0, n1, m0, k⟩ := h
  refine GSs.sub sb ?_
  show GSs _ (defBody s_law_great) (bodyD Q) [("_law_pen_here", some (.ref p)), ("_law_found", none), ("_law_turn", none)] _
  refine gss_cons ?_
  walk_at "g"
  refine ge_call (El := NoX) D1 hr passA ?_
  walk_at "g"
  refine ⟨p, c, ns, n, m, 999, R, rfl, Sub.refl, h63, by decide, by decide, n0, by omega, m0, fun d n2 m2 d0 d1 a0 a1 b0 => ?_⟩
  walk_at "g"
  refine gs_range1 ?_ (G.Bi.range (by assumption))
  walk_at "g"
  refine ge_call (El := NoX) D1 hr passA ?_
  walk_at "g"
  refine ⟨p, c, ns, n2, m2, 4, R, rfl, Sub.refl, h63, by decide, by decide, a0, by omega, b0, fun t n3 m3 t0 t1 a2 a3 b2 => ?_⟩
  walk_at "g"
  refine ⟨t, fun i θ M => ∃ (g n4 m4 : Int) (u : Option V), θ = ([("_law_pen_here", some (.ref p)), ("_law_found", some (.int g)), ("_law_turn", u)] : En) ∧ Sub ((p, penO c n4 m4) :: (c, celO ns) :: R) M ∧ 1 ≤ g ∧ g ≤ 1000 * 1000000000000 ^ i ∧ 0 ≤ n4 ∧ n4 ≤ n + 2 + i ∧ 0 ≤ m4, rfl, by omega, ⟨1 + d, n3, m3, none, rfl, Sub.refl, by omega, by simp; omega, a2, by omega, b2⟩, ?_, ?_⟩
  · rintro i x θ M hi rfl ⟨g, n4, m4, u, rfl, sb2, g1, g2, e0, e1, f0⟩
    refine gg_name (by walk_at "g_pv") ?_
    refine GSs.sub sb2 ?_
    walk_at "g"
    refine ge_call (El := NoX) D2 hr passA ?_
    walk_at "g"
    refine go_powL (r := 1000000) ⟨by decide, by decide, by decide⟩ (by decide) ?_
    walk_at "g"
    refine go_powL (r := 1000000000) ⟨by decide, by decide, by decide⟩ (by decide) ?_
    walk_at "g"
    refine go_powL (r := 1000000000000) ⟨by decide, by decide, by decide⟩ (by decide) ?_
    walk_at "g"
    rename_i q
    refine ⟨p, c, q, ns, n4, m4, (q, .lst [.int 2, .int 3, .int 6, .int 35, .int 1000000, .int (1000000000 + 7), .int (1000000000000 - 11)]) :: R, _, rfl, by walk_at "g_br", h63, e0, by omega, f0, mem0, by decide, by decide, fun x n5 m5 hx e2 e3 f2 => ?_⟩
    obtain ⟨y, rfl, y1, y2⟩ : ∃ y : Int, x = .int y ∧ 1 ≤ y ∧ y ≤ 1000000000000 := by
      simp only [List.mem_cons, List.not_mem_nil, or_false] at hx
      rcases hx with rfl | rfl | rfl | rfl | rfl | rfl | rfl <;> exact ⟨_, rfl, by decide, by decide⟩
    have gb : g.natAbs < 2 ^ 512 := by
      have z : (1000 : Int) * 1000000000000 ^ i ≤ 1000 * 1000000000000 ^ 4 := Int.mul_le_mul_of_nonneg_left (powLe (by decide) (by omega)) (by decide)
      have z2 : (1000 : Int) * 1000000000000 ^ 4 < 2 ^ 512 := by decide +kernel
      omega
    refine go_mul (wide_mul (a := 512) (b := 64) gb (by omega) (by decide) (by decide) (by decide)) ?_
    walk_at "g"
    refine ⟨g * y, n5, m5, _, rfl, ?_, ?_, ?_, by omega, by omega, f2⟩
    · exact Sub.sublist (((List.sublist_cons_self _ _).cons_cons _).cons_cons _)
    · have := Int.mul_le_mul g1 y1 (by decide) (by omega)
      omega
    · have := Int.mul_le_mul g2 y2 (by omega) (by have := powPos (b := 1000000000000) (by decide) i; omega)
      rw [Int.pow_succ, ← Int.mul_assoc]
      exact this
  · rintro θ M ⟨g, n4, m4, u, rfl, sb2, g1, g2, e0, e1, f0⟩
    walk_at "g"
    refine ⟨_, sb2, k g n4 m4 g1 ?_ e0 (by omega) f0⟩
    have z : (1000 : Int) * 1000000000000 ^ t.toNat ≤ 1000 * 1000000000000 ^ 3 := Int.mul_le_mul_of_nonneg_left (powLe (by decide) (by omega)) (by decide)
    have z2 : (1000 : Int) * 1000000000000 ^ 3 < 10 ^ 40 := by decide +kernel
    omega
end
/-! ### the promises at work -/
theorem use_common {vs : List V} {L : Lg} {Q : QV} {E : XL} (ns : List Int) (e : vs = ns.map V.int) (h : ∀ n ∈ ns, n.natAbs < 2 ^ 9000) (hl : ns.length ≤ 60) (q : Q (.int (gcds ns : Nat)) L) : spStar spCommon0 vs L Q E :=
  ⟨by rw [e, List.length_map]; exact sz_le (by omega), fun p => ⟨p, ns, L, rfl, by rw [e], h, q⟩⟩
theorem use_multiple {vs : List V} {L : Lg} {Q : QV} {E : XL} (ns : List Int) (e : vs = ns.map V.int) (h : ∀ n ∈ ns, 1 ≤ n ∧ n.natAbs < 2 ^ 5000) (hl : ns.length ≤ 60) (q : Q (.int (lcms ns : Nat)) L) : spStar spMultiple0 vs L Q E :=
  ⟨by rw [e, List.length_map]; exact sz_le (by omega), fun p => ⟨p, ns, L, rfl, by rw [e], h, hl, q⟩⟩
theorem use_together {vs : List V} {L : Lg} {Q : QV} {E : XL} (ps : List Pr) (e : vs = ps.map fun e => V.ref e.1) (h : ∀ e ∈ ps, (e.1, HO.tup [.int e.2.1, .int e.2.2]) ∈ L ∧ 1 ≤ e.2.2 ∧ e.2.2.natAbs < 2 ^ 5000) (hl : ps.length ≤ 60)
    (q : ∀ v, Tog (prs ps) v → Q v L) : spStar spTogether0 vs L Q E :=
  ⟨by rw [e, List.length_map]; exact sz_le (by omega), fun p => ⟨p, ps, L, rfl, by rw [e], h, hl, q⟩⟩
theorem use_draw {p c : Addr} {ns : List Int} {n m : Int} {R : Lg} {L : Lg} {Q : QV} {E : XL} {many : Int} (sb : Sub ((p, penO c n m) :: (c, celO ns) :: R) L) (h63 : ns.length ≤ 63) (k1 : 0 < many) (k2 : many < 2 ^ 64) (n0 : 0 ≤ n) (n1 : n ≤ 100000) (m0 : 0 ≤ m)
    (q : ∀ d n' m', 0 ≤ d → d < many → 0 ≤ n' → n' ≤ n + 1 → 0 ≤ m' → Q (.int d) ((p, penO c n' m') :: (c, celO ns) :: R)) : spDraw [.ref p, .int many] L Q E := ⟨p, c, ns, n, m, many, R, rfl, sb, h63, k1, k2, n0, n1, m0, q⟩
theorem use_great {p c : Addr} {ns : List Int} {n m : Int} {R : Lg} {L : Lg} {Q : QV} {E : XL} (sb : Sub ((p, penO c n m) :: (c, celO ns) :: R) L) (h63 : ns.length ≤ 63) (n0 : 0 ≤ n) (n1 : n + 5 ≤ 100000) (m0 : 0 ≤ m)
    (q : ∀ g n' m', 1 ≤ g → g < 10 ^ 40 → 0 ≤ n' → n' ≤ n + 5 → 0 ≤ m' → Q (.int g) ((p, penO c n' m') :: (c, celO ns) :: R)) : spGreat [.ref p] L Q E := ⟨p, c, ns, n, m, R, rfl, sb, h63, n0, n1, m0, q⟩
/-! ### the plain law -/
theorem tog_of {l : List (Int × Int)} {v : V} (t : Tog l v) {W : Int} (h : Leaves l W) (hp : 0 < mods l) : v = .int (W % (mods l : Nat)) := by
  cases t with
  | none n => exact absurd h (n W)
  | some f hf e =>
    have d : ((mods l : Nat) : Int) ∣ W - f := by
      refine lcms_dvd' fun d hd => ?_
      obtain ⟨x, hx, rfl⟩ := List.mem_map.mp hd
      have z : W - (f : Int) = (W - x.1) - (f - x.1) := by omega
      rw [z]
      exact Int.dvd_sub (h x hx) (e x hx)
    obtain ⟨k, hk⟩ := d
    have z : W = f + (mods l : Nat) * k := by omega
    rw [z, Int.add_mul_emod_self_left, Int.emod_eq_of_lt (by omega) (by omega)]
theorem lcms_pos' {ns : List Int} (h : ∀ n ∈ ns, 1 ≤ n) : 0 < lcms ns := by
  have z := lcms_pos h ns.length
  rw [List.take_length] at z
  exact z
theorem lcms_same {ns ms : List Int} (a : ∀ n ∈ ns, n ∈ ms) (b : ∀ n ∈ ms, n ∈ ns) : lcms ns = lcms ms := by
  refine Nat.dvd_antisymm ?_ ?_
  · exact Int.natCast_dvd_natCast.mp (lcms_dvd' fun d hd => dvd_lcms (a d hd))
  · exact Int.natCast_dvd_natCast.mp (lcms_dvd' fun d hd => dvd_lcms (b d hd))
theorem inv_ex {a m : Nat} (hm : 1 ≤ m) : ∃ r : Nat, ((a * r : Nat) : Int) % m = ((Nat.gcd a m : Nat) : Int) % m := by
  have key : ∀ (d c : Nat) (x y : Int), InvAt a m c d x y → ∃ (c' : Nat) (x' y' : Int), InvAt a m c' 0 x' y' := by
    intro d
    induction d using Nat.strongRecOn with
    | _ d ih =>
      intro c x y i
      rcases Nat.eq_zero_or_pos d with rfl | hd
      · exact ⟨c, x, y, i⟩
      · exact ih (c % d) (Nat.mod_lt _ hd) d _ _ (i.turn hd)
  obtain ⟨c, x, y, i⟩ := key _ _ _ _ (InvAt.start (a := a) hm)
  obtain ⟨r, _, _, e⟩ := i.done hm
  exact ⟨r, e⟩
theorem gcds2 (a b : Int) : gcds [a, b] = Nat.gcd a.natAbs b.natAbs := by
  show Nat.gcd (Nat.gcd 0 a.natAbs) b.natAbs = _
  rw [Nat.gcd_zero_left]
theorem gcds3 (a b c : Int) : gcds [a, b, c] = Nat.gcd (Nat.gcd a.natAbs b.natAbs) c.natAbs := by
  show Nat.gcd (Nat.gcd (Nat.gcd 0 a.natAbs) b.natAbs) c.natAbs = _
  rw [Nat.gcd_zero_left]
theorem lcms2 (a b : Int) : lcms [a, b] = Nat.lcm a.natAbs b.natAbs := by
  show Nat.lcm (Nat.lcm 1 a.natAbs) b.natAbs = _
  rw [Nat.lcm_one_left]
theorem lcms3 (a b c : Int) : lcms [a, b, c] = Nat.lcm (Nat.lcm a.natAbs b.natAbs) c.natAbs := by
  show Nat.lcm (Nat.lcm (Nat.lcm 1 a.natAbs) b.natAbs) c.natAbs = _
  rw [Nat.lcm_one_left]
/-- one remainder is bent: none fits where the divisors share a factor -/
theorem bent_none {W a b c : Int} {r1 r2 : Int} {v : V} (h1 : a ∣ W - r1) (h2 : b ∣ W - r2) (g : 1 < gcds [c, ((lcms [a, b] : Nat) : Int)]) (t : Tog [(r1, a), (r2, b), (W + 1, c)] v) : v = .non := by
  cases t with
  | none _ => rfl
  | some f _ e =>
    have e1 := e (r1, a) (by simp)
    have e2 := e (r2, b) (by simp)
    have e3 := e (W + 1, c) (by simp)
    dsimp only at e1 e2 e3
    have l : ((lcms [a, b] : Nat) : Int) ∣ (f : Int) - W := by
      refine lcms_dvd' fun d hd => ?_
      simp only [List.mem_cons, List.not_mem_nil, or_false] at hd
      rcases hd with rfl | rfl
      · have z : (f : Int) - W = (f - r1) - (W - r1) := by omega
        rw [z]
        exact Int.dvd_sub e1 h1
      · have z : (f : Int) - W = (f - r2) - (W - r2) := by omega
        rw [z]
        exact Int.dvd_sub e2 h2
    rw [gcds2, Int.natAbs_natCast] at g
    have ga : ((Nat.gcd c.natAbs (lcms [a, b]) : Nat) : Int) ∣ c := castDvd.mpr (Nat.gcd_dvd_left _ _)
    have gb : ((Nat.gcd c.natAbs (lcms [a, b]) : Nat) : Int) ∣ ((lcms [a, b] : Nat) : Int) := Int.natCast_dvd_natCast.mpr (Nat.gcd_dvd_right _ _)
    have gd := Int.dvd_sub (Int.dvd_trans gb l) (Int.dvd_trans ga e3)
    have z : (f : Int) - W - (f - (W + 1)) = 1 := by omega
    rw [z] at gd
    have := Int.le_of_dvd (by decide) gd
    omega
/-- .. and where they share none, one does -/
theorem bent_some {W a b c : Int} {r1 r2 : Int} {v : V} (a0 : 1 ≤ a) (b0 : 1 ≤ b) (c0 : 1 ≤ c) (h1 : a ∣ W - r1) (h2 : b ∣ W - r2) (g : ¬ 1 < gcds [c, ((lcms [a, b] : Nat) : Int)]) (t : Tog [(r1, a), (r2, b), (W + 1, c)] v) :
    ∃ f : Int, v = .int f ∧ (f - W) % a = 0 ∧ (f - W) % b = 0 ∧ (f - W - 1) % c = 0 := by
  have lp : 0 < lcms [a, b] := lcms_pos' (by intro n hn; simp only [List.mem_cons, List.not_mem_nil, or_false] at hn; rcases hn with rfl | rfl <;> assumption)
  cases t with
  | none no =>
    exfalso
    obtain ⟨r, hr⟩ := inv_ex (a := lcms [a, b]) (m := c.natAbs) (by omega)
    rw [gcds2, Int.natAbs_natCast] at g
    have g1 : Nat.gcd (lcms [a, b]) c.natAbs = 1 := by
      have := Nat.gcd_pos_of_pos_left c.natAbs lp
      rw [Nat.gcd_comm] at g
      omega
    rw [g1] at hr
    have ec : ((c.natAbs : Nat) : Int) = c := by omega
    rw [ec] at hr
    have hd : c ∣ ((lcms [a, b] * r : Nat) : Int) - 1 := Int.dvd_of_emod_eq_zero (Int.emod_eq_emod_iff_emod_sub_eq_zero.mp hr)
    refine no (W + (lcms [a, b] * r : Nat)) fun e he => ?_
    have la : a ∣ ((lcms [a, b] * r : Nat) : Int) := by
      rw [Int.natCast_mul]
      exact Int.dvd_trans (dvd_lcms (by simp)) (Int.dvd_mul_right _ _)
    have lb : b ∣ ((lcms [a, b] * r : Nat) : Int) := by
      rw [Int.natCast_mul]
      exact Int.dvd_trans (dvd_lcms (by simp)) (Int.dvd_mul_right _ _)
    simp only [List.mem_cons, List.not_mem_nil, or_false] at he
    rcases he with rfl | rfl | rfl
    · have z : W + ((lcms [a, b] * r : Nat) : Int) - r1 = (W - r1) + ((lcms [a, b] * r : Nat) : Int) := by omega
      show a ∣ W + _ - r1
      rw [z]
      exact Int.dvd_add h1 la
    · have z : W + ((lcms [a, b] * r : Nat) : Int) - r2 = (W - r2) + ((lcms [a, b] * r : Nat) : Int) := by omega
      show b ∣ W + _ - r2
      rw [z]
      exact Int.dvd_add h2 lb
    · have z : W + ((lcms [a, b] * r : Nat) : Int) - (W + 1) = ((lcms [a, b] * r : Nat) : Int) - 1 := by omega
      show c ∣ W + _ - (W + 1)
      rw [z]
      exact hd
  | some f _ e =>
    have e1 := e (r1, a) (by simp)
    have e2 := e (r2, b) (by simp)
    have e3 := e (W + 1, c) (by simp)
    dsimp only at e1 e2 e3
    refine ⟨f, rfl, Int.emod_eq_zero_of_dvd ?_, Int.emod_eq_zero_of_dvd ?_, Int.emod_eq_zero_of_dvd ?_⟩
    · have z : (f : Int) - W = (f - r1) - (W - r1) := by omega
      rw [z]
      exact Int.dvd_sub e1 h1
    · have z : (f : Int) - W = (f - r2) - (W - r2) := by omega
      rw [z]
      exact Int.dvd_sub e2 h2
    · have z : (f : Int) - W - 1 = f - (W + 1) := by omega
      rw [z]
      exact e3
section
variable {P : Program} {w : World} {K : PySem.W.Frag} {mg : Str → Option Value} {base : Heap}
/-- a def of the law that tells True and uses the pen at most k times -/
def spRight (k : Int) : SpL := fun vs L Q _ => ∃ (p c : Addr) (ns : List Int) (n m : Int) (R : Lg), vs = [.ref p] ∧ Sub ((p, penO c n m) :: (c, celO ns) :: R) L ∧ ns.length ≤ 63 ∧ 0 ≤ n ∧ n + k ≤ 100000 ∧ 0 ≤ m ∧
  ∀ n' m', 0 ≤ n' → n' ≤ n + k → 0 ≤ m' → Q (.bl true) ((p, penO c n' m') :: (c, celO ns) :: R)
theorem fn_law_remainders_right (B : Bi mg) (F : Df K mg "_law_remainders_right" s_law_remainders_right) (D1 : Fn P w K mg base CX0 "_law_draw" 1 spDraw) (D2 : Fn P w K mg base CX0 "_law_great" 3 spGreat) (D3 : Fn P w K mg base CX0 "multiple" 3 (spStar spMultiple0))
    (D4 : Fn P w K mg base CX0 "together" 3 (spStar spTogether0)) (D5 : Fn P w K mg base CX0 "common" 3 (spStar spCommon0)) : Fn P w K mg base CX0 "_law_remainders_right" 4 (spRight 20) := by
  refine fn_plain F sc_law_remainders_right (fun _ _ _ _ _ _ us hl => match us, hl with | [_], _ => rfl) (by decide) (by walk_at "g_len") ?_
  intro X f cdv A outer s H E0 L vs Q E hX nd hr h
  subst hX
  obtain ⟨p, c, ns, n, m, R, rfl, sb, h63, n0, n1, m0, k⟩ := h
  refine GSs.sub sb ?_
  show GSs _ (defBody s_law_remainders_right) (bodyD Q) [("_law_pen_here", some (.ref p)), ("_law_whole", none), ("_law_one", none), ("_law_two", none), ("_law_three", none), ("_law_round_so", none), ("_law_parts", none), ("_law_found", none), ("_law_bent", none), ("_law_shared", none)] _
  refine gss_cons ?_
  walk_at "g"
  refine ge_call (El := NoX) D1 hr passA ?_
  walk_at "g"
  refine go_powL (r := 1000000000) ⟨by decide, by decide, by decide⟩ (by decide) ?_
  walk_at "g"
  refine use_draw Sub.refl h63 (by decide) (by decide) n0 (by omega) m0 fun d1 n2 m2 a1 a2 b1 b2 b3 => ?_
  walk_at "g"
  refine go_powL (r := 1000000000000000000000000000000) ⟨by decide, by decide, by decide⟩ (by decide) ?_
  refine go_mulS (.inl (by omega)) ?_
  walk_at "g"
  refine ge_call (El := NoX) D1 hr passA ?_
  walk_at "g"
  refine go_powL (r := 1000000000) ⟨by decide, by decide, by decide⟩ (by decide) ?_
  walk_at "g"
  refine use_draw Sub.refl h63 (by decide) (by decide) b1 (by omega) b3 fun d2 n3 m3 a3 a4 b4 b5 b6 => ?_
  walk_at "g"
  generalize hW : d1 * 1000000000000000000000000000000 + d2 = W
  have W0 : 0 ≤ W := by omega
  have W1 : W < 10 ^ 40 := by omega
  refine ge_call (El := NoX) D2 hr passA ?_
  walk_at "g"
  refine use_great Sub.refl h63 b4 (by omega) b6 fun one n4 m4 o1 o2 b7 b8 b9 => ?_
  walk_at "g"
  refine ge_call (El := NoX) D2 hr passA ?_
  walk_at "g"
  refine use_great Sub.refl h63 b7 (by omega) b9 fun two n5 m5 t1 t2 c1 c2 c3 => ?_
  walk_at "g"
  refine ge_call (El := NoX) D2 hr passA ?_
  walk_at "g"
  refine use_great Sub.refl h63 c1 (by omega) c3 fun three n6 m6 h1 h2 c4 c5 c6 => ?_
  walk_at "g"
  refine ge_call (El := NoX) D3 hr passA ?_
  walk_at "g"
  have sm : ∀ z : Int, 1 ≤ z → z < 10 ^ 41 → z.natAbs < 2 ^ 5000 := fun z z1 z2 => by
    have : (10 : Nat) ^ 41 ≤ 2 ^ 5000 := by decide +kernel
    omega
  refine use_multiple [one, two, three] rfl (by simp only [List.forall_mem_cons]; exact ⟨⟨o1, sm _ o1 (by omega)⟩, ⟨t1, sm _ t1 (by omega)⟩, ⟨h1, sm _ h1 (by omega)⟩, fun _ h => absurd h (by simp)⟩) (by simp) ?_
  have sw : ∀ z : Int, -(10 ^ 60) < z → z < 10 ^ 60 → z.natAbs < 2 ^ 200 := fun z z1 z2 => by
    have : (10 : Nat) ^ 60 ≤ 2 ^ 200 := by decide +kernel
    omega
  walk_at "g"
  refine ge_call (El := NoX) D1 hr passA ?_
  walk_at "g"
  refine use_draw Sub.refl h63 (by decide) (by decide) c4 (by omega) c6 fun k1 n7 m7 a5 a6 c7 c8 c9 => ?_
  refine go_mulS (.inr (by omega)) ?_
  walk_at "g"
  rename_i q1
  refine go_mod (by omega) ?_
  walk_at "g"
  rename_i q2
  walk_at "g"
  refine go_powL (r := 1000000000) ⟨by decide, by decide, by decide⟩ (by decide) ?_
  walk_at "g"
  refine go_mulS (.inr (by decide)) ?_
  walk_at "g"
  have ex0 : ∀ {α : Type} {q : α → Prop}, (∀ x, x ∈ ([] : List α) → q x) := fun _ h => absurd h (by simp)
  have lp : 0 < lcms [one, two, three] := lcms_pos' (by simp only [List.forall_mem_cons]; exact ⟨o1, t1, h1, fun _ h => absurd h (by simp)⟩)
  have L1 : one ∣ W - (W - one * k1) := ⟨k1, by omega⟩
  have L2 : two ∣ W - W % two := Int.dvd_self_sub_emod
  have L3 : three ∣ W - (W + three * 1000000000) := ⟨-1000000000, by omega⟩
  refine ge_call (El := NoX) D4 hr passA ?_
  walk_at "g"
  refine use_together [(_, W - one * k1, one), (_, W % two, two), (_, W + three * 1000000000, three)] rfl (by
    simp only [List.forall_mem_cons]
    exact ⟨⟨by walk_at "g_mem", o1, sm _ o1 (by omega)⟩, ⟨by walk_at "g_mem", t1, sm _ t1 (by omega)⟩, ⟨by walk_at "g_mem", h1, sm _ h1 (by omega)⟩, fun _ h => absurd h (by simp)⟩) (by simp) fun v tv => ?_
  obtain rfl := tog_of (l := [(W - one * k1, one), (W % two, two), (W + three * 1000000000, three)]) tv (W := W) (by
    intro e he
    simp only [List.mem_cons, List.not_mem_nil, or_false] at he
    rcases he with rfl | rfl | rfl <;> assumption) lp
  walk_at "g"
  refine go_mod (by omega) ?_
  walk_at "g"
  refine ite_n (fun z => absurd rfl z) (fun _ => ?_)
  walk_at "g"
  refine ge_call (El := NoX) D4 hr passA ?_
  walk_at "g"
  refine use_together [(_, W + three * 1000000000, three), (_, W - one * k1, one), (_, W % two, two)] rfl (by
    simp only [List.forall_mem_cons]
    exact ⟨⟨by walk_at "g_mem", h1, sm _ h1 (by omega)⟩, ⟨by walk_at "g_mem", o1, sm _ o1 (by omega)⟩, ⟨by walk_at "g_mem", t1, sm _ t1 (by omega)⟩, fun _ h => absurd h (by simp)⟩) (by simp) fun v tv => ?_
  have em : lcms [three, one, two] = lcms [one, two, three] := lcms_same (by simp only [List.forall_mem_cons]; simp) (by simp only [List.forall_mem_cons]; simp)
  obtain rfl := tog_of (l := [(W + three * 1000000000, three), (W - one * k1, one), (W % two, two)]) tv (W := W) (by
    intro e he
    simp only [List.mem_cons, List.not_mem_nil, or_false] at he
    rcases he with rfl | rfl | rfl <;> assumption) (by show 0 < lcms [three, one, two]; rw [em]; exact lp)
  walk_at "g"
  refine ite_n (fun z => absurd (by show W % ((lcms [three, one, two] : Nat) : Int) = W % ((lcms [one, two, three] : Nat) : Int); rw [em]) z) (fun _ => ?_)
  walk_at "g"
  refine ge_call (El := NoX) D4 hr passA ?_
  walk_at "g"
  refine go_mulS (.inr (by decide)) ?_
  walk_at "g"
  refine use_together [(_, W - one * k1, one), (_, W, two * 10)] rfl (by
    simp only [List.forall_mem_cons]
    exact ⟨⟨by walk_at "g_mem", o1, sm _ o1 (by omega)⟩, ⟨by walk_at "g_mem", by omega, sm _ (by omega) (by omega)⟩, fun _ h => absurd h (by simp)⟩) (by simp) fun v tv => ?_
  obtain rfl := tog_of (l := [(W - one * k1, one), (W, two * 10)]) tv (W := W) (by
    intro e he
    simp only [List.mem_cons, List.not_mem_nil, or_false] at he
    rcases he with rfl | rfl
    · exact L1
    · exact ⟨0, by omega⟩) (lcms_pos' (by show ∀ n ∈ [one, two * 10], 1 ≤ n; simp only [List.forall_mem_cons]; exact ⟨o1, by omega, fun _ h => absurd h (by simp)⟩))
  walk_at "g"
  refine ge_call (El := NoX) D4 hr passA ?_
  walk_at "g"
  refine use_together [(_, W, one), (_, W, one)] rfl (by
    simp only [List.forall_mem_cons]
    exact ⟨⟨by walk_at "g_mem", o1, sm _ o1 (by omega)⟩, ⟨by walk_at "g_mem", o1, sm _ o1 (by omega)⟩, fun _ h => absurd h (by simp)⟩) (by simp) fun v tv => ?_
  obtain rfl := tog_of (l := [(W, one), (W, one)]) tv (W := W) (by
    intro e he
    simp only [List.mem_cons, List.not_mem_nil, or_false] at he
    rcases he with rfl | rfl <;> exact ⟨0, by omega⟩) (lcms_pos' (by show ∀ n ∈ [one, one], 1 ≤ n; simp only [List.forall_mem_cons]; exact ⟨o1, o1, fun _ h => absurd h (by simp)⟩))
  walk_at "g"
  refine go_mod (by omega) ?_
  walk_at "g"
  refine ite_n (fun z => absurd (by show W % ((lcms [one, one] : Nat) : Int) = W % one; rw [lcms2, Nat.lcm_self, Int.natAbs_of_nonneg (by omega)]) z) (fun _ => ?_)
  walk_at "g"
  refine ge_call (El := NoX) D4 hr passA ?_
  walk_at "g"
  refine use_together [(_, W - one * k1, one), (_, W % two, two), (_, W + 1, three)] rfl (by
    simp only [List.forall_mem_cons]
    exact ⟨⟨by walk_at "g_mem", o1, sm _ o1 (by omega)⟩, ⟨by walk_at "g_mem", t1, sm _ t1 (by omega)⟩, ⟨by walk_at "g_mem", h1, sm _ h1 (by omega)⟩, fun _ h => absurd h (by simp)⟩) (by simp) fun bent tb => ?_
  walk_at "g"
  refine ge_call (El := NoX) D5 hr passA ?_
  walk_at "g"
  refine ge_call (El := NoX) D3 hr passA ?_
  walk_at "g"
  refine use_multiple [one, two] rfl (by simp only [List.forall_mem_cons]; exact ⟨⟨o1, sm _ o1 (by omega)⟩, ⟨t1, sm _ t1 (by omega)⟩, fun _ h => absurd h (by simp)⟩) (by simp) ?_
  walk_at "g"
  have lb : ((lcms [one, two] : Nat) : Int).natAbs < 2 ^ 9000 := by
    rw [Int.natAbs_natCast, lcms2]
    have z : Nat.lcm one.natAbs two.natAbs ≤ one.natAbs * two.natAbs := Nat.div_le_self _ _
    have z2 : one.natAbs * two.natAbs ≤ 10 ^ 40 * 10 ^ 40 := Nat.mul_le_mul (by omega) (by omega)
    have z3 : (10 : Nat) ^ 40 * 10 ^ 40 < 2 ^ 9000 := by decide +kernel
    exact Nat.lt_of_le_of_lt z (Nat.lt_of_le_of_lt z2 z3)
  refine use_common [three, ((lcms [one, two] : Nat) : Int)] rfl (by simp only [List.forall_mem_cons]; exact ⟨Nat.lt_of_lt_of_le (sm _ h1 (by omega)) (Nat.pow_le_pow_right (by decide) (by decide)), lb, fun _ h => absurd h (by simp)⟩) (by simp) ?_
  walk_at "g"
  refine ite_d (fun hg => ?_) (fun hg => ?_)
  · obtain rfl := bent_none L1 L2 (by omega) tb
    walk_at "g"
    refine ite_d (fun _ => ?_) (fun z => absurd hg z)
    exact ⟨_, by walk_at "g_end", k n7 m7 c7 (by omega) c9⟩
  · obtain ⟨f0, rfl, f1, f2, f3⟩ := bent_some o1 t1 h1 L1 L2 (by omega) tb
    walk_at "g"
    refine ite_d (fun z => absurd z hg) (fun _ => ?_)
    walk_at "g"
    refine go_mod (by omega) ?_
    walk_at "g"
    refine go_mod (by omega) ?_
    walk_at "g"
    refine go_mod (by omega) ?_
    walk_at "g"
    rw [f1, f2, f3]
    refine go_eqD (d := .list ([0, 0, 0].map PyData.int)) (e := .list ([0, 0, 0].map PyData.int)) hr (dl_lst (xs := [0, 0, 0].map V.int) (by walk_at "g_memd") dls_ints) (dl_lst (xs := [0, 0, 0].map V.int) (by walk_at "g_memd") dls_ints) (shapedL _) (shapedL _) ?_
    rw [eqvL]
    exact ⟨_, by walk_at "g_end", k n7 m7 c7 (by omega) c9⟩
end
section
variable {P : Program} {w : World} {K : PySem.W.Frag} {mg : Str → Option Value} {base : Heap}
theorem fn_law_divisors_right (B : Bi mg) (F : Df K mg "_law_divisors_right" s_law_divisors_right) (D2 : Fn P w K mg base CX0 "_law_great" 3 spGreat) (D3 : Fn P w K mg base CX0 "multiple" 3 (spStar spMultiple0))
    (D5 : Fn P w K mg base CX0 "common" 3 (spStar spCommon0)) : Fn P w K mg base CX0 "_law_divisors_right" 4 (spRight 20) := by
  refine fn_plain F sc_law_divisors_right (fun _ _ _ _ _ _ us hl => match us, hl with | [_], _ => rfl) (by decide) (by walk_at "g_len") ?_
  intro X f cdv A outer s H E0 L vs Q E hX nd hr h
  subst hX
  obtain ⟨p, c, ns, n, m, R, rfl, sb, h63, n0, n1, m0, k⟩ := h
  refine GSs.sub sb ?_
  show GSs _ (defBody s_law_divisors_right) (bodyD Q) [("_law_pen_here", some (.ref p)), ("_law_one", none), ("_law_two", none), ("_law_three", none)] _
  refine gss_cons ?_
  walk_at "g"
  refine ge_call (El := NoX) D2 hr passA ?_
  walk_at "g"
  refine use_great Sub.refl h63 n0 (by omega) m0 fun a n4 m4 a1 a2 b7 b8 b9 => ?_
  walk_at "g"
  refine ge_call (El := NoX) D2 hr passA ?_
  walk_at "g"
  refine use_great Sub.refl h63 b7 (by omega) b9 fun b n5 m5 t1 t2 c1 c2 c3 => ?_
  walk_at "g"
  refine ge_call (El := NoX) D2 hr passA ?_
  walk_at "g"
  refine use_great Sub.refl h63 c1 (by omega) c3 fun d n6 m6 h1 h2 c4 c5 c6 => ?_
  have sm : ∀ z : Int, -(10 ^ 81) < z → z < 10 ^ 81 → z.natAbs < 2 ^ 4900 := fun z z1 z2 => by
    have : (10 : Nat) ^ 81 ≤ 2 ^ 4900 := by decide +kernel
    omega
  have s9 : ∀ z : Int, -(10 ^ 81) < z → z < 10 ^ 81 → z.natAbs < 2 ^ 9000 := fun z z1 z2 => Nat.lt_of_lt_of_le (sm z z1 z2) (Nat.pow_le_pow_right (by decide) (by decide))
  have s5 : ∀ z : Int, -(10 ^ 81) < z → z < 10 ^ 81 → z.natAbs < 2 ^ 5000 := fun z z1 z2 => Nat.lt_of_lt_of_le (sm z z1 z2) (Nat.pow_le_pow_right (by decide) (by decide))
  have al : a.natAbs ≤ 10 ^ 40 := by omega
  have bl : b.natAbs ≤ 10 ^ 40 := by omega
  have dl : d.natAbs ≤ 10 ^ 40 := by omega
  have gle : ∀ x y : Nat, x ≤ 10 ^ 40 → 0 < x → Nat.gcd x y ≤ 10 ^ 40 := fun x y h h0 => Nat.le_trans (Nat.le_of_dvd h0 (Nat.gcd_dvd_left x y)) h
  have lle : ∀ x y : Nat, x ≤ 10 ^ 40 → y ≤ 10 ^ 40 → Nat.lcm x y ≤ 10 ^ 80 := fun x y h h0 => Nat.le_trans (Nat.div_le_self _ _) (Nat.le_trans (Nat.mul_le_mul h h0) (by decide +kernel))
  have e2 : ∀ x y : Int, 1 ≤ x → 1 ≤ y → ∀ z ∈ [x, y], 1 ≤ z := fun x y h h' => by simp only [List.forall_mem_cons]; exact ⟨h, h', fun _ h => absurd h (by simp)⟩
  have i80 : ((10 ^ 80 : Nat) : Int) < 10 ^ 81 := by decide +kernel
  have i40 : ((10 ^ 40 : Nat) : Int) < 10 ^ 81 := by decide +kernel
  have gab := gle a.natAbs b.natAbs al (by omega)
  have lab := lle a.natAbs b.natAbs al bl
  have gbd := gle b.natAbs d.natAbs bl (by omega)
  have lp : 0 < lcms [a, b] := lcms_pos' (e2 a b a1 t1)
  walk_at "g"
  refine ge_call (El := NoX) D5 hr passA ?_
  walk_at "g"
  refine use_common [a, b] rfl (by simp only [List.forall_mem_cons]; exact ⟨s9 _ (by omega) (by omega), s9 _ (by omega) (by omega), fun _ h => absurd h (by simp)⟩) (by simp) ?_
  walk_at "g"
  refine ge_call (El := NoX) D3 hr passA ?_
  walk_at "g"
  refine use_multiple [a, b] rfl (by simp only [List.forall_mem_cons]; exact ⟨⟨a1, s5 _ (by omega) (by omega)⟩, ⟨t1, s5 _ (by omega) (by omega)⟩, fun _ h => absurd h (by simp)⟩) (by simp) ?_
  refine go_mul (wide_mul (a := 4900) (b := 4900) (sm _ (by omega) (by rw [gcds2]; omega)) (sm _ (by omega) (by rw [lcms2]; omega)) (by decide) (by decide) (by decide)) ?_
  walk_at "g"
  refine go_mul (wide_mul (a := 4900) (b := 4900) (sm _ (by omega) (by omega)) (sm _ (by omega) (by omega)) (by decide) (by decide) (by decide)) ?_
  walk_at "g"
  refine ite_n (fun z => absurd ?_ z) (fun _ => ?_)
  · rw [gcds2, lcms2, ← Int.natCast_mul, Nat.gcd_mul_lcm, Int.natCast_mul, Int.natAbs_of_nonneg (by omega), Int.natAbs_of_nonneg (by omega)]
  walk_at "g"
  refine ge_call (El := NoX) D5 hr passA ?_
  walk_at "g"
  refine use_common [a, b, d] rfl (by simp only [List.forall_mem_cons]; exact ⟨s9 _ (by omega) (by omega), s9 _ (by omega) (by omega), s9 _ (by omega) (by omega), fun _ h => absurd h (by simp)⟩) (by simp) ?_
  walk_at "g"
  refine ge_call (El := NoX) D5 hr passA ?_
  walk_at "g"
  refine ge_call (El := NoX) D5 hr passA ?_
  walk_at "g"
  refine use_common [b, d] rfl (by simp only [List.forall_mem_cons]; exact ⟨s9 _ (by omega) (by omega), s9 _ (by omega) (by omega), fun _ h => absurd h (by simp)⟩) (by simp) ?_
  walk_at "g"
  refine use_common [a, ((gcds [b, d] : Nat) : Int)] rfl (by simp only [List.forall_mem_cons]; exact ⟨s9 _ (by omega) (by omega), s9 _ (by omega) (by rw [gcds2]; omega), fun _ h => absurd h (by simp)⟩) (by simp) ?_
  walk_at "g"
  refine ite_n (fun z => absurd ?_ z) (fun _ => ?_)
  · rw [gcds3, gcds2, Int.natAbs_natCast, gcds2, Nat.gcd_assoc]
  walk_at "g"
  refine ge_call (El := NoX) D3 hr passA ?_
  walk_at "g"
  refine use_multiple [a, b, d] rfl (by simp only [List.forall_mem_cons]; exact ⟨⟨a1, s5 _ (by omega) (by omega)⟩, ⟨t1, s5 _ (by omega) (by omega)⟩, ⟨h1, s5 _ (by omega) (by omega)⟩, fun _ h => absurd h (by simp)⟩) (by simp) ?_
  walk_at "g"
  refine ge_call (El := NoX) D3 hr passA ?_
  walk_at "g"
  refine ge_call (El := NoX) D3 hr passA ?_
  walk_at "g"
  refine use_multiple [a, b] rfl (by simp only [List.forall_mem_cons]; exact ⟨⟨a1, s5 _ (by omega) (by omega)⟩, ⟨t1, s5 _ (by omega) (by omega)⟩, fun _ h => absurd h (by simp)⟩) (by simp) ?_
  walk_at "g"
  refine use_multiple [((lcms [a, b] : Nat) : Int), d] rfl (by simp only [List.forall_mem_cons]; exact ⟨⟨by omega, s5 _ (by omega) (by rw [lcms2]; omega)⟩, ⟨h1, s5 _ (by omega) (by omega)⟩, fun _ h => absurd h (by simp)⟩) (by simp) ?_
  walk_at "g"
  refine ite_n (fun z => absurd ?_ z) (fun _ => ?_)
  · rw [lcms3, lcms2, Int.natAbs_natCast, lcms2]
  walk_at "g"
  refine ge_call (El := NoX) D5 hr passA ?_
  walk_at "g"
  have p1 : a * d ≤ 10 ^ 40 * 10 ^ 40 := Int.mul_le_mul (by omega) (by omega) (by omega) (by decide)
  have p2 : b * d ≤ 10 ^ 40 * 10 ^ 40 := Int.mul_le_mul (by omega) (by omega) (by omega) (by decide)
  have p3 : 0 ≤ a * d := Int.mul_nonneg (by omega) (by omega)
  have p4 : 0 ≤ b * d := Int.mul_nonneg (by omega) (by omega)
  have i4 : (10 : Int) ^ 40 * 10 ^ 40 < 10 ^ 81 := by decide +kernel
  refine go_mul (wide_mul (a := 4900) (b := 4900) (sm _ (by omega) (by omega)) (sm _ (by omega) (by omega)) (by decide) (by decide) (by decide)) ?_
  walk_at "g"
  refine go_mul (wide_mul (a := 4900) (b := 4900) (sm _ (by omega) (by omega)) (sm _ (by omega) (by omega)) (by decide) (by decide) (by decide)) ?_
  walk_at "g"
  refine use_common [a * d, b * d] rfl (by simp only [List.forall_mem_cons]; exact ⟨s9 _ (by omega) (by omega), s9 _ (by omega) (by omega), fun _ h => absurd h (by simp)⟩) (by simp) ?_
  walk_at "g"
  refine ge_call (El := NoX) D5 hr passA ?_
  walk_at "g"
  refine use_common [a, b] rfl (by simp only [List.forall_mem_cons]; exact ⟨s9 _ (by omega) (by omega), s9 _ (by omega) (by omega), fun _ h => absurd h (by simp)⟩) (by simp) ?_
  refine go_mul (wide_mul (a := 4900) (b := 4900) (sm _ (by omega) (by omega)) (sm _ (by omega) (by rw [gcds2]; omega)) (by decide) (by decide) (by decide)) ?_
  walk_at "g"
  refine ite_n (fun z => absurd ?_ z) (fun _ => ?_)
  · rw [gcds2, gcds2, Int.natAbs_mul, Int.natAbs_mul, Nat.gcd_mul_right, Nat.mul_comm, Int.natCast_mul, Int.natAbs_of_nonneg (by omega : 0 ≤ d)]
  walk_at "g"
  refine ge_call (El := NoX) D5 hr passA ?_
  walk_at "g"
  refine use_common [a, -b] rfl (by simp only [List.forall_mem_cons]; exact ⟨s9 _ (by omega) (by omega), s9 _ (by omega) (by omega), fun _ h => absurd h (by simp)⟩) (by simp) ?_
  have gp : 0 < gcds [a, -b] := by rw [gcds2]; exact Nat.gcd_pos_of_pos_left _ (by omega)
  refine go_mod (by omega) ?_
  walk_at "g"
  refine ge_call (El := NoX) D3 hr passA ?_
  walk_at "g"
  refine use_multiple [a, b] rfl (by simp only [List.forall_mem_cons]; exact ⟨⟨a1, s5 _ (by omega) (by omega)⟩, ⟨t1, s5 _ (by omega) (by omega)⟩, fun _ h => absurd h (by simp)⟩) (by simp) ?_
  walk_at "g"
  refine go_mod (by omega) ?_
  walk_at "g"
  refine ge_call (El := NoX) D5 hr passA ?_
  walk_at "g"
  refine use_common [a, 0] rfl (by simp only [List.forall_mem_cons]; exact ⟨s9 _ (by omega) (by omega), s9 _ (by omega) (by omega), fun _ h => absurd h (by simp)⟩) (by simp) ?_
  walk_at "g"
  have z1 : a % ((gcds [a, -b] : Nat) : Int) = 0 := by
    rw [gcds2]
    exact Int.emod_eq_zero_of_dvd (castDvd.mpr (Nat.gcd_dvd_left _ _))
  have z2 : ((lcms [a, b] : Nat) : Int) % b = 0 := Int.emod_eq_zero_of_dvd (dvd_lcms (by simp))
  have z3 : ((gcds [a, 0] : Nat) : Int) = a := by
    rw [gcds2, Int.natAbs_zero, Nat.gcd_zero_right, Int.natAbs_of_nonneg (by omega)]
  rw [z1, z2, z3]
  refine go_eqD (d := .list ([0, 0, a].map PyData.int)) (e := .list ([0, 0, a].map PyData.int)) hr (dl_lst (xs := [0, 0, a].map V.int) (by walk_at "g_memd") dls_ints) (dl_lst (xs := [0, 0, a].map V.int) (by walk_at "g_memd") dls_ints) (shapedL _) (shapedL _) ?_
  rw [eqvL, decide_eq_true rfl]
  exact ⟨_, by walk_at "g_end", k n6 m6 c4 (by omega) c6⟩
end
/-! ### distances -/
theorem apart_zero {p : Int} (h : 1 ≤ p) : apartN p p = 0 := by
  unfold apartN
  rw [Int.emod_self]
  split <;> omega
theorem apart_nonneg {d p : Int} (h : 1 ≤ p) : 0 ≤ apartN d p ∧ 2 * apartN d p ≤ p := by
  have a := Int.emod_nonneg d (by omega : p ≠ 0)
  have b := Int.emod_lt_of_pos d (by omega : 0 < p)
  unfold apartN
  split <;> omega
theorem apart_neg {d p : Int} (h : 1 ≤ p) : apartN (-d) p = apartN d p := by
  have a := Int.emod_nonneg d (by omega : p ≠ 0)
  have b := Int.emod_lt_of_pos d (by omega : 0 < p)
  by_cases z : d % p = 0
  · have e : (-d) % p = 0 := Int.emod_eq_zero_of_dvd (Int.dvd_neg.mpr (Int.dvd_of_emod_eq_zero z))
    unfold apartN
    rw [e, z]
  · have e : (-d) % p = p - d % p := by
      have q := Int.mul_ediv_add_emod d p
      have : -d = (p - d % p) + p * (-(d / p) - 1) := by
        rw [Int.mul_sub, Int.mul_neg]
        omega
      rw [this, Int.add_mul_emod_self_left, Int.emod_eq_of_lt (by omega) (by omega)]
    unfold apartN
    rw [e]
    split <;> split <;> omega
theorem apart_add {d p k : Int} : apartN (d + p * k) p = apartN d p := by
  unfold apartN
  rw [Int.add_mul_emod_self_left]
theorem apart_is {d p : Int} (h : 1 ≤ p) : apartN d p = d % p ∨ apartN d p = p - d % p := by
  unfold apartN
  split <;> simp
/-- a multiple lies as far as told -/
theorem apart_near {d p : Int} (h : 1 ≤ p) : apartN (d - apartN d p) p = 0 ∨ apartN (d + apartN d p) p = 0 := by
  have q := Int.mul_ediv_add_emod d p
  rcases apart_is (d := d) h with e | e
  · left
    have z : d - apartN d p = 0 + p * (d / p) := by omega
    rw [z, apart_add]
    unfold apartN
    rw [Int.zero_emod]
    split <;> omega
  · right
    have z : d + apartN d p = 0 + p * (d / p + 1) := by rw [Int.mul_add]; omega
    rw [z, apart_add]
    unfold apartN
    rw [Int.zero_emod]
    split <;> omega
theorem apart_le {d p k : Int} (h : 1 ≤ p) : apartN d p ≤ (d + p * k).natAbs := by
  have q := Int.mul_ediv_add_emod d p
  have a := Int.emod_nonneg d (by omega : p ≠ 0)
  have b := Int.emod_lt_of_pos d (by omega : 0 < p)
  have e : d + p * k = d % p + p * (d / p + k) := by rw [Int.mul_add]; omega
  rw [e]
  generalize d / p + k = t
  have m1 : apartN d p ≤ d % p := by unfold apartN; split <;> omega
  have m2 : apartN d p ≤ p - d % p := by unfold apartN; split <;> omega
  by_cases ht : 0 ≤ t
  · have := Int.mul_nonneg (by omega : 0 ≤ p) ht
    omega
  · have : p * t ≤ p * (-1) := Int.mul_le_mul_of_nonneg_left (by omega) (by omega)
    omega
theorem apart_tri {d e p : Int} (h : 1 ≤ p) : apartN (d + e) p ≤ apartN d p + apartN e p := by
  have key : ∀ x : Int, ∃ k : Int, ((x + p * k).natAbs : Int) = apartN x p := by
    intro x
    have q := Int.mul_ediv_add_emod x p
    have a := Int.emod_nonneg x (by omega : p ≠ 0)
    have b := Int.emod_lt_of_pos x (by omega : 0 < p)
    rcases apart_is (d := x) h with z | z
    · exact ⟨-(x / p), by rw [Int.mul_neg]; omega⟩
    · exact ⟨-(x / p) - 1, by rw [Int.mul_sub, Int.mul_neg]; omega⟩
  obtain ⟨k, hk⟩ := key d
  obtain ⟨l, hl⟩ := key e
  have := apart_le (d := d + e) (k := k + l) h
  rw [Int.mul_add] at this
  omega
section
variable {P : Program} {w : World} {K : PySem.W.Frag} {mg : Str → Option Value} {base : Heap}
theorem fn_law_apart_right (B : Bi mg) (F : Df K mg "_law_apart_right" s_law_apart_right) (D1 : Fn P w K mg base CX0 "_law_draw" 1 spDraw) (D2 : Fn P w K mg base CX0 "_law_great" 3 spGreat) (D3 : Fn P w K mg base CX0 "apart" 3 spApart) : Fn P w K mg base CX0 "_law_apart_right" 4 (spRight 20) := by
  refine fn_plain F sc_law_apart_right (fun _ _ _ _ _ _ us hl => match us, hl with | [_], _ => rfl) (by decide) (by walk_at "g_len") ?_
  intro X f cdv A outer s H E0 L vs Q E hX nd hr h
  subst hX
  obtain ⟨p, c, ns, n, m, R, rfl, sb, h63, n0, n1, m0, k⟩ := h
  refine GSs.sub sb ?_
  show GSs _ (defBody s_law_apart_right) (bodyD Q) [("_law_pen_here", some (.ref p)), ("_law_period", none), ("_law_d", none), ("_law_more", none), ("_law_gap", none)] _
  refine gss_cons ?_
  walk_at "g"
  refine ge_call (El := NoX) D2 hr passA ?_
  walk_at "g"
  refine use_great Sub.refl h63 n0 (by omega) m0 fun a n4 m4 a1 a2 b7 b8 b9 => ?_
  walk_at "g"
  refine ge_call (El := NoX) D1 hr passA ?_
  walk_at "g"
  refine go_powL (r := 1000000000) ⟨by decide, by decide, by decide⟩ (by decide) ?_
  walk_at "g"
  refine use_draw Sub.refl h63 (by decide) (by decide) b7 (by omega) b9 fun d1 n2 m2 a5 a6 b1 b2 b3 => ?_
  walk_at "g"
  refine go_powL (r := 1000000000) ⟨by decide, by decide, by decide⟩ (by decide) ?_
  refine go_mulS (.inr (by decide)) ?_
  walk_at "g"
  refine go_powL (r := 100000000000000000) ⟨by decide, by decide, by decide⟩ (by decide) ?_
  walk_at "g"
  refine ge_call (El := NoX) D1 hr passA ?_
  walk_at "g"
  refine go_powL (r := 1000000) ⟨by decide, by decide, by decide⟩ (by decide) ?_
  walk_at "g"
  refine use_draw Sub.refl h63 (by decide) (by decide) b1 (by omega) b3 fun e n3 m3 a7 a8 b4 b5 b6 => ?_
  generalize hd : d1 * 1000000000 - 100000000000000000 = d
  walk_at "g"
  refine ge_call (El := NoX) D3 hr passA ?_
  walk_at "g"
  refine ⟨d, a, rfl, a1, ?_⟩
  obtain ⟨g0, g1⟩ := apart_nonneg (d := d) a1
  walk_at "g"
  refine ite_d (fun z => absurd z (by omega)) (fun _ => ?_)
  walk_at "g"
  refine go_mulS (.inl (by decide)) ?_
  walk_at "g"
  refine ite_d (fun z => absurd z (by omega)) (fun _ => ?_)
  walk_at "g"
  refine ge_call (El := NoX) D3 hr passA ?_
  walk_at "g"
  refine ⟨-d, a, rfl, a1, ?_⟩
  rw [apart_neg a1]
  walk_at "g"
  refine ite_n (fun z => absurd rfl z) (fun _ => ?_)
  walk_at "g"
  refine ge_call (El := NoX) D3 hr passA ?_
  walk_at "g"
  refine go_powL (r := 100000000000000000000000000000000000000000000000000) ⟨by decide, by decide, by decide⟩ (by decide) ?_
  have sm : ∀ z : Int, -(10 ^ 81) < z → z < 10 ^ 81 → z.natAbs < 2 ^ 4900 := fun z z1 z2 => by
    have : (10 : Nat) ^ 81 ≤ 2 ^ 4900 := by decide +kernel
    omega
  refine go_mul (wide_mul (a := 4900) (b := 4900) (sm _ (by omega) (by omega)) (sm _ (by omega) (by omega)) (by decide) (by decide) (by decide)) ?_
  walk_at "g"
  refine ⟨_, a, rfl, a1, ?_⟩
  rw [apart_add]
  walk_at "g"
  refine ite_n (fun z => absurd rfl z) (fun _ => ?_)
  walk_at "g"
  refine ge_call (El := NoX) D3 hr passA ?_
  walk_at "g"
  refine ⟨_, a, rfl, a1, ?_⟩
  walk_at "g"
  refine ite_n (fun hz => ?_) (fun hz => ?_)
  · walk_at "g"
    refine ge_call (El := NoX) D3 hr passA ?_
    walk_at "g"
    refine ⟨_, a, rfl, a1, ?_⟩
    walk_at "g"
    refine ite_n (fun z => absurd ((apart_near a1).resolve_left hz) z) (fun _ => ?_)
    walk_at "g"
    refine ge_call (El := NoX) D3 hr passA ?_
    walk_at "g"
    refine ⟨_, a, rfl, a1, ?_⟩
    walk_at "g"
    refine ge_call (El := NoX) D3 hr passA ?_
    walk_at "g"
    refine ⟨_, a, rfl, a1, ?_⟩
    walk_at "g"
    refine ite_d (fun _ => ?_) (fun z => absurd (apart_tri a1) z)
    walk_at "g"
    refine ge_call (El := NoX) D3 hr passA ?_
    walk_at "g"
    refine ⟨_, a, rfl, a1, ?_⟩
    rw [apart_zero a1]
    walk_at "g"
    rw [decide_eq_true rfl]
    exact ⟨_, by walk_at "g_end", k n3 m3 b4 (by omega) b6⟩
  · walk_at "g"
    refine ge_call (El := NoX) D3 hr passA ?_
    walk_at "g"
    refine ⟨_, a, rfl, a1, ?_⟩
    walk_at "g"
    refine ge_call (El := NoX) D3 hr passA ?_
    walk_at "g"
    refine ⟨_, a, rfl, a1, ?_⟩
    walk_at "g"
    refine ite_d (fun _ => ?_) (fun z => absurd (apart_tri a1) z)
    walk_at "g"
    refine ge_call (El := NoX) D3 hr passA ?_
    walk_at "g"
    refine ⟨_, a, rfl, a1, ?_⟩
    rw [apart_zero a1]
    walk_at "g"
    rw [decide_eq_true rfl]
    exact ⟨_, by walk_at "g_end", k n3 m3 b4 (by omega) b6⟩
end
section
variable {P : Program} {w : World} {K : PySem.W.Frag} {mg : Str → Option Value} {base : Heap}
theorem ok_law {f : Addr} {fd : FuncData} (B : Bi mg) (F : Fun K "law" "law" s_law f fd) (D0 : Fn P w K mg base CX0 "_law_pen" 1 (fun vs L Q _ => ∃ (a : Addr) (ns : List Int), vs = [.ref a] ∧ InL K L a (ns.map V.int) ∧ ∀ p c ms, ms.length ≤ 63 → Q (.ref p) ((p, penO c 0 0) :: (c, celO ms) :: L)))
    (D1 : Fn P w K mg base CX0 "_law_remainders_right" 4 (spRight 20)) (D2 : Fn P w K mg base CX0 "_law_divisors_right" 4 (spRight 20)) (D3 : Fn P w K mg base CX0 "_law_apart_right" 4 (spRight 20)) :
    FnOk P w K mg base CX0 5 f fd ["_law_script"] (toSp (spLaw K)) := by
  refine fn_entry F sc_law (by decide) (by walk_at "g_len") ?_
  intro X f cdv A outer s H E0 L vs Q E hX nd hr h
  subst hX
  obtain ⟨a, ns, rfl, hi, q⟩ := h
  show GSs _ (defBody s_law) (bodyD Q) [("_law_script", some (.ref a)), ("_law_pen_here", none), ("_law_turn", none)] L
  refine gss_cons ?_
  walk_at "g"
  refine ge_call (El := NoX) D0 hr passA ?_
  walk_at "g"
  refine ⟨a, ns, rfl, hi, fun p c ms h63 => ?_⟩
  walk_at "g"
  refine gs_range1 ?_ (G.Bi.range (by assumption))
  walk_at "g"
  refine ⟨6, fun i θ M => ∃ (n m : Int) (u : Option V), θ = ([("_law_script", some (.ref a)), ("_law_pen_here", some (.ref p)), ("_law_turn", u)] : En) ∧ Sub ((p, penO c n m) :: (c, celO ms) :: L) M ∧ 0 ≤ n ∧ n ≤ 60 * i ∧ 0 ≤ m, rfl, by decide, ⟨0, 0, none, rfl, Sub.refl, by decide, by decide, by decide⟩, ?_, ?_⟩
  · rintro i x θ M hi2 rfl ⟨n, m, u, rfl, sb, n0, n1, m0⟩
    refine gg_name (by walk_at "g_pv") ?_
    refine GSs.sub sb ?_
    walk_at "g"
    refine ge_call (El := NoX) D1 hr passA ?_
    walk_at "g"
    refine ⟨p, c, ms, n, m, L, rfl, Sub.refl, h63, n0, by omega, m0, fun n2 m2 a1 a2 a3 => ?_⟩
    walk_at "g"
    refine ge_call (El := NoX) D2 hr passA ?_
    walk_at "g"
    refine ⟨p, c, ms, n2, m2, L, rfl, Sub.refl, h63, a1, by omega, a3, fun n3 m3 b1 b2 b3 => ?_⟩
    walk_at "g"
    refine ge_call (El := NoX) D3 hr passA ?_
    walk_at "g"
    refine ⟨p, c, ms, n3, m3, L, rfl, Sub.refl, h63, b1, by omega, b3, fun n4 m4 c1 c2 c3 => ?_⟩
    walk_at "g"
    exact ⟨n4, m4, _, rfl, Sub.refl, c1, by omega, c3⟩
  · rintro θ M ⟨n, m, u, rfl, sb, n0, n1, m0⟩
    walk_at "g"
    exact ⟨_, Sub.refl, q _⟩
end
theorem all_mk {l : PySem.W.OpenLaw} {w : World} {K : PySem.W.Frag} {h : Heap} {mg : Str → Option Value} {fa : Addr} {f0 f1 f2 f3 f4 f5 f6 f7 f8 f9 f10 f11 f12 f13 f14 f15 f16 f17 : Addr} (X : K.In h) (G : h.Ns mainGlobals mg) (hfa : mg "law" = some (.ref fa))
    {od0 an0 od1 an1 od2 an2 od3 an3 od4 an4 od5 an5 od6 an6 od7 an7 od8 an8 od9 an9 od10 an10 od11 an11 od12 an12 od13 an13 od14 an14 od15 an15 od16 an16 od17 an17 : Option Addr} {sl0 sl1 sl2 sl3 sl4 sl5 sl6 sl7 sl8 sl9 sl10 sl11 sl12 sl13 sl14 sl15 sl16 sl17 : Array (Option Value)} {oc0 kV0 dc0 pm0 cd0 ct0 oc1 kV1 dc1 pm1 cd1 ct1 oc2 kV2 dc2 pm2 cd2 ct2 oc3 kV3 dc3 pm3 cd3 ct3 oc4 kV4 dc4 pm4 cd4 ct4 oc5 kV5 dc5 pm5 cd5 ct5 oc6 kV6 dc6 pm6 cd6 ct6 oc7 kV7 dc7 pm7 cd7 ct7 oc8 kV8 dc8 pm8 cd8 ct8 oc9 kV9 dc9 pm9 cd9 ct9 oc10 kV10 dc10 pm10 cd10 ct10 oc11 kV11 dc11 pm11 cd11 ct11 oc12 kV12 dc12 pm12 cd12 ct12 oc13 kV13 dc13 pm13 cd13 ct13 oc14 kV14 dc14 pm14 cd14 ct14 oc15 kV15 dc15 pm15 cd15 ct15 oc16 kV16 dc16 pm16 cd16 ct16 oc17 kV17 dc17 pm17 cd17 ct17 : Value}
    (a0 : PySem.W.nsIn K mainGlobals "is_whole" = some (some (.ref f0))) (l0 : K.lookup f0 = some ⟨oc0, od0, .func (PySem.W.fnOf "is_whole" "is_whole" (defArgs s_is_whole) (defBody s_is_whole) (defScope s_is_whole) .none kV0 dc0 pm0 an0 cd0 ct0), sl0⟩) (c0 : PySem.W.codeIn K cd0 "is_whole" = true) (k0 : PySem.W.keepIn K (.ref f0) = true)
    (a1 : PySem.W.nsIn K mainGlobals "need_whole" = some (some (.ref f1))) (l1 : K.lookup f1 = some ⟨oc1, od1, .func (PySem.W.fnOf "need_whole" "need_whole" (defArgs s_need_whole) (defBody s_need_whole) (defScope s_need_whole) .none kV1 dc1 pm1 an1 cd1 ct1), sl1⟩) (c1 : PySem.W.codeIn K cd1 "need_whole" = true) (k1 : PySem.W.keepIn K (.ref f1) = true)
    (a2 : PySem.W.nsIn K mainGlobals "need_above" = some (some (.ref f2))) (l2 : K.lookup f2 = some ⟨oc2, od2, .func (PySem.W.fnOf "need_above" "need_above" (defArgs s_need_above) (defBody s_need_above) (defScope s_need_above) .none kV2 dc2 pm2 an2 cd2 ct2), sl2⟩) (c2 : PySem.W.codeIn K cd2 "need_above" = true) (k2 : PySem.W.keepIn K (.ref f2) = true)
    (a3 : PySem.W.nsIn K mainGlobals "divisor_of" = some (some (.ref f3))) (l3 : K.lookup f3 = some ⟨oc3, od3, .func (PySem.W.fnOf "divisor_of" "divisor_of" (defArgs s_divisor_of) (defBody s_divisor_of) (defScope s_divisor_of) .none kV3 dc3 pm3 an3 cd3 ct3), sl3⟩) (c3 : PySem.W.codeIn K cd3 "divisor_of" = true) (k3 : PySem.W.keepIn K (.ref f3) = true)
    (a4 : PySem.W.nsIn K mainGlobals "common" = some (some (.ref f4))) (l4 : K.lookup f4 = some ⟨oc4, od4, .func (PySem.W.fnOf "common" "common" (defArgs s_common) (defBody s_common) (defScope s_common) .none kV4 dc4 pm4 an4 cd4 ct4), sl4⟩) (c4 : PySem.W.codeIn K cd4 "common" = true) (k4 : PySem.W.keepIn K (.ref f4) = true)
    (a5 : PySem.W.nsIn K mainGlobals "multiple" = some (some (.ref f5))) (l5 : K.lookup f5 = some ⟨oc5, od5, .func (PySem.W.fnOf "multiple" "multiple" (defArgs s_multiple) (defBody s_multiple) (defScope s_multiple) .none kV5 dc5 pm5 an5 cd5 ct5), sl5⟩) (c5 : PySem.W.codeIn K cd5 "multiple" = true) (k5 : PySem.W.keepIn K (.ref f5) = true)
    (a6 : PySem.W.nsIn K mainGlobals "apart" = some (some (.ref f6))) (l6 : K.lookup f6 = some ⟨oc6, od6, .func (PySem.W.fnOf "apart" "apart" (defArgs s_apart) (defBody s_apart) (defScope s_apart) .none kV6 dc6 pm6 an6 cd6 ct6), sl6⟩) (c6 : PySem.W.codeIn K cd6 "apart" = true) (k6 : PySem.W.keepIn K (.ref f6) = true)
    (a7 : PySem.W.nsIn K mainGlobals "inverse_of" = some (some (.ref f7))) (l7 : K.lookup f7 = some ⟨oc7, od7, .func (PySem.W.fnOf "inverse_of" "inverse_of" (defArgs s_inverse_of) (defBody s_inverse_of) (defScope s_inverse_of) .none kV7 dc7 pm7 an7 cd7 ct7), sl7⟩) (c7 : PySem.W.codeIn K cd7 "inverse_of" = true) (k7 : PySem.W.keepIn K (.ref f7) = true)
    (a8 : PySem.W.nsIn K mainGlobals "need_part" = some (some (.ref f8))) (l8 : K.lookup f8 = some ⟨oc8, od8, .func (PySem.W.fnOf "need_part" "need_part" (defArgs s_need_part) (defBody s_need_part) (defScope s_need_part) .none kV8 dc8 pm8 an8 cd8 ct8), sl8⟩) (c8 : PySem.W.codeIn K cd8 "need_part" = true) (k8 : PySem.W.keepIn K (.ref f8) = true)
    (a9 : PySem.W.nsIn K mainGlobals "together" = some (some (.ref f9))) (l9 : K.lookup f9 = some ⟨oc9, od9, .func (PySem.W.fnOf "together" "together" (defArgs s_together) (defBody s_together) (defScope s_together) .none kV9 dc9 pm9 an9 cd9 ct9), sl9⟩) (c9 : PySem.W.codeIn K cd9 "together" = true) (k9 : PySem.W.keepIn K (.ref f9) = true)
    (a10 : PySem.W.nsIn K mainGlobals "_law_pen" = some (some (.ref f10))) (l10 : K.lookup f10 = some ⟨oc10, od10, .func (PySem.W.fnOf "_law_pen" "_law_pen" (defArgs s_law_pen) (defBody s_law_pen) (defScope s_law_pen) .none kV10 dc10 pm10 an10 cd10 ct10), sl10⟩) (c10 : PySem.W.codeIn K cd10 "_law_pen" = true) (k10 : PySem.W.keepIn K (.ref f10) = true)
    (a11 : PySem.W.nsIn K mainGlobals "_law_draw" = some (some (.ref f11))) (l11 : K.lookup f11 = some ⟨oc11, od11, .func (PySem.W.fnOf "_law_draw" "_law_draw" (defArgs s_law_draw) (defBody s_law_draw) (defScope s_law_draw) .none kV11 dc11 pm11 an11 cd11 ct11), sl11⟩) (c11 : PySem.W.codeIn K cd11 "_law_draw" = true) (k11 : PySem.W.keepIn K (.ref f11) = true)
    (a12 : PySem.W.nsIn K mainGlobals "_law_pick" = some (some (.ref f12))) (l12 : K.lookup f12 = some ⟨oc12, od12, .func (PySem.W.fnOf "_law_pick" "_law_pick" (defArgs s_law_pick) (defBody s_law_pick) (defScope s_law_pick) .none kV12 dc12 pm12 an12 cd12 ct12), sl12⟩) (c12 : PySem.W.codeIn K cd12 "_law_pick" = true) (k12 : PySem.W.keepIn K (.ref f12) = true)
    (a13 : PySem.W.nsIn K mainGlobals "_law_great" = some (some (.ref f13))) (l13 : K.lookup f13 = some ⟨oc13, od13, .func (PySem.W.fnOf "_law_great" "_law_great" (defArgs s_law_great) (defBody s_law_great) (defScope s_law_great) .none kV13 dc13 pm13 an13 cd13 ct13), sl13⟩) (c13 : PySem.W.codeIn K cd13 "_law_great" = true) (k13 : PySem.W.keepIn K (.ref f13) = true)
    (a14 : PySem.W.nsIn K mainGlobals "_law_remainders_right" = some (some (.ref f14))) (l14 : K.lookup f14 = some ⟨oc14, od14, .func (PySem.W.fnOf "_law_remainders_right" "_law_remainders_right" (defArgs s_law_remainders_right) (defBody s_law_remainders_right) (defScope s_law_remainders_right) .none kV14 dc14 pm14 an14 cd14 ct14), sl14⟩) (c14 : PySem.W.codeIn K cd14 "_law_remainders_right" = true) (k14 : PySem.W.keepIn K (.ref f14) = true)
    (a15 : PySem.W.nsIn K mainGlobals "_law_divisors_right" = some (some (.ref f15))) (l15 : K.lookup f15 = some ⟨oc15, od15, .func (PySem.W.fnOf "_law_divisors_right" "_law_divisors_right" (defArgs s_law_divisors_right) (defBody s_law_divisors_right) (defScope s_law_divisors_right) .none kV15 dc15 pm15 an15 cd15 ct15), sl15⟩) (c15 : PySem.W.codeIn K cd15 "_law_divisors_right" = true) (k15 : PySem.W.keepIn K (.ref f15) = true)
    (a16 : PySem.W.nsIn K mainGlobals "_law_apart_right" = some (some (.ref f16))) (l16 : K.lookup f16 = some ⟨oc16, od16, .func (PySem.W.fnOf "_law_apart_right" "_law_apart_right" (defArgs s_law_apart_right) (defBody s_law_apart_right) (defScope s_law_apart_right) .none kV16 dc16 pm16 an16 cd16 ct16), sl16⟩) (c16 : PySem.W.codeIn K cd16 "_law_apart_right" = true) (k16 : PySem.W.keepIn K (.ref f16) = true)
    (a17 : PySem.W.nsIn K mainGlobals "law" = some (some (.ref f17))) (l17 : K.lookup f17 = some ⟨oc17, od17, .func (PySem.W.fnOf "law" "law" (defArgs s_law) (defBody s_law) (defScope s_law) .none kV17 dc17 pm17 an17 cd17 ct17), sl17⟩) (c17 : PySem.W.codeIn K cd17 "law" = true) (k17 : PySem.W.keepIn K (.ref f17) = true)
    (z0 : PySem.W.nsIn K mainGlobals "len" = some none) (z1 : PySem.W.nsIn K mainGlobals "int" = some none) (z2 : PySem.W.nsIn K mainGlobals "abs" = some none) (z3 : PySem.W.nsIn K mainGlobals "min" = some none) (z4 : PySem.W.nsIn K mainGlobals "max" = some none) (z5 : PySem.W.nsIn K mainGlobals "range" = some none) (z6 : PySem.W.nsIn K mainGlobals "isinstance" = some none) (z7 : PySem.W.nsIn K mainGlobals "list" = some none) (z8 : PySem.W.nsIn K mainGlobals "tuple" = some none) (z9 : PySem.W.nsIn K mainGlobals "bool" = some none) (z10 : PySem.W.nsIn K mainGlobals "str" = some none) (z11 : PySem.W.nsIn K mainGlobals "repr" = some none) (z12 : PySem.W.nsIn K mainGlobals "sum" = some none) (z13 : PySem.W.nsIn K mainGlobals "sorted" = some none) (z14 : PySem.W.nsIn K mainGlobals "any" = some none) (z15 : PySem.W.nsIn K mainGlobals "all" = some none) (z16 : PySem.W.nsIn K mainGlobals "enumerate" = some none) (z17 : PySem.W.nsIn K mainGlobals "zip" = some none) :
    ∃ fd : FuncData, (∀ (s : Shared) (v : Value), BindsTo s fd ⟨[v], []⟩ [("_law_script", v)]) ∧ ∀ base : Heap, K.In base → base.Ns mainGlobals mg → FnOk l.prog w K mg base CX0 5 fa fd ["_law_script"] (toSp (spLaw K)) := by
  have e := hfa.symm.trans (PySem.W.mg_of X G a17)
  cases e
  have B : Bi mg := ⟨PySem.W.mg_none_of X G z0, PySem.W.mg_none_of X G z1, PySem.W.mg_none_of X G z2, PySem.W.mg_none_of X G z3, PySem.W.mg_none_of X G z4, PySem.W.mg_none_of X G z5, PySem.W.mg_none_of X G z6, PySem.W.mg_none_of X G z7, PySem.W.mg_none_of X G z8, PySem.W.mg_none_of X G z9, PySem.W.mg_none_of X G z10, PySem.W.mg_none_of X G z11, PySem.W.mg_none_of X G z12, PySem.W.mg_none_of X G z13, PySem.W.mg_none_of X G z14, PySem.W.mg_none_of X G z15, PySem.W.mg_none_of X G z16, PySem.W.mg_none_of X G z17⟩
  have F_is_whole : Df K mg "is_whole" s_is_whole := ⟨_, _, PySem.W.mg_of X G a0, fun_mk l0 c0 k0⟩
  have F_need_whole : Df K mg "need_whole" s_need_whole := ⟨_, _, PySem.W.mg_of X G a1, fun_mk l1 c1 k1⟩
  have F_need_above : Df K mg "need_above" s_need_above := ⟨_, _, PySem.W.mg_of X G a2, fun_mk l2 c2 k2⟩
  have F_divisor_of : Df K mg "divisor_of" s_divisor_of := ⟨_, _, PySem.W.mg_of X G a3, fun_mk l3 c3 k3⟩
  have F_common : Df K mg "common" s_common := ⟨_, _, PySem.W.mg_of X G a4, fun_mk l4 c4 k4⟩
  have F_multiple : Df K mg "multiple" s_multiple := ⟨_, _, PySem.W.mg_of X G a5, fun_mk l5 c5 k5⟩
  have F_apart : Df K mg "apart" s_apart := ⟨_, _, PySem.W.mg_of X G a6, fun_mk l6 c6 k6⟩
  have F_inverse_of : Df K mg "inverse_of" s_inverse_of := ⟨_, _, PySem.W.mg_of X G a7, fun_mk l7 c7 k7⟩
  have F_need_part : Df K mg "need_part" s_need_part := ⟨_, _, PySem.W.mg_of X G a8, fun_mk l8 c8 k8⟩
  have F_together : Df K mg "together" s_together := ⟨_, _, PySem.W.mg_of X G a9, fun_mk l9 c9 k9⟩
  have F_law_pen : Df K mg "_law_pen" s_law_pen := ⟨_, _, PySem.W.mg_of X G a10, fun_mk l10 c10 k10⟩
  have F_law_draw : Df K mg "_law_draw" s_law_draw := ⟨_, _, PySem.W.mg_of X G a11, fun_mk l11 c11 k11⟩
  have F_law_pick : Df K mg "_law_pick" s_law_pick := ⟨_, _, PySem.W.mg_of X G a12, fun_mk l12 c12 k12⟩
  have F_law_great : Df K mg "_law_great" s_law_great := ⟨_, _, PySem.W.mg_of X G a13, fun_mk l13 c13 k13⟩
  have F_law_remainders_right : Df K mg "_law_remainders_right" s_law_remainders_right := ⟨_, _, PySem.W.mg_of X G a14, fun_mk l14 c14 k14⟩
  have F_law_divisors_right : Df K mg "_law_divisors_right" s_law_divisors_right := ⟨_, _, PySem.W.mg_of X G a15, fun_mk l15 c15 k15⟩
  have F_law_apart_right : Df K mg "_law_apart_right" s_law_apart_right := ⟨_, _, PySem.W.mg_of X G a16, fun_mk l16 c16 k16⟩
  have FL := fun_mk (st := s_law) l17 c17 k17
  exact ⟨PySem.W.fnOf "law" "law" (defArgs s_law) (defBody s_law) (defScope s_law) .none kV17 dc17 pm17 an17 cd17 ct17, fun s v => .of_eq rfl, fun base _ _ => by
    have E1 := fn_is_whole (P := l.prog) (w := w) (base := base) B F_is_whole
    have E2 := fn_need_whole (P := l.prog) (w := w) (base := base) B F_need_whole E1
    have E3 := fn_need_above (P := l.prog) (w := w) (base := base) B F_need_above E1
    have E4 := fn_divisor_of (P := l.prog) (w := w) (base := base) B F_divisor_of
    have E5 := fn_common B F_common E2 E4
    have E6 := fn_multiple B F_multiple E3 E4
    have E7 := fn_apart B F_apart E2 E3
    have E8 := fn_inverse_of (P := l.prog) (w := w) (base := base) B F_inverse_of
    have E9 := fn_need_part B F_need_part E1
    have E10 := fn_together B F_together E9 E4 E8
    have E11 := fn_law_pen (P := l.prog) (w := w) (base := base) B F_law_pen
    have E12 := fn_law_draw (P := l.prog) (w := w) (base := base) B F_law_draw
    have E13 := fn_law_pick B F_law_pick E12
    have E14 := fn_law_great B F_law_great E12 E13
    have E15 := fn_law_remainders_right B F_law_remainders_right E12 E14 E6 E10 E5
    have E16 := fn_law_divisors_right B F_law_divisors_right E14 E6 E5
    have E17 := fn_law_apart_right B F_law_apart_right E12 E14 E7
    exact ok_law B FL E11 E15 E16 E17⟩
theorem walk {l : PySem.W.OpenLaw} {q : Program} {loose : List Str} {XP : (Str → Option Value) → Heap → Prop} {YP : World → Heap → Prop} {d : DefRec} {K : Params → PySem.W.Frag} (hn : l.most = some 63) (hdf : d.params.defaults = [])
    (hY : ∀ (w : World) (h : Heap), YP w h → (K w.params).In h)
    (F : ∀ (w : World) (mg : Str → Option Value) (fa : Addr) (h : Heap), (K w.params).In h → h.Ns mainGlobals mg → mg d.name = some (.ref fa) →
      ∃ fd : FuncData, (∀ (s : Shared) (u : Value), BindsTo s fd ⟨[u], []⟩ [("_law_script", u)]) ∧ ∀ base : Heap, (K w.params).In base → base.Ns mainGlobals mg → FnOk l.prog w (K w.params) mg base CX0 5 fa fd ["_law_script"] (toSp (spLaw (K w.params)))) :
    PySem.W.WalkO q loose XP YP l.row.toRowW d [] (fun f vs => PySem.call f vs) :=
  L2.walk_of (n := 63) (k := 5) (x := "_law_script") (CX := fun _ => CX0) (sp := fun w => toSp (spLaw (K w.params))) hn (by decide) hdf ⟨rfl, by decide, by decide⟩ hY F (fun _ _ _ _ _ _ hS => law_in hS) fun _ _ _ _ _ z => z
end T
open PySem PySem.W PyProof.Rows in
set_option maxRecDepth 100000 in
set_option maxHeartbeats 0 in
theorem PySem.Challenge.cw_wheelreach_k04_whole_great_numbers_holds : PySem.Challenge.rw_wheelreach_k04_whole_great_numbers.Holds := by
  w_on; o_law; k_head; (case hw => w_witness2)
  k_fill
  refine T.walk (l := PySem.Challenge.rw_wheelreach_k04_whole_great_numbers) rfl rfl (fun w h Y => PySem.W.kIn_of Y) ?F
  case F =>
    intro w mg fa h KX G hmg
    refine' T.all_mk KX G hmg ?a0 ?l0 ?c0 ?k0 ?a1 ?l1 ?c1 ?k1 ?a2 ?l2 ?c2 ?k2 ?a3 ?l3 ?c3 ?k3 ?a4 ?l4 ?c4 ?k4 ?a5 ?l5 ?c5 ?k5 ?a6 ?l6 ?c6 ?k6 ?a7 ?l7 ?c7 ?k7 ?a8 ?l8 ?c8 ?k8 ?a9 ?l9 ?c9 ?k9 ?a10 ?l10 ?c10 ?k10 ?a11 ?l11 ?c11 ?k11 ?a12 ?l12 ?c12 ?k12 ?a13 ?l13 ?c13 ?k13 ?a14 ?l14 ?c14 ?k14 ?a15 ?l15 ?c15 ?k15 ?a16 ?l16 ?c16 ?k16 ?a17 ?l17 ?c17 ?k17 ?z0 ?z1 ?z2 ?z3 ?z4 ?z5 ?z6 ?z7 ?z8 ?z9 ?z10 ?z11 ?z12 ?z13 ?z14 ?z15 ?z16 ?z17
    (case a0 => k_is)
    (case l0 => k_is)
    (case c0 => k_is)
    (case k0 => k_is)
    (case a1 => k_is)
    (case l1 => k_is)
    (case c1 => k_is)
    (case k1 => k_is)
    (case a2 => k_is)
    (case l2 => k_is)
    (case c2 => k_is)
    (case k2 => k_is)
    (case a3 => k_is)
    (case l3 => k_is)
    (case c3 => k_is)
    (case k3 => k_is)
    (case a4 => k_is)
    (case l4 => k_is)
    (case c4 => k_is)
    (case k4 => k_is)
    (case a5 => k_is)
    (case l5 => k_is)
    (case c5 => k_is)
    (case k5 => k_is)
    (case a6 => k_is)
    (case l6 => k_is)
    (case c6 => k_is)
    (case k6 => k_is)
    (case a7 => k_is)
    (case l7 => k_is)
    (case c7 => k_is)
    (case k7 => k_is)
    (case a8 => k_is)
    (case l8 => k_is)
    (case c8 => k_is)
    (case k8 => k_is)
    (case a9 => k_is)
    (case l9 => k_is)
    (case c9 => k_is)
    (case k9 => k_is)
    (case a10 => k_is)
    (case l10 => k_is)
    (case c10 => k_is)
    (case k10 => k_is)
    (case a11 => k_is)
    (case l11 => k_is)
    (case c11 => k_is)
    (case k11 => k_is)
    (case a12 => k_is)
    (case l12 => k_is)
    (case c12 => k_is)
    (case k12 => k_is)
    (case a13 => k_is)
    (case l13 => k_is)
    (case c13 => k_is)
    (case k13 => k_is)
    (case a14 => k_is)
    (case l14 => k_is)
    (case c14 => k_is)
    (case k14 => k_is)
    (case a15 => k_is)
    (case l15 => k_is)
    (case c15 => k_is)
    (case k15 => k_is)
    (case a16 => k_is)
    (case l16 => k_is)
    (case c16 => k_is)
    (case k16 => k_is)
    (case a17 => k_is)
    (case l17 => k_is)
    (case c17 => k_is)
    (case k17 => k_is)
    (case z0 => k_is)
    (case z1 => k_is)
    (case z2 => k_is)
    (case z3 => k_is)
    (case z4 => k_is)
    (case z5 => k_is)
    (case z6 => k_is)
    (case z7 => k_is)
    (case z8 => k_is)
    (case z9 => k_is)
    (case z10 => k_is)
    (case z11 => k_is)
    (case z12 => k_is)
    (case z13 => k_is)
    (case z14 => k_is)
    (case z15 => k_is)
    (case z16 => k_is)
    (case z17 => k_is)
