import PyProof.Rows.All
import Wide.All
import OpenK.AllK
import Wide.FinOn
import Lean
import PySem.Challenge.RW_pb0353_01
set_option compiler.extract_closed false
set_option Elab.async false
set_option maxRecDepth 100000
set_option maxHeartbeats 8000000
namespace Mine
section
open PySem PySem.W PyProof.Rows
noncomputable abbrev pr : Program := Challenge.rw_pb0353_01.prog
noncomputable def tops : List Stmt := Challenge.rw_pb0353_01.prog.main.body
noncomputable def q0 : Program := { Challenge.rw_pb0353_01.prog with main := { Challenge.rw_pb0353_01.prog.main with body := tops.take 1 ++ ((tops.drop 2).take 9 ++ ((tops.drop 12).take 15 ++ ((tops.drop 28).take 1 ++ tops.drop 30))) } }
theorem q0_len : q0.main.body.length = 33 := by decide +kernel
noncomputable def bootT (P : Params) : BT := .node (boot_o_0 P) (.node (boot_o_1 P) (.node (boot_o_3 P) (.node (boot_o_7 P) .nil .nil) .nil) (.node (boot_o_5 P) (.node (boot_o_9 P) .nil .nil) .nil)) (.node (boot_o_2 P) (.node (boot_o_4 P) (.node (boot_o_8 P) .nil .nil) .nil) (.node (boot_o_6 P) (.node (boot_o_10 P) .nil .nil) .nil))
theorem bootT_eq (P : Params) : absHeap (bootT P) 11 (boot_heap P).life = boot_heap P := by kernel_rfl
noncomputable def runP (st : SharedT → Thread → Option (SharedT × Thread)) (ok : Thread → Bool) : Nat → SharedT → Thread → Option SharedT
  | 0, _, _ => none
  | n + 1, s, t => match through t with
    | true => some s
    | false => match ok t with
      | false => none
      | true => match st s t with
        | some (s', t') => runP st ok n s' t'
        | none => none
theorem runP_top {p : Program} {w : World} {m : Nat} {ann : Option Value} : ∀ {n : Nat} {s r : SharedT} {t : Thread}, runP (stepT (denote treeTable) p w) (stepOk m ann) n s t = some r → topRun treeTable p w m ann n s.abs t = some r.abs
  | 0, _, _, _, h => by cases h
  | n + 1, s, r, t, h => by
    unfold runP at h
    unfold topRun
    cases ht : through t with
    | true => rw [ht] at h; cases h; rfl
    | false =>
      rw [ht] at h
      cases hk : stepOk m ann t with
      | false => rw [hk] at h; cases h
      | true =>
        rw [hk] at h
        cases hs : stepT (denote treeTable) p w s t with
        | none => rw [hs] at h; cases h
        | some x => obtain ⟨s₂, t₂⟩ := x; rw [hs] at h; rw [stepT_spec hs]; exact runP_top h
noncomputable def state0 (w : World) (os : OsState) : SharedT := ⟨bootT w.params, 11, (boot_heap w.params).life, Array.mk [], boot_drawn, boot_toks, os⟩
theorem ground0 (P : Params) : (boot_heap P).isNs mainGlobals = true ∧ (boot_heap P).objs.size = 11 ∧ (boot_heap P).nsMap mainGlobals "__annotations__" = some (.ref 6) := ⟨by kernel_rfl, by kernel_rfl, by kernel_rfl⟩
theorem leftT {p q : Program} {loose : List Str} {Xt : Shared → Bool} {α : Type} {Yf : Shared → α} {Ya : World → α} {N M : Nat}
    (hopen : ∀ w : World, (fencedOpening treeTable p w N).map (fun s => (s.heap, s.gens, s.drawn, s.toks)) = some (boot_heap w.params, Array.mk [], boot_drawn, boot_toks)) (le : Nat.ble M N = true)
    (h : ∀ (w : World) (os : OsState), (runP (stepT (denote treeTable) p w) (stepOk 11 (some (.ref 6))) M (state0 w os) (topStub p)).map (fun s =>
      ((staticsOk (importedModules p.main.body) (boot_heap w.params) s.abs.heap && namesBound p s.abs.heap && gensDone s.abs && laidKept (boot_heap w.params) s.abs.heap), openSeen q loose (importedModules p.main.body) Xt true s.abs, Yf s.abs)) = some (true, openGood q loose, Ya w)) :
    LeftO p q loose Xt Yf Ya N := fun w => by
  obtain ⟨⟨hp, gs, d, k, os⟩, e, e'⟩ := Option.map_eq_some_iff.mp (hopen w)
  obtain ⟨rfl, rfl, rfl, rfl⟩ : hp = boot_heap w.params ∧ gs = Array.mk [] ∧ d = boot_drawn ∧ k = boot_toks := by simpa using e'
  obtain ⟨z1, z2, z3⟩ := ground0 w.params
  obtain ⟨s, hs, hl⟩ := Option.map_eq_some_iff.mp (h w os)
  obtain ⟨l1, l2, l3⟩ : _ ∧ _ ∧ _ := by simpa only [Prod.mk.injEq] using hl
  have r := runP_top hs
  have hab : (state0 w os).abs = ⟨boot_heap w.params, Array.mk [], boot_drawn, boot_toks, os⟩ := by
    show Shared.mk (absHeap (bootT w.params) 11 (boot_heap w.params).life) _ _ _ _ = _
    rw [bootT_eq]; rfl
  rw [hab] at r
  have r := topRun_mono (N - M) _ _ _ _ r
  rw [show M + (N - M) = N by have := Nat.le_of_ble_eq_true le; omega] at r
  have t : topFrom treeTable p w N ⟨boot_heap w.params, Array.mk [], boot_drawn, boot_toks, os⟩ = some s.abs := by
    unfold topFrom
    dsimp only
    rw [z1, z2, z3, r]
    show (match staticsOk (importedModules p.main.body) (boot_heap w.params) s.abs.heap && namesBound p s.abs.heap && gensDone s.abs && laidKept (boot_heap w.params) s.abs.heap with | true => some s.abs | false => none) = _
    rw [l1]
  unfold openEnds
  rw [e]
  show (topFrom treeTable p w N _).map _ = _
  rw [t]
  exact congrArg some (Prod.ext l2 l3)
theorem hopen0 : ∀ w : World, (fencedOpening treeTable pr w 4702).map (fun s => (s.heap, s.gens, s.drawn, s.toks)) = some (boot_heap w.params, Array.mk [], boot_drawn, boot_toks) := boot_open rfl (by decide +kernel) fun _ => rfl
noncomputable def runQ (w : World) (os : OsState) : Option SharedT := runP (Fast.tw10156331382660048174 (Fast.tw11892475500146522536 Fast.tw14364793385576792824) pr w) (Fast.tw6613529449190102663 11 (some (.ref 6))) 2400 (state0 w os) (topStub pr)
theorem runQ_eq (w : World) (os : OsState) : runP (stepT (denote treeTable) pr w) (stepOk 11 (some (.ref 6))) 2400 (state0 w os) (topStub pr) = runQ w os := by
  unfold runQ
  rw [← Fast.te10156331382660048174, ← Fast.te11892475500146522536, ← Fast.te14364793385576792824, ← Fast.te6613529449190102663]
noncomputable def xt0 : Shared → Bool := fun s => xlAt q0 [] s && recOk (RowW.records Challenge.rw_pb0353_01.row.toRowW) s
theorem run_ok (w : World) (os : OsState) : (runQ w os).map (fun s => staticsOk (importedModules pr.main.body) (boot_heap w.params) s.abs.heap && namesBound pr s.abs.heap && gensDone s.abs && laidKept (boot_heap w.params) s.abs.heap) = some true := by kernel_rfl
theorem run_seen (w : World) (os : OsState) : (runQ w os).map (fun s => Fast.tw4187177175401517315 q0 [] (importedModules pr.main.body) xt0 true s.abs) = some (openGood q0 []) := by kernel_rfl
theorem left0 {α : Type} {Yf : Shared → α} {Ya : World → α} (h : ∀ (w : World) (os : OsState), (runQ w os).map (fun s => Yf s.abs) = some (Ya w)) : LeftO pr q0 [] xt0 Yf Ya 4702 := by
  refine leftT hopen0 (M := 2400) rfl (fun w os => ?_)
  rw [runQ_eq, Fast.te4187177175401517315]
  have e1 := run_ok w os
  have e2 := run_seen w os
  have e3 := h w os
  cases hr : runQ w os with
  | none => rw [hr] at e1; cases e1
  | some s =>
    rw [hr] at e1 e2 e3
    exact congrArg some (Prod.ext (Option.some.inj e1) (Prod.ext (Option.some.inj e2) (Option.some.inj e3)))
local macro_rules | `(tactic| o_head $H) => `(tactic| (refine holds_open (q := q0) (loose := []) (Xt := xt0) (XP := XL q0 []) (Yf := Hook.obs $H) (Ya := Hook.val $H) (YP := Hook.says $H) (N := 4702) ?hl (Hook.of $H) (Hook.keeps $H) (fun s e => xl_of s (Bool.and_eq_true_iff.mp e).1) XL.keeps (by rfl) (by rfl) (by rfl) (fun s e => recFacts_of (Bool.and_eq_true_iff.mp e).2) (by rfl) (by first | assumption | decide +kernel) (by decide +kernel) ⟨rfl, rfl, rfl, rfl, rfl, by decide +kernel⟩ ?hw ?hc; (case hl => (refine left0 (fun w os => ?_); walk_say "AT HL"; kernel_rfl))))
theorem law_said : OpenLaw.wellSaid Challenge.rw_pb0353_01 = true := by
  rw [Fast.te9446332074065402090]
  kernel_rfl
local macro_rules | `(tactic| o_law) => `(tactic| refine holds_law law_said fun said => ?_)
open_top hd for PySem.Challenge.rw_pb0353_01
end
section
open PySem PySem.W PyProof.Rows PySem.Spec PySem.Calls
/-- what a def's body hands back -/
noncomputable def Ret (g : Heap) (s : Shared) (R : Value → List (Addr × Obj) → Prop) (v : Value) (s' : Shared) : Prop :=
  ∃ L' m' own' h' tk', s' = { s with heap := h', toks := tk' } ∧ Fr g L' h' m' ∧ News g L' h' own' ∧ R v own'

theorem Ret.intro {g : Heap} {s : Shared} {R : Value → List (Addr × Obj) → Prop} {v : Value} {L' : Addr} {m' : Str → Option Value} {own' : List (Addr × Obj)} {h' : Heap} {tk' : Nat}
    (F : Fr g L' h' m') (N : News g L' h' own') (r : R v own') : Ret g s R v { s with heap := h', toks := tk' } := ⟨L', m', own', h', tk', rfl, F, N, r⟩

noncomputable def Apart (own rest : List (Addr × Obj)) : Prop := ∀ p ∈ own, ∀ q ∈ rest, p.1 ≠ q.1

theorem code_defC {prog : Program} {w : World} {A₀ A : Around} {s : Shared} {base h₀ : Heap} {outer : List Env} {L : Addr} {m : Str → Option Value} {env : Env} {K : Frag} {mg mb : Str → Option Value} {p : Program} {loose : List Str} {mean : ExcName → Option Value}
    {name qual : Str} {params : Arguments} {body : List Stmt} {scope : Scope} {dV kV doc pm cdv ct oc : Value} {an od : Option Addr} {osl : Array (Option Value)} {f : Addr} {args : List Value} {own rest : List (Addr × Obj)} {R : Value → List (Addr × Obj) → Prop} {Rr : Result → Shared → Prop}
    (binds : List (Str × Value))
    (B : Below A₀ base outer h₀) (F : Fr h₀ L s.heap m) (X₀ : K.In h₀) (N : News h₀ L s.heap (own ++ rest)) (hap : Apart own rest) (T : Top p loose mean mg mb h₀) (hA : A.frames = some (env :: outer)) (hf : env.frame = some L) (hke : env.scope.kind = .function)
    (ret : ∀ v own' h' tk', Fr h₀ L h' m → News h₀ L h' (own' ++ rest) → Apart own' rest → R v own' → Rr (.ok (.ret v)) { s with heap := h', toks := tk' })
    (ho : K.lookup f = some ⟨oc, od, .func (fnOf name qual params body scope dV kV doc pm an cdv ct), osl⟩) (hcd : codeIn K cdv qual = true) (hroom : A.depth < recursionLimit)
    (hbind : BindsTo s (fnOf name qual params body scope dV kV doc pm an cdv ct) ⟨args, []⟩ binds) (hloc : ∀ y ∈ binds, scope.names.lookup y.1 = some .local)
    (h : ∀ g L' s₁, Fr g L' s₁.heap (fun y => binds.reverse.lookup y) → News g L' s₁.heap own → Below A base (env :: outer) g → K.In g → Top p loose mean mg mb g → (∀ q ∈ rest, g.get? q.1 = some q.2) → (∀ q ∈ own, q.1 < L') →
      wpAny (model prog w) (A.deeper (envOf qual scope L' f cdv)) (execs body (envOf qual scope L' f cdv))
        (fun fl s' => Ret g s₁ R (match fl with | .ret v => v | _ => .none) s') (fun _ _ => False) s₁)
    (hco : scope.isCoroutine = false) (hgen : scope.isGenerator = false) (hk : scope.kind = .function)
    (hcell : ∀ x ∈ scope.names, x.2 ≠ .cell) : codeAny (model prog w) A (.call (.ref f) ⟨args, []⟩) Rr s := by
  have No : News h₀ L s.heap own := fun p hp => N p (List.mem_append_left _ hp)
  obtain ⟨FG, BG, st, lv⟩ := groundX (R := Rr) B F No hA hf hke
  have Xg : K.In (hideAll s.heap (own.map (·.1))) := X₀.keeps fun b o e => st b o e
  have Tg : Top p loose mean mg mb (hideAll s.heap (own.map (·.1))) := T.keeps fun b o e => st b o e
  have hrest : ∀ q ∈ rest, (hideAll s.heap (own.map (·.1))).get? q.1 = some q.2 := fun q hq => by
    refine hideAll_get _ (N q (List.mem_append_right _ hq)).1 fun hm => ?_
    obtain ⟨x, hx, e⟩ := List.mem_map.mp hm
    exact hap x hx q hq e
  refine (codeAny_call_def (fd := fnX name qual params body scope [] dV kV doc pm an cdv ct) (body := body) (binds := binds) hroom ((X₀.keeps F.keep) _ _ ho) rfl (T.nolimit.keeps F.keep) (codeRec_of (X₀.keeps F.keep) hcd) rfl hbind hcell hloc (fun h₁ hns hk₁ => ?_) hco hgen hk)
  refine wpAny_mono (h (hideAll s.heap (own.map (·.1))) s.heap.objs.size { s with heap := h₁, toks := s.toks + binds.length } ⟨hns, fun b o e => hk₁ b o (of_hideAll _ e), Nat.le_of_eq (hideAll_size _ _)⟩
    (fun p hp => ⟨hk₁ _ _ (No p hp).1, Nat.ne_of_lt (Heap.lt_size (No p hp).1), hideAll_none _ (List.mem_map_of_mem hp)⟩) BG Xg Tg hrest (fun q hq => Heap.lt_size (No q hq).1)) (fun fl s' hl => ?_) fun _ _ y => y.elim
  obtain ⟨L', m', own', h', tk', rfl, F', N', r⟩ := hl
  refine lv _ _ ⟨L', m', own', F', N', fun F1 N1 => ?_⟩
  have hgo : ∀ p ∈ own', ∀ q ∈ rest, p.1 ≠ q.1 := fun p hp q hq e => by
    have h1 := (N' p hp).2.2
    rw [e, hrest q hq] at h1
    cases h1
  refine ret _ own' h' tk' F1 (fun p hp => ?_) hgo r
  rcases List.mem_append.mp hp with hp | hp
  · exact N1 p hp
  · exact ⟨F'.keep _ _ (hrest p hp), (N p (List.mem_append_right _ hp)).2⟩

theorem code_defF {prog : Program} {w : World} {A₀ A : Around} {s : Shared} {base h₀ : Heap} {outer : List Env} {L : Addr} {m : Str → Option Value} {env : Env} {K : Frag} {mg mb : Str → Option Value} {p : Program} {loose : List Str} {mean : ExcName → Option Value}
    {name qual : Str} {params : Arguments} {body : List Stmt} {scope : Scope} {dV kV doc pm cdv ct oc : Value} {an od : Option Addr} {osl : Array (Option Value)} {f : Addr} {args : List Value} {own rest : List (Addr × Obj)} {R : Value → List (Addr × Obj) → Prop} {Q E : Value → Shared → Prop}
    (binds : List (Str × Value))
    (B : Below A₀ base outer h₀) (F : Fr h₀ L s.heap m) (X₀ : K.In h₀) (N : News h₀ L s.heap (own ++ rest)) (hap : Apart own rest) (T : Top p loose mean mg mb h₀) (hA : A.frames = some (env :: outer)) (hf : env.frame = some L) (hke : env.scope.kind = .function)
    (ret : ∀ v own' h' tk', Fr h₀ L h' m → News h₀ L h' (own' ++ rest) → Apart own' rest → R v own' → Q v { s with heap := h', toks := tk' })
    (ho : K.lookup f = some ⟨oc, od, .func (fnOf name qual params body scope dV kV doc pm an cdv ct), osl⟩) (hcd : codeIn K cdv qual = true) (hroom : A.depth < recursionLimit)
    (hbind : BindsTo s (fnOf name qual params body scope dV kV doc pm an cdv ct) ⟨args, []⟩ binds) (hloc : ∀ y ∈ binds, scope.names.lookup y.1 = some .local)
    (h : ∀ g L' s₁, Fr g L' s₁.heap (fun y => binds.reverse.lookup y) → News g L' s₁.heap own → Below A base (env :: outer) g → K.In g → Top p loose mean mg mb g → (∀ q ∈ rest, g.get? q.1 = some q.2) → (∀ q ∈ own, q.1 < L') →
      wpAny (model prog w) (A.deeper (envOf qual scope L' f cdv)) (execs body (envOf qual scope L' f cdv))
        (fun fl s' => Ret g s₁ R (match fl with | .ret v => v | _ => .none) s') (fun _ _ => False) s₁)
    (hco : scope.isCoroutine = false) (hgen : scope.isGenerator = false) (hk : scope.kind = .function)
    (hcell : ∀ x ∈ scope.names, x.2 ≠ .cell) : wpAny (model prog w) A (call (.ref f) args) Q E s :=
  wpAny_call (code_defC (Rr := fun r s' => match r with | .ok (.ret v) => Q v s' | .ok _ => False | .error e => E e s') binds B F X₀ N hap T hA hf hke ret ho hcd hroom hbind hloc h hco hgen hk hcell)

/-- a contract of a def: called with vs over the ledger own (anything else stands besides), it hands back what R says -/
noncomputable def Sp (f : Addr) (d u : Nat) (own : List (Addr × Obj)) (vs : List Value) (R : Value → List (Addr × Obj) → Prop) : Prop :=
  ∀ (w : World) (mean : ExcName → Option Value) (mg mb : Str → Option Value) (dp un : Nat) (gd : Option (List Code)) (cn : Str) (cs : Scope) (a : Addr) (ccd : Value) (cl : List (Str × Addr)) (outer : List Env) (A₀ : Around) (base h₀ : Heap) (L : Addr) (m : Str → Option Value) (s : Shared) (rest : List (Addr × Obj)) (Q E : Value → Shared → Prop),
    Below A₀ base outer h₀ → Fr h₀ L s.heap m → (hd.heap_1 w.params).In h₀ → News h₀ L s.heap (own ++ rest) → Apart own rest → Top q0 (looseW q0 []) mean mg mb h₀ →
    cs.kind = .function → dp + d < recursionLimit → un + u < cLine →
    (∀ v own' h' tk', Fr h₀ L h' m → News h₀ L h' (own' ++ rest) → Apart own' rest → R v own' → Q v { s with heap := h', toks := tk' }) →
      wpAny (model Challenge.rw_pb0353_01.row.prog w) (ktrTop dp un gd cn cs L a ccd cl outer) (call (.ref f) vs) Q E s

/-- a contract's body -/
noncomputable def Bd (f : Addr) (d u : Nat) (own : List (Addr × Obj)) (qual : Str) (body : List Stmt) (scope : Scope) (cdv : Value) (binds : List (Str × Value)) (R : Value → List (Addr × Obj) → Prop) : Prop :=
  ∀ (w : World) (mean : ExcName → Option Value) (mg mb : Str → Option Value) (dp un : Nat) (gd : Option (List Code)) (cn : Str) (cs : Scope) (Lc a : Addr) (ccd : Value) (cl : List (Str × Addr)) (outer : List Env) (base g : Heap) (L : Addr) (s : Shared),
    Fr g L s.heap (fun y => binds.reverse.lookup y) → News g L s.heap own → Below (ktrTop dp un gd cn cs Lc a ccd cl outer) base (envX cn cs Lc a ccd cl :: outer) g → (hd.heap_1 w.params).In g → Top q0 (looseW q0 []) mean mg mb g → (∀ q ∈ own, q.1 < L) → cs.kind = .function → dp + d < recursionLimit → un + u < cLine →
      wpAny (model Challenge.rw_pb0353_01.row.prog w) ((ktrTop dp un gd cn cs Lc a ccd cl outer).deeper (envOf qual scope L f cdv)) (execs body (envOf qual scope L f cdv))
        (fun fl s' => Ret g s R (match fl with | .ret v => v | _ => .none) s') (fun _ _ => False) s

theorem sp_of {f : Addr} {d u : Nat} {own : List (Addr × Obj)} {vs : List Value} {R : Value → List (Addr × Obj) → Prop} {name qual : Str} {params : Arguments} {body : List Stmt} {scope : Scope} {dV kV doc pm cdv ct oc : Value} {an od : Option Addr} {osl : Array (Option Value)} (binds : List (Str × Value))
    (ho : ∀ P, (hd.heap_1 P).lookup f = some ⟨oc, od, .func (fnOf name qual params body scope dV kV doc pm an cdv ct), osl⟩) (hcd : ∀ P, codeIn (hd.heap_1 P) cdv qual = true)
    (hbind : bindArgs (fnOf name qual params body scope dV kV doc pm an cdv ct) ⟨vs, []⟩ = pure binds) (hloc : (binds.all fun x => decide (scope.names.lookup x.1 = some .local)) = true)
    (hco : scope.isCoroutine = false) (hgen : scope.isGenerator = false) (hk : scope.kind = .function) (hcell : ∀ x ∈ scope.names, x.2 ≠ .cell)
    (h : Bd f d u own qual body scope cdv binds R) : Sp f d u own vs R := by
  intro w mean mg mb dp un gd cn cs a ccd cl outer A₀ base h₀ L m s rest Q E B F X N hap T hke hd hu hret
  exact code_defF binds B F X N hap T rfl rfl hke hret (ho _) (hcd _) (by show dp < _; omega) (BindsTo.of_eq hbind) (locs hloc) (fun g L' s₁ F' N' B' X' T' _ hlt => h w mean mg mb dp un gd cn cs L a ccd cl outer base g L' s₁ F' N' B' X' T' hlt hke hd hu) hco hgen hk hcell

/-- the same contract, of the code itself -/
noncomputable def SpC (f : Addr) (d u : Nat) (own : List (Addr × Obj)) (vs : List Value) (R : Value → List (Addr × Obj) → Prop) : Prop :=
  ∀ (w : World) (mean : ExcName → Option Value) (mg mb : Str → Option Value) (dp un : Nat) (gd : Option (List Code)) (cn : Str) (cs : Scope) (a : Addr) (ccd : Value) (cl : List (Str × Addr)) (outer : List Env) (A₀ : Around) (base h₀ : Heap) (L : Addr) (m : Str → Option Value) (s : Shared) (rest : List (Addr × Obj)) (Rr : Result → Shared → Prop),
    Below A₀ base outer h₀ → Fr h₀ L s.heap m → (hd.heap_1 w.params).In h₀ → News h₀ L s.heap (own ++ rest) → Apart own rest → Top q0 (looseW q0 []) mean mg mb h₀ →
    cs.kind = .function → dp + d < recursionLimit → un + u < cLine →
    (∀ v own' h' tk', Fr h₀ L h' m → News h₀ L h' (own' ++ rest) → Apart own' rest → R v own' → Rr (.ok (.ret v)) { s with heap := h', toks := tk' }) →
      codeAny (model Challenge.rw_pb0353_01.row.prog w) (ktrTop dp un gd cn cs L a ccd cl outer) (.call (.ref f) ⟨vs, []⟩) Rr s

theorem spc_of {f : Addr} {d u : Nat} {own : List (Addr × Obj)} {vs : List Value} {R : Value → List (Addr × Obj) → Prop} {name qual : Str} {params : Arguments} {body : List Stmt} {scope : Scope} {dV kV doc pm cdv ct oc : Value} {an od : Option Addr} {osl : Array (Option Value)} (binds : List (Str × Value))
    (ho : ∀ P, (hd.heap_1 P).lookup f = some ⟨oc, od, .func (fnOf name qual params body scope dV kV doc pm an cdv ct), osl⟩) (hcd : ∀ P, codeIn (hd.heap_1 P) cdv qual = true)
    (hbind : bindArgs (fnOf name qual params body scope dV kV doc pm an cdv ct) ⟨vs, []⟩ = pure binds) (hloc : (binds.all fun x => decide (scope.names.lookup x.1 = some .local)) = true)
    (hco : scope.isCoroutine = false) (hgen : scope.isGenerator = false) (hk : scope.kind = .function) (hcell : ∀ x ∈ scope.names, x.2 ≠ .cell)
    (h : Bd f d u own qual body scope cdv binds R) : SpC f d u own vs R := by
  intro w mean mg mb dp un gd cn cs a ccd cl outer A₀ base h₀ L m s rest Rr B F X N hap T hke hd hu hret
  exact code_defC binds B F X N hap T rfl rfl hke hret (ho _) (hcd _) (by show dp < _; omega) (BindsTo.of_eq hbind) (locs hloc) (fun g L' s₁ F' N' B' X' T' _ hlt => h w mean mg mb dp un gd cn cs L a ccd cl outer base g L' s₁ F' N' B' X' T' hlt hke hd hu) hco hgen hk hcell

/-- an object made: the class is called -/
theorem sp_cls {C fI : Addr} {d u : Nat} {vs : List Value} {R : Value → List (Addr × Obj) → Prop}
    (hm : ∀ P, makesIn (hd.heap_1 P) C = true) (hi : ∀ P, findIn (hd.heap_1 P) (.ref C) "__init__" = some (some (.ref fI))) (hf : ∀ P, isFn (hd.heap_1 P) (.ref fI) = true)
    (I : ∀ x dx : Nat, dx < x → SpC fI d u [(x, instObj C dx), (dx, dictOf [] 0)] (.ref x :: vs) (fun v o => v = .none ∧ R (.ref x) o)) : Sp C (d + 1) (u + 8) [] vs R := by
  intro w mean mg mb dp un gd cn cs a ccd cl outer A₀ base h₀ L m s rest Q E B F X N hap T hke hd hu hret
  refine call_cls F X N (hm _) (hi _) (hf _) fun x dx h' F' N' l1 l2 => ?_
  refine I x dx l2 w mean mg mb (dp + 1) _ _ cn cs a ccd cl outer A₀ base h₀ L m { s with heap := h' } rest _ B F' X N' ?_ T hke (by omega) ?_ ?_
  · intro p hp q hq
    have h1 : q.1 < dx := l1 q hq
    rcases List.mem_cons.mp hp with rfl | hp
    · exact Nat.ne_of_gt (Nat.lt_trans h1 l2)
    · rw [List.mem_singleton.mp hp]; exact Nat.ne_of_gt h1
  · show un + _ + u < cLine
    have hc : (Code.builtin "type.__call__" ⟨.ref C :: vs, []⟩).cUnits ≤ 8 := by
      exact Nat.le_of_ble_eq_true rfl
    omega
  · rintro v own' h2 tk2 F2 N2 A2 ⟨rfl, r⟩
    exact ⟨rfl, hret _ own' h2 tk2 F2 N2 A2 r⟩

/-- own picked out of the ledger N, rest is what is left -/
inductive Take1 {α : Type} : α → List α → List α → Prop
  | head {p : α} {N : List α} : Take1 p (p :: N) N
  | tail {p q : α} {N N' : List α} : Take1 p N N' → Take1 p (q :: N) (q :: N')
inductive Pick {α : Type} : List α → List α → List α → Prop
  | nil {N : List α} : Pick [] N N
  | all {N : List α} : Pick N [] N
  | app {own rest : List α} : Pick own rest (own ++ rest)
  | cons {p : α} {own rest N N' : List α} : Take1 p N N' → Pick own rest N' → Pick (p :: own) rest N
theorem Take1.mem {α : Type} {p : α} {N N' : List α} (h : Take1 p N N') : ∀ x, x = p ∨ x ∈ N' → x ∈ N := by
  induction h with
  | head => intro x hx; rcases hx with rfl | hx; exact .head _; exact .tail _ hx
  | tail _ ih =>
    intro x hx
    rcases hx with rfl | hx
    · exact .tail _ (ih _ (.inl rfl))
    · rcases List.mem_cons.mp hx with rfl | hx
      · exact .head _
      · exact .tail _ (ih _ (.inr hx))
theorem Pick.mem {α : Type} {own rest N : List α} (h : Pick own rest N) : ∀ x ∈ own ++ rest, x ∈ N := by
  induction h with
  | nil => intro x hx; exact hx
  | all => intro x hx; simpa using hx
  | app => intro x hx; exact hx
  | cons t _ ih =>
    intro x hx
    rcases List.mem_cons.mp hx with rfl | hx
    · exact t.mem _ (.inl rfl)
    · exact t.mem _ (.inr (ih _ hx))

theorem Sp.call {f : Addr} {d u : Nat} {own : List (Addr × Obj)} {vs : List Value} {R : Value → List (Addr × Obj) → Prop} (C : Sp f d u own vs R)
    {w : World} {mean : ExcName → Option Value} {mg mb : Str → Option Value} {dp un : Nat} {gd : Option (List Code)} {cn : Str} {cs : Scope} {a : Addr} {ccd : Value} {cl : List (Str × Addr)} {outer : List Env} {A₀ : Around} {base h₀ : Heap} {L : Addr} {m : Str → Option Value} {s : Shared} {rest Nl : List (Addr × Obj)} {Q E : Value → Shared → Prop}
    (B : Below A₀ base outer h₀) (F : Fr h₀ L s.heap m) (X : (hd.heap_1 w.params).In h₀) (N : News h₀ L s.heap Nl) (hp : Pick own rest Nl) (hap : Apart own rest) (T : Top q0 (looseW q0 []) mean mg mb h₀)
    (hk : cs.kind = .function) (hd' : dp + d < recursionLimit) (hu : un + u < cLine)
    (ret : ∀ v own' h' tk', Fr h₀ L h' m → News h₀ L h' (own' ++ rest) → Apart own' rest → R v own' → Q v { s with heap := h', toks := tk' }) :
      wpAny (model Challenge.rw_pb0353_01.row.prog w) (ktrTop dp un gd cn cs L a ccd cl outer) (PySem.call (.ref f) vs) Q E s :=
  C w mean mg mb dp un gd cn cs a ccd cl outer A₀ base h₀ L m s rest Q E B F X (fun p hm => N p (hp.mem p hm)) hap T hk hd' hu ret

/-- a goal held back from the walk -/
noncomputable def Hold (P : Prop) : Prop := P
theorem Hold.out {P : Prop} (h : Hold P) : P := h
end
section
open PySem PySem.W PyProof.Rows PySem.Spec PySem.Calls
theorem rm1 {a x D n : Nat} (h : a + D < n) (e : Nat.ble x D = true) : a + x < n := Nat.lt_of_le_of_lt (Nat.add_le_add_left (Nat.le_of_ble_eq_true e) a) h
theorem rm2 {a x y D n : Nat} (h : a + D < n) (e : Nat.ble (x + y) D = true) : a + x + y < n := by rw [Nat.add_assoc]; exact rm1 h e
theorem rm3 {a x y z D n : Nat} (h : a + D < n) (e : Nat.ble (x + y + z) D = true) : a + x + y + z < n := by rw [Nat.add_assoc, Nat.add_assoc, ← Nat.add_assoc x]; exact rm1 h e

theorem len63 {n k : Nat} (h : n ≤ k) (e : Nat.ble k 9223372036854775807 = true) : ¬ ((n : Int) ≥ 2 ^ 63) := fun q => by
  have h1 : (n : Int) ≤ 9223372036854775807 := Int.le_trans (Int.ofNat_le.mpr h) (Int.ofNat_le.mpr (Nat.le_of_ble_eq_true e))
  exact absurd (Int.le_trans q h1) (by decide)
theorem sz1 {α : Type} {l : List α} {k : Nat} (h : l.length ≤ k) (e : Nat.ble k 16777216 = true) : l.length ≤ 16777216 := Nat.le_trans h (Nat.le_of_ble_eq_true e)
theorem sz2 {α : Type} {l : List α} {k : Nat} (h : l.length ≤ k) (e : Nat.ble (k + 1) 16777216 = true) : l.length + 1 ≤ 16777216 := Nat.le_trans (Nat.succ_le_succ h) (Nat.le_of_ble_eq_true e)
theorem sz3 {α : Type} {l : List α} {k : Nat} (h : l.length ≤ k) (e : Nat.ble k 16777216 = true) : l.toArray.size ≤ sizeLine := Nat.le_trans (Nat.le_of_eq List.size_toArray) (Nat.le_trans h (Nat.le_of_ble_eq_true e))
theorem sz4 {α : Type} {l : List α} {k : Nat} (h : l.length ≤ k) (e : Nat.ble (k + 1) 16777216 = true) : l.toArray.size + 1 ≤ sizeLine := Nat.le_trans (Nat.succ_le_succ (Nat.le_of_eq List.size_toArray)) (Nat.le_trans (Nat.succ_le_succ h) (Nat.le_of_ble_eq_true e))
theorem cj1 {a b : Prop} (h : a ∧ b) : a := h.1
theorem cj2 {a b c : Prop} (h : a ∧ b ∧ c) : b := h.2.1
theorem cj3 {a b c d : Prop} (h : a ∧ b ∧ c ∧ d) : c := h.2.2.1
theorem cj4 {a b c d e : Prop} (h : a ∧ b ∧ c ∧ d ∧ e) : d := h.2.2.2.1
theorem cj5 {a b c d e f : Prop} (h : a ∧ b ∧ c ∧ d ∧ e ∧ f) : e := h.2.2.2.2.1
theorem cj6 {a b c d e f g : Prop} (h : a ∧ b ∧ c ∧ d ∧ e ∧ f ∧ g) : f := h.2.2.2.2.2.1
theorem cj7 {a b c d e f g : Prop} (h : a ∧ b ∧ c ∧ d ∧ e ∧ f ∧ g) : g := h.2.2.2.2.2.2
theorem cjl {a b : Prop} (h : a ∧ b) : b := h.2
/-- a value that a statement fails at, if it fails anywhere -/
noncomputable def ec {α : Type} (ne : Nonempty α) (P : α → Prop) : α := @dite _ (∃ x, ¬ P x) (Classical.propDecidable _) (fun h => Classical.choose h) (fun _ => Classical.choice ne)
theorem eps {α : Type} (ne : Nonempty α) {P : α → Prop} (h : P (ec ne P)) (x : α) : P x := by
  refine Classical.byContradiction fun hx => ?_
  have hex : ∃ x, ¬ P x := ⟨x, hx⟩
  have e : ec ne P = Classical.choose hex := by
    unfold ec
    exact dif_pos hex
  rw [e] at h
  exact Classical.choose_spec hex h

section
variable {f : Addr} {d u : Nat} {own : List (Addr × Obj)} {vs : List Value} {w : World} {mean : ExcName → Option Value} {mg mb : Str → Option Value} {dp un : Nat} {gd : Option (List Code)} {cn : Str} {cs : Scope} {a : Addr} {ccd : Value} {cl : List (Str × Addr)} {outer : List Env} {A₀ : Around} {base h₀ : Heap} {L : Addr} {m : Str → Option Value} {s : Shared} {rest Nl : List (Addr × Obj)} {Q E : Value → Shared → Prop}

/-- what a call hands back: a value and a ledger, by the list of what is new in them -/
theorem callP {V : Value} (C : Sp f d u [] vs (fun v o => o = [] ∧ v = V))
    (B : Below A₀ base outer h₀) (F : Fr h₀ L s.heap m) (X : (hd.heap_1 w.params).In h₀) (N : News h₀ L s.heap Nl) (T : Top q0 (looseW q0 []) mean mg mb h₀)
    (hk : cs.kind = .function) (hd' : dp + d < recursionLimit) (hu : un + u < cLine)
    (ret : ∀ h' tk', Fr h₀ L h' m → News h₀ L h' Nl → Q V { s with heap := h', toks := tk' }) :
      wpAny (model Challenge.rw_pb0353_01.row.prog w) (ktrTop dp un gd cn cs L a ccd cl outer) (PySem.call (.ref f) vs) Q E s :=
  Sp.call C B F X N Pick.nil (fun _ h => nomatch h) T hk hd' hu fun v o h' tk' F' N' _ R => by
    obtain ⟨rfl, rfl⟩ := R
    exact ret h' tk' F' N'
theorem callM {V : Tok → Value} {O : List (Addr × Obj)} (C : Sp f d u own vs (fun v o => o = O ∧ ∃ t, v = V t))
    (B : Below A₀ base outer h₀) (F : Fr h₀ L s.heap m) (X : (hd.heap_1 w.params).In h₀) (N : News h₀ L s.heap Nl) (hp : Pick own rest Nl) (hap : Apart own rest) (T : Top q0 (looseW q0 []) mean mg mb h₀)
    (hk : cs.kind = .function) (hd' : dp + d < recursionLimit) (hu : un + u < cLine)
    (ret : ∀ t h' tk', Fr h₀ L h' m → News h₀ L h' (O ++ rest) → Q (V t) { s with heap := h', toks := tk' }) :
      wpAny (model Challenge.rw_pb0353_01.row.prog w) (ktrTop dp un gd cn cs L a ccd cl outer) (PySem.call (.ref f) vs) Q E s :=
  Sp.call C B F X N hp hap T hk hd' hu fun v o h' tk' F' N' _ R => by
    obtain ⟨rfl, t, rfl⟩ := R
    exact ret t h' tk' F' N'
theorem callM0 {V : Tok → Value} (C : Sp f d u [] vs (fun v o => o = [] ∧ ∃ t, v = V t))
    (B : Below A₀ base outer h₀) (F : Fr h₀ L s.heap m) (X : (hd.heap_1 w.params).In h₀) (N : News h₀ L s.heap Nl) (T : Top q0 (looseW q0 []) mean mg mb h₀)
    (hk : cs.kind = .function) (hd' : dp + d < recursionLimit) (hu : un + u < cLine)
    (ret : ∀ t h' tk', Fr h₀ L h' m → News h₀ L h' Nl → Q (V t) { s with heap := h', toks := tk' }) :
      wpAny (model Challenge.rw_pb0353_01.row.prog w) (ktrTop dp un gd cn cs L a ccd cl outer) (PySem.call (.ref f) vs) Q E s :=
  callM C B F X N Pick.nil (fun _ h => nomatch h) T hk hd' hu ret
theorem callM0g {V : Tok → Value} (_ : [218, 225, 232, 239, 253, 260, 267].contains f = true) (C : Sp f d u [] vs (fun v o => o = [] ∧ ∃ t, v = V t))
    (B : Below A₀ base outer h₀) (F : Fr h₀ L s.heap m) (X : (hd.heap_1 w.params).In h₀) (N : News h₀ L s.heap Nl) (T : Top q0 (looseW q0 []) mean mg mb h₀)
    (hk : cs.kind = .function) (hd' : dp + d < recursionLimit) (hu : un + u < cLine)
    (ret : ∀ t h' tk', Fr h₀ L h' m → News h₀ L h' Nl → Q (V t) { s with heap := h', toks := tk' }) :
      wpAny (model Challenge.rw_pb0353_01.row.prog w) (ktrTop dp un gd cn cs L a ccd cl outer) (PySem.call (.ref f) vs) Q E s :=
  callM0 C B F X N T hk hd' hu ret
theorem callS {O : Tok → List (Addr × Obj)} (C : Sp f d u own vs (fun v o => v = .none ∧ ∃ t, o = O t))
    (B : Below A₀ base outer h₀) (F : Fr h₀ L s.heap m) (X : (hd.heap_1 w.params).In h₀) (N : News h₀ L s.heap Nl) (hp : Pick own rest Nl) (hap : Apart own rest) (T : Top q0 (looseW q0 []) mean mg mb h₀)
    (hk : cs.kind = .function) (hd' : dp + d < recursionLimit) (hu : un + u < cLine)
    (ret : ∀ t h' tk', Fr h₀ L h' m → News h₀ L h' (O t ++ rest) → Q .none { s with heap := h', toks := tk' }) :
      wpAny (model Challenge.rw_pb0353_01.row.prog w) (ktrTop dp un gd cn cs L a ccd cl outer) (PySem.call (.ref f) vs) Q E s :=
  Sp.call C B F X N hp hap T hk hd' hu fun v o h' tk' F' N' _ R => by
    obtain ⟨rfl, t, rfl⟩ := R
    exact ret t h' tk' F' N'
theorem callK {O : List Value → Nat → Obj → List (Addr × Obj)} {P1 : Obj → Prop} {P2 : List Value → Prop} (C : Sp f d u own vs (fun v o => v = .none ∧ ∃ rv rn po, o = O rv rn po ∧ P1 po ∧ P2 rv))
    (B : Below A₀ base outer h₀) (F : Fr h₀ L s.heap m) (X : (hd.heap_1 w.params).In h₀) (N : News h₀ L s.heap Nl) (hp : Pick own rest Nl) (hap : Apart own rest) (T : Top q0 (looseW q0 []) mean mg mb h₀)
    (hk : cs.kind = .function) (hd' : dp + d < recursionLimit) (hu : un + u < cLine)
    (ret : ∀ rv rn po h' tk', Fr h₀ L h' m → News h₀ L h' (O rv rn po ++ rest) → P1 po → P2 rv → Q .none { s with heap := h', toks := tk' }) :
      wpAny (model Challenge.rw_pb0353_01.row.prog w) (ktrTop dp un gd cn cs L a ccd cl outer) (PySem.call (.ref f) vs) Q E s :=
  Sp.call C B F X N hp hap T hk hd' hu fun v o h' tk' F' N' _ R => by
    obtain ⟨rfl, rv, rn, po, rfl, p1, p2⟩ := R
    exact ret rv rn po h' tk' F' N' p1 p2
/-- an object of three fields made -/
theorem callT {x3 : Nat → Nat → Int → Tok → Int → Tok → Int → Tok → List (Addr × Obj)} (C : Sp f d u [] vs (fun v o => ∃ x dx h1 k1 h2 k2 h3 k3, v = .ref x ∧ o = x3 x dx h1 k1 h2 k2 h3 k3))
    (B : Below A₀ base outer h₀) (F : Fr h₀ L s.heap m) (X : (hd.heap_1 w.params).In h₀) (N : News h₀ L s.heap Nl) (T : Top q0 (looseW q0 []) mean mg mb h₀)
    (hk : cs.kind = .function) (hd' : dp + d < recursionLimit) (hu : un + u < cLine)
    (ret : ∀ x dx h1 k1 h2 k2 h3 k3 h' tk', Fr h₀ L h' m → News h₀ L h' (x3 x dx h1 k1 h2 k2 h3 k3 ++ Nl) → Apart (x3 x dx h1 k1 h2 k2 h3 k3) Nl → Q (.ref x) { s with heap := h', toks := tk' }) :
      wpAny (model Challenge.rw_pb0353_01.row.prog w) (ktrTop dp un gd cn cs L a ccd cl outer) (PySem.call (.ref f) vs) Q E s :=
  Sp.call C B F X N Pick.nil (fun _ h => nomatch h) T hk hd' hu fun v o h' tk' F' N' A' R => by
    obtain ⟨x, dx, h1, k1, h2, k2, h3, k3, rfl, rfl⟩ := R
    exact ret x dx h1 k1 h2 k2 h3 k3 h' tk' F' N' A'
/-- the same for a list of things known to be there -/
theorem callE2 {T1 T2 : Type} {V : T1 → T2 → Value} {O : T1 → T2 → List (Addr × Obj)} {S : T1 → T2 → Prop} {R : Value → List (Addr × Obj) → Prop} (C : Sp f d u own vs R) (hR : ∀ v o, R v o → ∃ x1 x2, v = V x1 x2 ∧ o = O x1 x2 ∧ S x1 x2)
    (B : Below A₀ base outer h₀) (F : Fr h₀ L s.heap m) (X : (hd.heap_1 w.params).In h₀) (N : News h₀ L s.heap Nl) (hp : Pick own rest Nl) (hap : Apart own rest) (T : Top q0 (looseW q0 []) mean mg mb h₀)
    (hk : cs.kind = .function) (hd' : dp + d < recursionLimit) (hu : un + u < cLine)
    (ret : ∀ x1 x2 h' tk', Fr h₀ L h' m → News h₀ L h' (O x1 x2 ++ rest) → Apart (O x1 x2) rest → S x1 x2 → Q (V x1 x2) { s with heap := h', toks := tk' }) :
      wpAny (model Challenge.rw_pb0353_01.row.prog w) (ktrTop dp un gd cn cs L a ccd cl outer) (PySem.call (.ref f) vs) Q E s :=
  Sp.call C B F X N hp hap T hk hd' hu fun v o h' tk' F' N' A' r => by
    obtain ⟨x1, x2, rfl, rfl, hs⟩ := hR v o r
    exact ret x1 x2 h' tk' F' N' A' hs
theorem callE3 {T1 T2 T3 : Type} {V : T1 → T2 → T3 → Value} {O : T1 → T2 → T3 → List (Addr × Obj)} {S : T1 → T2 → T3 → Prop} {R : Value → List (Addr × Obj) → Prop} (C : Sp f d u own vs R) (hR : ∀ v o, R v o → ∃ x1 x2 x3, v = V x1 x2 x3 ∧ o = O x1 x2 x3 ∧ S x1 x2 x3)
    (B : Below A₀ base outer h₀) (F : Fr h₀ L s.heap m) (X : (hd.heap_1 w.params).In h₀) (N : News h₀ L s.heap Nl) (hp : Pick own rest Nl) (hap : Apart own rest) (T : Top q0 (looseW q0 []) mean mg mb h₀)
    (hk : cs.kind = .function) (hd' : dp + d < recursionLimit) (hu : un + u < cLine)
    (ret : ∀ x1 x2 x3 h' tk', Fr h₀ L h' m → News h₀ L h' (O x1 x2 x3 ++ rest) → Apart (O x1 x2 x3) rest → S x1 x2 x3 → Q (V x1 x2 x3) { s with heap := h', toks := tk' }) :
      wpAny (model Challenge.rw_pb0353_01.row.prog w) (ktrTop dp un gd cn cs L a ccd cl outer) (PySem.call (.ref f) vs) Q E s :=
  Sp.call C B F X N hp hap T hk hd' hu fun v o h' tk' F' N' A' r => by
    obtain ⟨x1, x2, x3, rfl, rfl, hs⟩ := hR v o r
    exact ret x1 x2 x3 h' tk' F' N' A' hs
theorem callE4 {T1 T2 T3 T4 : Type} {V : T1 → T2 → T3 → T4 → Value} {O : T1 → T2 → T3 → T4 → List (Addr × Obj)} {S : T1 → T2 → T3 → T4 → Prop} {R : Value → List (Addr × Obj) → Prop} (C : Sp f d u own vs R) (hR : ∀ v o, R v o → ∃ x1 x2 x3 x4, v = V x1 x2 x3 x4 ∧ o = O x1 x2 x3 x4 ∧ S x1 x2 x3 x4)
    (B : Below A₀ base outer h₀) (F : Fr h₀ L s.heap m) (X : (hd.heap_1 w.params).In h₀) (N : News h₀ L s.heap Nl) (hp : Pick own rest Nl) (hap : Apart own rest) (T : Top q0 (looseW q0 []) mean mg mb h₀)
    (hk : cs.kind = .function) (hd' : dp + d < recursionLimit) (hu : un + u < cLine)
    (ret : ∀ x1 x2 x3 x4 h' tk', Fr h₀ L h' m → News h₀ L h' (O x1 x2 x3 x4 ++ rest) → Apart (O x1 x2 x3 x4) rest → S x1 x2 x3 x4 → Q (V x1 x2 x3 x4) { s with heap := h', toks := tk' }) :
      wpAny (model Challenge.rw_pb0353_01.row.prog w) (ktrTop dp un gd cn cs L a ccd cl outer) (PySem.call (.ref f) vs) Q E s :=
  Sp.call C B F X N hp hap T hk hd' hu fun v o h' tk' F' N' A' r => by
    obtain ⟨x1, x2, x3, x4, rfl, rfl, hs⟩ := hR v o r
    exact ret x1 x2 x3 x4 h' tk' F' N' A' hs
theorem callE7 {T1 T2 T3 T4 T5 T6 T7 : Type} {V : T1 → T2 → T3 → T4 → T5 → T6 → T7 → Value} {O : T1 → T2 → T3 → T4 → T5 → T6 → T7 → List (Addr × Obj)} {S : T1 → T2 → T3 → T4 → T5 → T6 → T7 → Prop} {R : Value → List (Addr × Obj) → Prop} (C : Sp f d u own vs R) (hR : ∀ v o, R v o → ∃ x1 x2 x3 x4 x5 x6 x7, v = V x1 x2 x3 x4 x5 x6 x7 ∧ o = O x1 x2 x3 x4 x5 x6 x7 ∧ S x1 x2 x3 x4 x5 x6 x7)
    (B : Below A₀ base outer h₀) (F : Fr h₀ L s.heap m) (X : (hd.heap_1 w.params).In h₀) (N : News h₀ L s.heap Nl) (hp : Pick own rest Nl) (hap : Apart own rest) (T : Top q0 (looseW q0 []) mean mg mb h₀)
    (hk : cs.kind = .function) (hd' : dp + d < recursionLimit) (hu : un + u < cLine)
    (ret : ∀ x1 x2 x3 x4 x5 x6 x7 h' tk', Fr h₀ L h' m → News h₀ L h' (O x1 x2 x3 x4 x5 x6 x7 ++ rest) → Apart (O x1 x2 x3 x4 x5 x6 x7) rest → S x1 x2 x3 x4 x5 x6 x7 → Q (V x1 x2 x3 x4 x5 x6 x7) { s with heap := h', toks := tk' }) :
      wpAny (model Challenge.rw_pb0353_01.row.prog w) (ktrTop dp un gd cn cs L a ccd cl outer) (PySem.call (.ref f) vs) Q E s :=
  Sp.call C B F X N hp hap T hk hd' hu fun v o h' tk' F' N' A' r => by
    obtain ⟨x1, x2, x3, x4, x5, x6, x7, rfl, rfl, hs⟩ := hR v o r
    exact ret x1 x2 x3 x4 x5 x6 x7 h' tk' F' N' A' hs
theorem callE9 {T1 T2 T3 T4 T5 T6 T7 T8 T9 : Type} {V : T1 → T2 → T3 → T4 → T5 → T6 → T7 → T8 → T9 → Value} {O : T1 → T2 → T3 → T4 → T5 → T6 → T7 → T8 → T9 → List (Addr × Obj)} {S : T1 → T2 → T3 → T4 → T5 → T6 → T7 → T8 → T9 → Prop} {R : Value → List (Addr × Obj) → Prop} (C : Sp f d u own vs R) (hR : ∀ v o, R v o → ∃ x1 x2 x3 x4 x5 x6 x7 x8 x9, v = V x1 x2 x3 x4 x5 x6 x7 x8 x9 ∧ o = O x1 x2 x3 x4 x5 x6 x7 x8 x9 ∧ S x1 x2 x3 x4 x5 x6 x7 x8 x9)
    (B : Below A₀ base outer h₀) (F : Fr h₀ L s.heap m) (X : (hd.heap_1 w.params).In h₀) (N : News h₀ L s.heap Nl) (hp : Pick own rest Nl) (hap : Apart own rest) (T : Top q0 (looseW q0 []) mean mg mb h₀)
    (hk : cs.kind = .function) (hd' : dp + d < recursionLimit) (hu : un + u < cLine)
    (ret : ∀ x1 x2 x3 x4 x5 x6 x7 x8 x9 h' tk', Fr h₀ L h' m → News h₀ L h' (O x1 x2 x3 x4 x5 x6 x7 x8 x9 ++ rest) → Apart (O x1 x2 x3 x4 x5 x6 x7 x8 x9) rest → S x1 x2 x3 x4 x5 x6 x7 x8 x9 → Q (V x1 x2 x3 x4 x5 x6 x7 x8 x9) { s with heap := h', toks := tk' }) :
      wpAny (model Challenge.rw_pb0353_01.row.prog w) (ktrTop dp un gd cn cs L a ccd cl outer) (PySem.call (.ref f) vs) Q E s :=
  Sp.call C B F X N hp hap T hk hd' hu fun v o h' tk' F' N' A' r => by
    obtain ⟨x1, x2, x3, x4, x5, x6, x7, x8, x9, rfl, rfl, hs⟩ := hR v o r
    exact ret x1 x2 x3 x4 x5 x6 x7 x8 x9 h' tk' F' N' A' hs
theorem callE10 {T1 T2 T3 T4 T5 T6 T7 T8 T9 T10 : Type} {V : T1 → T2 → T3 → T4 → T5 → T6 → T7 → T8 → T9 → T10 → Value} {O : T1 → T2 → T3 → T4 → T5 → T6 → T7 → T8 → T9 → T10 → List (Addr × Obj)} {S : T1 → T2 → T3 → T4 → T5 → T6 → T7 → T8 → T9 → T10 → Prop} {R : Value → List (Addr × Obj) → Prop} (C : Sp f d u own vs R) (hR : ∀ v o, R v o → ∃ x1 x2 x3 x4 x5 x6 x7 x8 x9 x10, v = V x1 x2 x3 x4 x5 x6 x7 x8 x9 x10 ∧ o = O x1 x2 x3 x4 x5 x6 x7 x8 x9 x10 ∧ S x1 x2 x3 x4 x5 x6 x7 x8 x9 x10)
    (B : Below A₀ base outer h₀) (F : Fr h₀ L s.heap m) (X : (hd.heap_1 w.params).In h₀) (N : News h₀ L s.heap Nl) (hp : Pick own rest Nl) (hap : Apart own rest) (T : Top q0 (looseW q0 []) mean mg mb h₀)
    (hk : cs.kind = .function) (hd' : dp + d < recursionLimit) (hu : un + u < cLine)
    (ret : ∀ x1 x2 x3 x4 x5 x6 x7 x8 x9 x10 h' tk', Fr h₀ L h' m → News h₀ L h' (O x1 x2 x3 x4 x5 x6 x7 x8 x9 x10 ++ rest) → Apart (O x1 x2 x3 x4 x5 x6 x7 x8 x9 x10) rest → S x1 x2 x3 x4 x5 x6 x7 x8 x9 x10 → Q (V x1 x2 x3 x4 x5 x6 x7 x8 x9 x10) { s with heap := h', toks := tk' }) :
      wpAny (model Challenge.rw_pb0353_01.row.prog w) (ktrTop dp un gd cn cs L a ccd cl outer) (PySem.call (.ref f) vs) Q E s :=
  Sp.call C B F X N hp hap T hk hd' hu fun v o h' tk' F' N' A' r => by
    obtain ⟨x1, x2, x3, x4, x5, x6, x7, x8, x9, x10, rfl, rfl, hs⟩ := hR v o r
    exact ret x1 x2 x3 x4 x5 x6 x7 x8 x9 x10 h' tk' F' N' A' hs
theorem callE12 {T1 T2 T3 T4 T5 T6 T7 T8 T9 T10 T11 T12 : Type} {V : T1 → T2 → T3 → T4 → T5 → T6 → T7 → T8 → T9 → T10 → T11 → T12 → Value} {O : T1 → T2 → T3 → T4 → T5 → T6 → T7 → T8 → T9 → T10 → T11 → T12 → List (Addr × Obj)} {S : T1 → T2 → T3 → T4 → T5 → T6 → T7 → T8 → T9 → T10 → T11 → T12 → Prop} {R : Value → List (Addr × Obj) → Prop} (C : Sp f d u own vs R) (hR : ∀ v o, R v o → ∃ x1 x2 x3 x4 x5 x6 x7 x8 x9 x10 x11 x12, v = V x1 x2 x3 x4 x5 x6 x7 x8 x9 x10 x11 x12 ∧ o = O x1 x2 x3 x4 x5 x6 x7 x8 x9 x10 x11 x12 ∧ S x1 x2 x3 x4 x5 x6 x7 x8 x9 x10 x11 x12)
    (B : Below A₀ base outer h₀) (F : Fr h₀ L s.heap m) (X : (hd.heap_1 w.params).In h₀) (N : News h₀ L s.heap Nl) (hp : Pick own rest Nl) (hap : Apart own rest) (T : Top q0 (looseW q0 []) mean mg mb h₀)
    (hk : cs.kind = .function) (hd' : dp + d < recursionLimit) (hu : un + u < cLine)
    (ret : ∀ x1 x2 x3 x4 x5 x6 x7 x8 x9 x10 x11 x12 h' tk', Fr h₀ L h' m → News h₀ L h' (O x1 x2 x3 x4 x5 x6 x7 x8 x9 x10 x11 x12 ++ rest) → Apart (O x1 x2 x3 x4 x5 x6 x7 x8 x9 x10 x11 x12) rest → S x1 x2 x3 x4 x5 x6 x7 x8 x9 x10 x11 x12 → Q (V x1 x2 x3 x4 x5 x6 x7 x8 x9 x10 x11 x12) { s with heap := h', toks := tk' }) :
      wpAny (model Challenge.rw_pb0353_01.row.prog w) (ktrTop dp un gd cn cs L a ccd cl outer) (PySem.call (.ref f) vs) Q E s :=
  Sp.call C B F X N hp hap T hk hd' hu fun v o h' tk' F' N' A' r => by
    obtain ⟨x1, x2, x3, x4, x5, x6, x7, x8, x9, x10, x11, x12, rfl, rfl, hs⟩ := hR v o r
    exact ret x1 x2 x3 x4 x5 x6 x7 x8 x9 x10 x11 x12 h' tk' F' N' A' hs
theorem callE13 {T1 T2 T3 T4 T5 T6 T7 T8 T9 T10 T11 T12 T13 : Type} {V : T1 → T2 → T3 → T4 → T5 → T6 → T7 → T8 → T9 → T10 → T11 → T12 → T13 → Value} {O : T1 → T2 → T3 → T4 → T5 → T6 → T7 → T8 → T9 → T10 → T11 → T12 → T13 → List (Addr × Obj)} {S : T1 → T2 → T3 → T4 → T5 → T6 → T7 → T8 → T9 → T10 → T11 → T12 → T13 → Prop} {R : Value → List (Addr × Obj) → Prop} (C : Sp f d u own vs R) (hR : ∀ v o, R v o → ∃ x1 x2 x3 x4 x5 x6 x7 x8 x9 x10 x11 x12 x13, v = V x1 x2 x3 x4 x5 x6 x7 x8 x9 x10 x11 x12 x13 ∧ o = O x1 x2 x3 x4 x5 x6 x7 x8 x9 x10 x11 x12 x13 ∧ S x1 x2 x3 x4 x5 x6 x7 x8 x9 x10 x11 x12 x13)
    (B : Below A₀ base outer h₀) (F : Fr h₀ L s.heap m) (X : (hd.heap_1 w.params).In h₀) (N : News h₀ L s.heap Nl) (hp : Pick own rest Nl) (hap : Apart own rest) (T : Top q0 (looseW q0 []) mean mg mb h₀)
    (hk : cs.kind = .function) (hd' : dp + d < recursionLimit) (hu : un + u < cLine)
    (ret : ∀ x1 x2 x3 x4 x5 x6 x7 x8 x9 x10 x11 x12 x13 h' tk', Fr h₀ L h' m → News h₀ L h' (O x1 x2 x3 x4 x5 x6 x7 x8 x9 x10 x11 x12 x13 ++ rest) → Apart (O x1 x2 x3 x4 x5 x6 x7 x8 x9 x10 x11 x12 x13) rest → S x1 x2 x3 x4 x5 x6 x7 x8 x9 x10 x11 x12 x13 → Q (V x1 x2 x3 x4 x5 x6 x7 x8 x9 x10 x11 x12 x13) { s with heap := h', toks := tk' }) :
      wpAny (model Challenge.rw_pb0353_01.row.prog w) (ktrTop dp un gd cn cs L a ccd cl outer) (PySem.call (.ref f) vs) Q E s :=
  Sp.call C B F X N hp hap T hk hd' hu fun v o h' tk' F' N' A' r => by
    obtain ⟨x1, x2, x3, x4, x5, x6, x7, x8, x9, x10, x11, x12, x13, rfl, rfl, hs⟩ := hR v o r
    exact ret x1 x2 x3 x4 x5 x6 x7 x8 x9 x10 x11 x12 x13 h' tk' F' N' A' hs
theorem callE15 {T1 T2 T3 T4 T5 T6 T7 T8 T9 T10 T11 T12 T13 T14 T15 : Type} {V : T1 → T2 → T3 → T4 → T5 → T6 → T7 → T8 → T9 → T10 → T11 → T12 → T13 → T14 → T15 → Value} {O : T1 → T2 → T3 → T4 → T5 → T6 → T7 → T8 → T9 → T10 → T11 → T12 → T13 → T14 → T15 → List (Addr × Obj)} {S : T1 → T2 → T3 → T4 → T5 → T6 → T7 → T8 → T9 → T10 → T11 → T12 → T13 → T14 → T15 → Prop} {R : Value → List (Addr × Obj) → Prop} (C : Sp f d u own vs R) (hR : ∀ v o, R v o → ∃ x1 x2 x3 x4 x5 x6 x7 x8 x9 x10 x11 x12 x13 x14 x15, v = V x1 x2 x3 x4 x5 x6 x7 x8 x9 x10 x11 x12 x13 x14 x15 ∧ o = O x1 x2 x3 x4 x5 x6 x7 x8 x9 x10 x11 x12 x13 x14 x15 ∧ S x1 x2 x3 x4 x5 x6 x7 x8 x9 x10 x11 x12 x13 x14 x15)
    (B : Below A₀ base outer h₀) (F : Fr h₀ L s.heap m) (X : (hd.heap_1 w.params).In h₀) (N : News h₀ L s.heap Nl) (hp : Pick own rest Nl) (hap : Apart own rest) (T : Top q0 (looseW q0 []) mean mg mb h₀)
    (hk : cs.kind = .function) (hd' : dp + d < recursionLimit) (hu : un + u < cLine)
    (ret : ∀ x1 x2 x3 x4 x5 x6 x7 x8 x9 x10 x11 x12 x13 x14 x15 h' tk', Fr h₀ L h' m → News h₀ L h' (O x1 x2 x3 x4 x5 x6 x7 x8 x9 x10 x11 x12 x13 x14 x15 ++ rest) → Apart (O x1 x2 x3 x4 x5 x6 x7 x8 x9 x10 x11 x12 x13 x14 x15) rest → S x1 x2 x3 x4 x5 x6 x7 x8 x9 x10 x11 x12 x13 x14 x15 → Q (V x1 x2 x3 x4 x5 x6 x7 x8 x9 x10 x11 x12 x13 x14 x15) { s with heap := h', toks := tk' }) :
      wpAny (model Challenge.rw_pb0353_01.row.prog w) (ktrTop dp un gd cn cs L a ccd cl outer) (PySem.call (.ref f) vs) Q E s :=
  Sp.call C B F X N hp hap T hk hd' hu fun v o h' tk' F' N' A' r => by
    obtain ⟨x1, x2, x3, x4, x5, x6, x7, x8, x9, x10, x11, x12, x13, x14, x15, rfl, rfl, hs⟩ := hR v o r
    exact ret x1 x2 x3 x4 x5 x6 x7 x8 x9 x10 x11 x12 x13 x14 x15 h' tk' F' N' A' hs
theorem callE16 {T1 T2 T3 T4 T5 T6 T7 T8 T9 T10 T11 T12 T13 T14 T15 T16 : Type} {V : T1 → T2 → T3 → T4 → T5 → T6 → T7 → T8 → T9 → T10 → T11 → T12 → T13 → T14 → T15 → T16 → Value} {O : T1 → T2 → T3 → T4 → T5 → T6 → T7 → T8 → T9 → T10 → T11 → T12 → T13 → T14 → T15 → T16 → List (Addr × Obj)} {S : T1 → T2 → T3 → T4 → T5 → T6 → T7 → T8 → T9 → T10 → T11 → T12 → T13 → T14 → T15 → T16 → Prop} {R : Value → List (Addr × Obj) → Prop} (C : Sp f d u own vs R) (hR : ∀ v o, R v o → ∃ x1 x2 x3 x4 x5 x6 x7 x8 x9 x10 x11 x12 x13 x14 x15 x16, v = V x1 x2 x3 x4 x5 x6 x7 x8 x9 x10 x11 x12 x13 x14 x15 x16 ∧ o = O x1 x2 x3 x4 x5 x6 x7 x8 x9 x10 x11 x12 x13 x14 x15 x16 ∧ S x1 x2 x3 x4 x5 x6 x7 x8 x9 x10 x11 x12 x13 x14 x15 x16)
    (B : Below A₀ base outer h₀) (F : Fr h₀ L s.heap m) (X : (hd.heap_1 w.params).In h₀) (N : News h₀ L s.heap Nl) (hp : Pick own rest Nl) (hap : Apart own rest) (T : Top q0 (looseW q0 []) mean mg mb h₀)
    (hk : cs.kind = .function) (hd' : dp + d < recursionLimit) (hu : un + u < cLine)
    (ret : ∀ x1 x2 x3 x4 x5 x6 x7 x8 x9 x10 x11 x12 x13 x14 x15 x16 h' tk', Fr h₀ L h' m → News h₀ L h' (O x1 x2 x3 x4 x5 x6 x7 x8 x9 x10 x11 x12 x13 x14 x15 x16 ++ rest) → Apart (O x1 x2 x3 x4 x5 x6 x7 x8 x9 x10 x11 x12 x13 x14 x15 x16) rest → S x1 x2 x3 x4 x5 x6 x7 x8 x9 x10 x11 x12 x13 x14 x15 x16 → Q (V x1 x2 x3 x4 x5 x6 x7 x8 x9 x10 x11 x12 x13 x14 x15 x16) { s with heap := h', toks := tk' }) :
      wpAny (model Challenge.rw_pb0353_01.row.prog w) (ktrTop dp un gd cn cs L a ccd cl outer) (PySem.call (.ref f) vs) Q E s :=
  Sp.call C B F X N hp hap T hk hd' hu fun v o h' tk' F' N' A' r => by
    obtain ⟨x1, x2, x3, x4, x5, x6, x7, x8, x9, x10, x11, x12, x13, x14, x15, x16, rfl, rfl, hs⟩ := hR v o r
    exact ret x1 x2 x3 x4 x5 x6 x7 x8 x9 x10 x11 x12 x13 x14 x15 x16 h' tk' F' N' A' hs
end
/-- the place where a def's body starts -/
structure Ctx where
  w : World
  mean : ExcName → Option Value
  mg : Str → Option Value
  mb : Str → Option Value
  dp : Nat
  un : Nat
  gd : Option (List Code)
  cn : Str
  cs : Scope
  Lc : Addr
  a : Addr
  ccd : Value
  cl : List (Str × Addr)
  outer : List Env
  base : Heap
  g : Heap
  L : Addr
  s : Shared
noncomputable def BdC (c : Ctx) (f : Addr) (d u : Nat) (own : List (Addr × Obj)) (qual : Str) (body : List Stmt) (scope : Scope) (cdv : Value) (binds : List (Str × Value)) (R : Value → List (Addr × Obj) → Prop) : Prop :=
    Fr c.g c.L c.s.heap (fun y => binds.reverse.lookup y) → News c.g c.L c.s.heap own → Below (ktrTop c.dp c.un c.gd c.cn c.cs c.Lc c.a c.ccd c.cl c.outer) c.base (envX c.cn c.cs c.Lc c.a c.ccd c.cl :: c.outer) c.g → (hd.heap_1 c.w.params).In c.g → Top q0 (looseW q0 []) c.mean c.mg c.mb c.g → (∀ q ∈ own, q.1 < c.L) → c.cs.kind = .function → c.dp + d < recursionLimit → c.un + u < cLine →
      wpAny (model Challenge.rw_pb0353_01.row.prog c.w) ((ktrTop c.dp c.un c.gd c.cn c.cs c.Lc c.a c.ccd c.cl c.outer).deeper (envOf qual scope c.L f cdv)) (execs body (envOf qual scope c.L f cdv))
        (fun fl s' => Ret c.g c.s R (match fl with | .ret v => v | _ => .none) s') (fun _ _ => False) c.s
/-- what stands at f -/
noncomputable def IsDef (f : Addr) (vs : List Value) (qual : Str) (body : List Stmt) (scope : Scope) (cdv : Value) (binds : List (Str × Value)) : Prop :=
  ∃ (name : Str) (params : Arguments) (dV kV doc pm ct oc : Value) (an od : Option Addr) (osl : Array (Option Value)),
    (∀ P, (hd.heap_1 P).lookup f = some ⟨oc, od, .func (fnOf name qual params body scope dV kV doc pm an cdv ct), osl⟩) ∧ bindArgs (fnOf name qual params body scope dV kV doc pm an cdv ct) ⟨vs, []⟩ = pure binds
theorem bindsInj {a b : List (Str × Value)} (h : (pure a : Sem (List (Str × Value))) = pure b) : a = b := by cases h; rfl
theorem IsDef.same {f : Addr} {vs : List Value} {qual qual' : Str} {body body' : List Stmt} {scope scope' : Scope} {cdv cdv' : Value} {binds binds' : List (Str × Value)} (P : Params)
    (h : IsDef f vs qual body scope cdv binds) (h' : IsDef f vs qual' body' scope' cdv' binds') : qual = qual' ∧ body = body' ∧ scope = scope' ∧ cdv = cdv' ∧ binds = binds' := by
  obtain ⟨name, params, dV, kV, doc, pm, ct, oc, an, od, osl, h1, h2⟩ := h
  obtain ⟨name', params', dV', kV', doc', pm', ct', oc', an', od', osl', h1', h2'⟩ := h'
  have e := (h1 P).symm.trans (h1' P)
  have e1 := congrArg Obj.data (Option.some.inj e)
  have e2 : fnOf name qual params body scope dV kV doc pm an cdv ct = fnOf name' qual' params' body' scope' dV' kV' doc' pm' an' cdv' ct' := Data.func.inj e1
  have e3 := h2
  rw [e2] at e3
  exact ⟨congrArg FuncData.qualname e2, FuncBody.stmts.inj (congrArg FuncData.body e2), congrArg FuncData.scope e2, congrArg FuncData.code e2, bindsInj (e3.symm.trans h2')⟩
noncomputable def BdF (f : Addr) (d u : Nat) (own : List (Addr × Obj)) (vs : List Value) (R : Value → List (Addr × Obj) → Prop) (c : Ctx) : Prop :=
  ∀ qual body scope cdv binds, IsDef f vs qual body scope cdv binds → BdC c f d u own qual body scope cdv binds R
theorem ctx_ne : Nonempty Ctx := ⟨⟨aWorld 1, fun _ => none, fun _ => none, fun _ => none, 0, 0, none, default, default, 0, 0, default, [], [], default, default, 0, ⟨default, #[], boot_drawn, 0, (start Challenge.rw_pb0353_01.prog).1.os⟩⟩⟩
noncomputable def fctx (f : Addr) (d u : Nat) (own : List (Addr × Obj)) (vs : List Value) (R : Value → List (Addr × Obj) → Prop) : Ctx := ec ctx_ne (BdF f d u own vs R)
theorem Sp.mono {f : Addr} {d u : Nat} {own : List (Addr × Obj)} {vs : List Value} {R R' : Value → List (Addr × Obj) → Prop} (C : Sp f d u own vs R) (h : ∀ v o, R v o → R' v o) : Sp f d u own vs R' :=
  fun w mean mg mb dp un gd cn cs a ccd cl outer A₀ base h₀ L m s rest Q E B F X N hap T hk hd hu ret => C w mean mg mb dp un gd cn cs a ccd cl outer A₀ base h₀ L m s rest Q E B F X N hap T hk hd hu fun v o h' tk' F' N' A' r => ret v o h' tk' F' N' A' (h v o r)
theorem sp_at (cx : Ctx) {f : Addr} {d u : Nat} {own : List (Addr × Obj)} {vs : List Value} {R : Value → List (Addr × Obj) → Prop} (hcx : cx = fctx f d u own vs R) {name qual : Str} {params : Arguments} {body : List Stmt} {scope : Scope} {dV kV doc pm cdv ct oc : Value} {an od : Option Addr} {osl : Array (Option Value)} (binds : List (Str × Value))
    (ho : ∀ P, (hd.heap_1 P).lookup f = some ⟨oc, od, .func (fnOf name qual params body scope dV kV doc pm an cdv ct), osl⟩) (hcd : ∀ P, codeIn (hd.heap_1 P) cdv qual = true)
    (hbind : bindArgs (fnOf name qual params body scope dV kV doc pm an cdv ct) ⟨vs, []⟩ = pure binds) (hloc : (binds.all fun x => decide (scope.names.lookup x.1 = some .local)) = true)
    (hco : scope.isCoroutine = false) (hgen : scope.isGenerator = false) (hk : scope.kind = .function) (hcell : ∀ x ∈ scope.names, x.2 ≠ .cell)
    (h : BdC cx f d u own qual body scope cdv binds R) : Sp f d u own vs R := by
  have isd : IsDef f vs qual body scope cdv binds := ⟨name, params, dV, kV, doc, pm, ct, oc, an, od, osl, ho, hbind⟩
  have all : ∀ c, BdF f d u own vs R c := eps ctx_ne (fun q b sc cv bs isd' => by
    obtain ⟨rfl, rfl, rfl, rfl, rfl⟩ := isd.same cx.w.params isd'
    subst hcx
    exact h)
  refine sp_of binds ho hcd hbind hloc hco hgen hk hcell ?_
  intro w mean mg mb dp un gd cn cs Lc a ccd cl outer base g L s
  exact all ⟨w, mean, mg, mb, dp, un, gd, cn, cs, Lc, a, ccd, cl, outer, base, g, L, s⟩ qual body scope cdv binds isd
/-- the defs whose calls the walk takes by itself -/
noncomputable def autos : List Nat := [56, 63, 70, 246, 218, 225, 232, 239, 253, 260, 267, 207, 49, 99, 38, 322, 169, 77]
theorem holdCall {M : Model} {A : Around} {f : Nat} {vs : List Value} {Q E : Value → Shared → Prop} {s : Shared} (_ : autos.contains f = false) (h : Hold (wpAny M A (PySem.call (.ref f) vs) Q E s)) : wpAny M A (PySem.call (.ref f) vs) Q E s := h
theorem om1 {n r c r0 r1 : Nat} (h : n + r = c + r0) (e : r0 = r1 + 1) : n + r = c + 1 + r1 := by omega
theorem om2 {l c : Nat} (h : c < l) : l - (c + 1) < l - c := Nat.sub_lt_sub_left h (Nat.lt_succ_self c)
theorem om3 {n r c r0 : Nat} (h : n + r = c + r0) (e : r0 = 0) : n + r = c := by rw [h, e]; rfl
theorem om4 {n r c r0 : Nat} (h : n + r = c + r0) (e : r0 = 0) : c = n + r := (om3 h e).symm
theorem om5 {l c : Nat} (h : c + 2 ≤ l) : l - (c + 2) < l - c := Nat.sub_lt_sub_left (Nat.lt_of_lt_of_le (Nat.lt_add_of_pos_right (by decide)) h) (Nat.lt_add_of_pos_right (by decide))
theorem om6 {a q : Nat} (h : a ≤ q - 1) : a ≤ q + 1 - 1 := Nat.le_trans h (Nat.sub_le q 1)
theorem om7 {a q : Nat} (h : a ≤ q - 1) : a ≤ q + 1 := Nat.le_trans (om6 h) (Nat.le_succ q)
theorem om8 {q : Nat} : q - 1 ≤ q + 1 - 1 := Nat.sub_le q 1
theorem room0 {a b : Nat} (h : Nat.ble (a + 1) b = true) : a < b := Nat.le_of_ble_eq_true h
end
section
open PySem PySem.W PyProof.Rows PySem.Spec PySem.Calls PySem.Builtin PySem.Builtin.Str
set_option linter.unusedSectionVars false

/-- a cut of a text, clamped -/
noncomputable def sub (x : Str) (i j : Nat) : Str := ⟨((x.cps.toList.drop i).take (j - i)).toArray⟩
theorem sub_list (x : Str) (i j : Nat) : (sub x i j).cps.toList = (x.cps.toList.drop i).take (j - i) := by simp [sub]
theorem sub_length_le (x : Str) (i j : Nat) : (sub x i j).length ≤ x.length := by
  show (sub x i j).cps.size ≤ x.cps.size
  rw [← Array.length_toList, sub_list, List.length_take, List.length_drop, Array.length_toList]; omega

theorem clampI (len a : Nat) : max (0 : Int) (min (a : Int) (len : Int)) = ((min a len : Nat) : Int) := by
  rcases Nat.le_total a len with h | h
  · rw [Nat.min_eq_left h, Int.min_eq_left (Int.ofNat_le.mpr h), Int.max_eq_right (Int.natCast_nonneg _)]
  · rw [Nat.min_eq_right h, Int.min_eq_right (Int.ofNat_le.mpr h), Int.max_eq_right (Int.natCast_nonneg _)]
theorem sliceIdx_clamp (len i j : Nat) : strSliceIndices (some (i : Int)) (some (j : Int)) 1 len = strSliceIndices (some ((min i len : Nat) : Int)) (some ((max (min i len) (min j len) : Nat) : Int)) 1 len := by
  have pos : ∀ a : Nat, ¬ ((a : Int) < 0) := fun a => Int.not_lt.mpr (Int.natCast_nonneg a)
  have e3 : max (0 : Int) (min ((min i len : Nat) : Int) (len : Int)) = (min i len : Nat) := by rw [clampI, Nat.min_eq_left (Nat.min_le_right i len)]
  have e4 : max (0 : Int) (min ((max (min i len) (min j len) : Nat) : Int) (len : Int)) = (max (min i len) (min j len) : Nat) := by rw [clampI, Nat.min_eq_left (Nat.max_le.mpr ⟨Nat.min_le_right _ _, Nat.min_le_right _ _⟩)]
  unfold strSliceIndices
  simp only [show (1 : Int) > 0 by decide, if_true, pos, if_false, clampI len i, clampI len j, e3, e4]
  unfold sliceRange
  simp only [show (1 : Int) > 0 by decide, if_true]
  by_cases h : min i len < min j len
  · rw [Nat.max_eq_right (Nat.le_of_lt h)]
  · have h1 : ¬ ((min i len : Nat) : Int) < ((min j len : Nat) : Int) := fun q => h (Int.ofNat_lt.mp q)
    rw [Nat.max_eq_left (Nat.le_of_not_lt h), if_neg h1, if_neg (Int.lt_irrefl _)]

theorem slice_sub {x : Str} {i j : Int} (hi : 0 ≤ i) (hj : 0 ≤ j) : Txt.slice x (some i) (some j) = sub x i.toNat j.toNat := by
  obtain ⟨a, rfl⟩ := Int.eq_ofNat_of_zero_le hi
  obtain ⟨b, rfl⟩ := Int.eq_ofNat_of_zero_le hj
  show StrLaws.sliceText x (some (a : Int)) (some (b : Int)) = _
  have e : StrLaws.sliceText x (some (a : Int)) (some (b : Int)) = StrLaws.sliceText x (some ((min a x.length : Nat) : Int)) (some ((max (min a x.length) (min b x.length) : Nat) : Int)) := by
    unfold StrLaws.sliceText
    rw [sliceIdx_clamp]
  rw [e, StrLaws.sliceText_nat x (Nat.le_max_left _ _) (Nat.max_le.mpr ⟨Nat.min_le_right _ _, Nat.min_le_right _ _⟩)]
  have hl : x.cps.toList.length = x.length := by simp [Str.length]
  unfold sub
  congr 2
  simp only [Int.toNat_natCast]
  by_cases h : a ≤ x.length
  · rw [Nat.min_eq_left h]
    by_cases h2 : a ≤ b
    · by_cases h3 : b ≤ x.length
      · rw [Nat.min_eq_left h3, Nat.max_eq_right h2]
      · have h4 := Nat.le_of_not_le h3
        rw [Nat.min_eq_right h4, Nat.max_eq_right h]
        have h5 : (List.drop a x.cps.toList).length ≤ x.length - a := by rw [List.length_drop, hl]; exact Nat.le_refl _
        rw [List.take_of_length_le h5, List.take_of_length_le (Nat.le_trans h5 (Nat.sub_le_sub_right h4 a))]
    · have h4 := Nat.le_of_not_le h2
      rw [Nat.max_eq_left (Nat.le_trans (Nat.min_le_left _ _) h4), Nat.sub_self, Nat.sub_eq_zero_of_le h4]
  · have h4 := Nat.le_of_not_le h
    rw [Nat.min_eq_right h4, List.drop_of_length_le (i := a) (hl ▸ h4), List.drop_of_length_le (i := x.length) (Nat.le_of_eq hl)]
    simp only [List.take_nil]

theorem slice_from_sub {x : Str} {i : Int} (hi : 0 ≤ i) : Txt.slice x (some i) none = sub x i.toNat x.length := by
  have e : Txt.slice x (some i) none = Txt.slice x (some i) (some (x.length : Int)) := by
    show StrLaws.sliceText _ _ _ = StrLaws.sliceText _ _ _
    unfold StrLaws.sliceText
    rw [StrLaws.sliceIdx_none_hi]
  rw [e, slice_sub hi (by omega)]
  simp
/-! the plain functions over codes -/
noncomputable def letC (c : Nat) : Bool := (decide (97 ≤ c) && decide (c ≤ 122)) || (decide (65 ≤ c) && decide (c ≤ 90))
noncomputable def digC (c : Nat) : Bool := decide (48 ≤ c) && decide (c ≤ 57)
noncomputable def hexC (c : Nat) : Bool := digC c || (decide (65 ≤ c) && decide (c ≤ 70))
noncomputable abbrev suf (x : Str) (n : Nat) : List Nat := x.cps.toList.drop n
theorem sub_one (x : Str) (n : Nat) : (sub x n (n + 1)).cps.toList = (suf x n).take 1 := by rw [sub_list]; congr 1; omega
theorem sub_two (x : Str) (n : Nat) : (sub x n (n + 2)).cps.toList = (suf x n).take 2 := by rw [sub_list]; congr 1; omega
theorem suf_cons {x : Str} {n c : Nat} {r : List Nat} (h : suf x n = c :: r) : suf x (n + 1) = r ∧ n < x.length := by
  constructor
  · show x.cps.toList.drop (n + 1) = r
    rw [show n + 1 = n + 1 from rfl, ← List.drop_drop, show List.drop n x.cps.toList = c :: r from h]; rfl
  · have h1 : (suf x n).length = (c :: r).length := by rw [h]
    rw [List.length_drop, List.length_cons, Array.length_toList] at h1
    show n < x.cps.size
    omega
theorem suf_nil {x : Str} {n : Nat} (h : suf x n = []) : x.length ≤ n := by
  have h1 : (suf x n).length = 0 := by rw [h]; rfl
  rw [List.length_drop, Array.length_toList] at h1
  show x.cps.size ≤ n
  omega
theorem suf_none {x : Str} {n : Nat} (h : x.length ≤ n) : suf x n = [] := List.drop_of_length_le (by rw [Array.length_toList]; exact h)

noncomputable def isDig (x : Str) : Bool := !decide (x.cps.toList < (Str.ofString "0").cps.toList) && !decide ((Str.ofString "9").cps.toList < x.cps.toList)
noncomputable def isLet (x : Str) : Bool := (!decide (x.cps.toList < (Str.ofString "a").cps.toList) && !decide ((Str.ofString "z").cps.toList < x.cps.toList)) || (!decide (x.cps.toList < (Str.ofString "A").cps.toList) && !decide ((Str.ofString "Z").cps.toList < x.cps.toList))
noncomputable def isHex (x : Str) : Bool := isDig x || (!decide (x.cps.toList < (Str.ofString "A").cps.toList) && !decide ((Str.ofString "F").cps.toList < x.cps.toList))

theorem lt_one (c d : Nat) : decide ([c] < [d]) = decide (c < d) := by
  congr 1
  simp [List.cons_lt_cons_iff]
theorem nil_lt_one (d : Nat) : decide (([] : List Nat) < [d]) = true := by simp
theorem lt_nil_one (d : Nat) : decide ([d] < ([] : List Nat)) = false := by simp
theorem lit_one {s : String} {c : Nat} (h : (Str.ofString s).cps.toList = [c]) : (Str.ofString s).cps.toList = [c] := h
theorem l_0 : (Str.ofString "0").cps.toList = [48] := by decide +kernel
theorem l_9 : (Str.ofString "9").cps.toList = [57] := by decide +kernel
theorem l_a : (Str.ofString "a").cps.toList = [97] := by decide +kernel
theorem l_z : (Str.ofString "z").cps.toList = [122] := by decide +kernel
theorem l_A : (Str.ofString "A").cps.toList = [65] := by decide +kernel
theorem l_Z : (Str.ofString "Z").cps.toList = [90] := by decide +kernel
theorem l_F : (Str.ofString "F").cps.toList = [70] := by decide +kernel
theorem isDig_nil {x : Str} (h : x.cps.toList = []) : isDig x = false := by unfold isDig; rw [h, l_0, nil_lt_one]; rfl
theorem isLet_nil {x : Str} (h : x.cps.toList = []) : isLet x = false := by unfold isLet; rw [h, l_a, l_A, nil_lt_one, nil_lt_one]; rfl
theorem isHex_nil {x : Str} (h : x.cps.toList = []) : isHex x = false := by unfold isHex; rw [isDig_nil h, h, l_A, nil_lt_one]; rfl
theorem not_lt_dec (a b : Nat) : (!decide (a < b)) = decide (b ≤ a) := by
  by_cases h : a < b
  · simp [h]
  · simp [h]; omega
theorem isDig_one {x : Str} {c : Nat} (h : x.cps.toList = [c]) : isDig x = digC c := by unfold isDig digC; rw [h, l_0, l_9, lt_one, lt_one, not_lt_dec, not_lt_dec]
theorem isLet_one {x : Str} {c : Nat} (h : x.cps.toList = [c]) : isLet x = letC c := by unfold isLet letC; rw [h, l_a, l_A, l_z, l_Z, lt_one, lt_one, lt_one, lt_one, not_lt_dec, not_lt_dec, not_lt_dec, not_lt_dec]
theorem isHex_one {x : Str} {c : Nat} (h : x.cps.toList = [c]) : isHex x = hexC c := by unfold isHex hexC; rw [isDig_one h, h, l_A, l_F, lt_one, lt_one, not_lt_dec, not_lt_dec]

/-- how far a kind of sign goes on -/
noncomputable def run (p : Nat → Bool) (l : List Nat) : Nat := (l.takeWhile p).length
theorem run_nil (p : Nat → Bool) : run p [] = 0 := rfl
theorem run_cons (p : Nat → Bool) (c : Nat) (r : List Nat) : run p (c :: r) = if p c then run p r + 1 else 0 := by
  unfold run; rw [List.takeWhile_cons]; cases p c <;> rfl
theorem run_le (p : Nat → Bool) (l : List Nat) : run p l ≤ l.length := by
  unfold run
  induction l with
  | nil => exact Nat.le_refl _
  | cons c r ih => rw [List.takeWhile_cons]; cases p c <;> simp <;> exact ih
noncomputable def wordC (c : Nat) : Bool := letC c || digC c
theorem one_cases (x : Str) (c : Nat) : (suf x c = [] ∧ (sub x ((c : Int)).toNat ((c : Int) + 1).toNat).cps.toList = []) ∨
    ∃ d r, suf x c = d :: r ∧ (sub x ((c : Int)).toNat ((c : Int) + 1).toNat).cps.toList = [d] ∧ suf x (c + 1) = r ∧ c < x.length := by
  rw [show ((c : Int)).toNat = c by omega, show ((c : Int) + 1).toNat = c + 1 by omega, sub_one]
  cases h : suf x c with
  | nil => exact .inl ⟨rfl, rfl⟩
  | cons d r => exact .inr ⟨d, r, rfl, rfl, (suf_cons h).1, (suf_cons h).2⟩
/-- a test of one sign -/
noncomputable def Sign (q : Str → Bool) (p : Nat → Bool) : Prop := (∀ x : Str, x.cps.toList = [] → q x = false) ∧ ∀ (x : Str) c, x.cps.toList = [c] → q x = p c
theorem sign_dig : Sign isDig digC := ⟨fun _ => isDig_nil, fun _ _ => isDig_one⟩
theorem sign_let : Sign isLet letC := ⟨fun _ => isLet_nil, fun _ _ => isLet_one⟩
theorem sign_hex : Sign isHex hexC := ⟨fun _ => isHex_nil, fun _ _ => isHex_one⟩
theorem Sign.go {q : Str → Bool} {p P : Nat → Bool} (S : Sign q p) (hp : ∀ c, p c = true → P c = true) {x : Str} {c : Nat} (h : q (sub x ((c : Int)).toNat ((c : Int) + 1).toNat) = true) :
    run P (suf x c) = run P (suf x (c + 1)) + 1 ∧ c < x.length := by
  rcases one_cases x c with ⟨_, h2⟩ | ⟨d, r, h1, h2, h3, h4⟩
  · rw [S.1 _ h2] at h; cases h
  · rw [S.2 _ _ h2] at h
    rw [h1, h3, run_cons, if_pos (hp d h)]; exact ⟨rfl, h4⟩
theorem Sign.stop {q : Str → Bool} {p : Nat → Bool} (S : Sign q p) {x : Str} {c : Nat} (h : q (sub x ((c : Int)).toNat ((c : Int) + 1).toNat) = false) : run p (suf x c) = 0 := by
  rcases one_cases x c with ⟨h1, _⟩ | ⟨d, r, h1, h2, _, _⟩
  · rw [h1]; rfl
  · rw [S.2 _ _ h2] at h
    rw [h1, run_cons, h]; rfl
theorem word_stop {x : Str} {c : Nat} (h : isLet (sub x ((c : Int)).toNat ((c : Int) + 1).toNat) = false) (h' : isDig (sub x ((c : Int)).toNat ((c : Int) + 1).toNat) = false) : run wordC (suf x c) = 0 := by
  rcases one_cases x c with ⟨h1, _⟩ | ⟨d, r, h1, h2, _, _⟩
  · rw [h1]; rfl
  · rw [isLet_one h2] at h
    rw [isDig_one h2] at h'
    rw [h1, run_cons, wordC, h, h']; rfl
theorem word_let {x : Str} {c : Nat} (h : isLet (sub x ((c : Int)).toNat ((c : Int) + 1).toNat) = true) : run wordC (suf x c) = run wordC (suf x (c + 1)) + 1 ∧ c < x.length := sign_let.go (fun c hc => by unfold wordC; rw [hc]; rfl) h
theorem word_dig {x : Str} {c : Nat} (h : isDig (sub x ((c : Int)).toNat ((c : Int) + 1).toNat) = true) : run wordC (suf x c) = run wordC (suf x (c + 1)) + 1 ∧ c < x.length := sign_dig.go (fun c hc => by unfold wordC; rw [hc]; exact Bool.or_true _) h
theorem ival {a b : Int} {t : Tok} (h : a = b) : ∃ t', Value.int a t = Value.int b t' := ⟨t, by rw [h]⟩
theorem sval {a b : Str} {t : Tok} (h : a = b) : ∃ t', Value.str a t = Value.str b t' := ⟨t, by rw [h]⟩
theorem int_val {a b : Nat} {t : Tok} (h : a = b) : Value.int (a : Int) t = Value.int (b : Int) t := by rw [h]
noncomputable def gapC (c : Nat) : Bool := decide (c ≤ 32)
/-- the length of the remark that begins here -/
noncomputable def rem : Int → List Nat → Option Nat
  | _, [] => none
  | _, [_] => none
  | d, a :: b :: r =>
    if a = 40 ∧ b = 42 then (rem (d + 1) r).map (· + 2)
    else if a = 42 ∧ b = 41 then (if d - 1 = 0 then some 2 else (rem (d - 1) r).map (· + 2))
    else (rem d (b :: r)).map (· + 1)
/-- the length of what is left of a string -/
noncomputable def strGo : List Nat → Option Nat
  | [] => none
  | c :: r => if c = 10 then none else if c = 34 then some 1 else (strGo r).map (· + 1)
theorem str_eq {y : Str} {s : String} {l : List Nat} (hs : (Str.ofString s).cps.toList = l) : (y == Str.ofString s) = decide (y.cps.toList = l) := by
  rw [Bool.eq_iff_iff, beq_iff_eq, decide_eq_true_eq, ← hs]
  constructor
  · rintro rfl; rfl
  · intro h
    cases y; cases hz : Str.ofString s
    rw [hz] at h
    simp only [Str.mk.injEq]
    exact Array.toList_inj.mp h
theorem l_op : (Str.ofString "(*").cps.toList = [40, 42] := by decide +kernel
theorem l_cl : (Str.ofString "*)").cps.toList = [42, 41] := by decide +kernel
theorem two_nat (c : Nat) : (((c : Int)).toNat, ((c : Int) + 2).toNat) = (c, c + 2) := by rw [show ((c : Int)).toNat = c by omega, show ((c : Int) + 2).toNat = c + 2 by omega]
theorem sub_two' (x : Str) (c : Nat) : (sub x ((c : Int)).toNat ((c : Int) + 2).toNat).cps.toList = (suf x c).take 2 := by
  rw [show ((c : Int)).toNat = c by omega, show ((c : Int) + 2).toNat = c + 2 by omega, sub_two]
theorem two_is {x : Str} {c : Nat} {s : String} {a b : Nat} (hs : (Str.ofString s).cps.toList = [a, b]) (h : (sub x ((c : Int)).toNat ((c : Int) + 2).toNat == Str.ofString s) = true) :
    suf x c = a :: b :: suf x (c + 2) ∧ c + 2 ≤ x.length := by
  rw [str_eq hs, decide_eq_true_eq, sub_two'] at h
  cases h1 : suf x c with
  | nil => rw [h1] at h; cases h
  | cons p r =>
    cases r with
    | nil => rw [h1] at h; cases h
    | cons q r =>
      rw [h1] at h
      simp only [List.take_succ_cons, List.take_zero, List.cons.injEq, and_true] at h
      obtain ⟨rfl, rfl⟩ := h
      obtain ⟨h2, h3⟩ := suf_cons h1
      obtain ⟨h4, h5⟩ := suf_cons h2
      exact ⟨by rw [h4], by omega⟩
theorem two_not {x : Str} {c : Nat} {s : String} {a b : Nat} (hs : (Str.ofString s).cps.toList = [a, b]) (h : (sub x ((c : Int)).toNat ((c : Int) + 2).toNat == Str.ofString s) = false) :
    ∀ r, suf x c ≠ a :: b :: r := by
  intro r hr
  rw [str_eq hs, decide_eq_false_iff_not, sub_two', hr] at h
  exact h rfl
noncomputable def remV (n : Nat) (o : Option Nat) : Int := match o with | some k => ((n + k : Nat) : Int) | none => -1
theorem remV_map (n j : Nat) (o : Option Nat) : remV n (o.map (· + j)) = remV (n + j) o := by
  cases o with
  | none => rfl
  | some k => show ((n + (k + j) : Nat) : Int) = ((n + j + k : Nat) : Int); omega
theorem rem_open {x : Str} {c : Nat} {d : Int} (h : (sub x ((c : Int)).toNat ((c : Int) + 2).toNat == Str.ofString "(*") = true) : rem d (suf x c) = (rem (d + 1) (suf x (c + 2))).map (· + 2) ∧ c + 2 ≤ x.length := by
  obtain ⟨h1, h2⟩ := two_is l_op h
  rw [h1, rem, if_pos ⟨rfl, rfl⟩]; exact ⟨rfl, h2⟩
theorem rem_close {x : Str} {c : Nat} {d : Int} (h : (sub x ((c : Int)).toNat ((c : Int) + 2).toNat == Str.ofString "*)") = true) : rem d (suf x c) = (if d - 1 = 0 then some 2 else (rem (d - 1) (suf x (c + 2))).map (· + 2)) ∧ c + 2 ≤ x.length := by
  obtain ⟨h1, h2⟩ := two_is l_cl h
  rw [h1, rem, if_neg (by omega), if_pos ⟨rfl, rfl⟩]; exact ⟨rfl, h2⟩
theorem rem_other {x : Str} {c : Nat} {d : Int} (h : (sub x ((c : Int)).toNat ((c : Int) + 2).toNat == Str.ofString "(*") = false) (h' : (sub x ((c : Int)).toNat ((c : Int) + 2).toNat == Str.ofString "*)") = false) : rem d (suf x c) = (rem d (suf x (c + 1))).map (· + 1) := by
  have n1 := two_not l_op h
  have n2 := two_not l_cl h'
  cases h1 : suf x c with
  | nil => rw [suf_none (n := c + 1) (by have := suf_nil h1; omega)]; rfl
  | cons p r =>
    rw [(suf_cons h1).1]
    cases r with
    | nil => rfl
    | cons q r =>
      rw [rem, if_neg (fun e => n1 r (by rw [h1, e.1, e.2])), if_neg (fun e => n2 r (by rw [h1, e.1, e.2]))]
theorem rem_end {x : Str} {c : Nat} {d : Int} (h : ¬ ((c : Int) < (x.length : Int))) : rem d (suf x c) = none := by
  rw [suf_none (by omega)]; cases d <;> rfl
theorem item_at' {x : Str} {c : Nat} (h : (c : Int) < (x.length : Int)) : ∃ d, suf x c = d :: suf x (c + 1) ∧ (Txt.item x (c : Int)).cps = #[d] := by
  cases h1 : suf x c with
  | nil => have := suf_nil h1; omega
  | cons d r =>
    refine ⟨d, by rw [(suf_cons h1).1], ?_⟩
    unfold Txt.item
    have h2 : x.cps[c]? = some d := by
      have h3 : (suf x c)[0]? = some d := by rw [h1]; rfl
      rw [List.getElem?_drop, Array.getElem?_toList] at h3
      exact h3
    have h4 : Txt.charAt x (c : Int) = some d := by
      unfold Txt.charAt seqIndex?
      simp only [show ¬ ((c : Int) < 0) by omega, if_false]
      have h5 : c < x.length := by omega
      simp [h5, h2]
    rw [h4]; rfl
theorem gap_go {x : Str} {c : Nat} (h : (c : Int) < (x.length : Int)) (h' : ((Txt.item x (c : Int)).cps.getD 0 0 : Int) ≤ 32) : run gapC (suf x c) = run gapC (suf x (c + 1)) + 1 ∧ c < x.length := by
  obtain ⟨d, h1, h2⟩ := item_at' h
  rw [h2] at h'
  have h3 : (d : Int) ≤ 32 := h'
  rw [h1, run_cons, if_pos (by unfold gapC; exact decide_eq_true (by omega))]
  exact ⟨rfl, by omega⟩
theorem gap_stop {x : Str} {c : Nat} (h : (c : Int) < (x.length : Int)) (h' : ¬ ((Txt.item x (c : Int)).cps.getD 0 0 : Int) ≤ 32) : run gapC (suf x c) = 0 := by
  obtain ⟨d, h1, h2⟩ := item_at' h
  rw [h2] at h'
  have h3 : ¬ (d : Int) ≤ 32 := h'
  rw [h1, run_cons, if_neg (by unfold gapC; simp; omega)]
theorem run_end {x : Str} {c : Nat} {p : Nat → Bool} (h : ¬ (c : Int) < (x.length : Int)) : run p (suf x c) = 0 := by rw [suf_none (by omega)]; rfl
noncomputable def rowC (c : Nat) : Bool := !decide (c = 10)
noncomputable def signs : List Nat := [43, 45, 42, 47, 126, 38, 46, 44, 59, 124, 40, 91, 123, 94, 61, 35, 60, 62, 58, 41, 93, 125]
theorem l_signs : (Str.ofString "+-*/~&.,;|([{^=#<>:)]}").cps.toList = signs := by decide +kernel
noncomputable def pairB (l : List Nat) : Bool := decide (l.take 2 = [58, 61]) || (decide (l.take 2 = [60, 61]) || (decide (l.take 2 = [62, 61]) || decide (l.take 2 = [46, 46])))
noncomputable def signLen (l : List Nat) : Nat := if pairB l = true then 2 else if decide (∃ c ∈ l.head?, c ∈ signs) = true then 1 else 0
theorem l_as : (Str.ofString ":=").cps.toList = [58, 61] := by decide +kernel
theorem l_le : (Str.ofString "<=").cps.toList = [60, 61] := by decide +kernel
theorem l_ge : (Str.ofString ">=").cps.toList = [62, 61] := by decide +kernel
theorem l_dd : (Str.ofString "..").cps.toList = [46, 46] := by decide +kernel
theorem beq_comm' (a b : Str) : (a == b) = (b == a) := by rw [Bool.eq_iff_iff, beq_iff_eq, beq_iff_eq]; exact eq_comm
theorem pair_any (y : Str) : ([Str.ofString ":=", Str.ofString "<=", Str.ofString ">=", Str.ofString ".."].any fun z => z == y) = pairB y.cps.toList ∨ 2 < y.cps.toList.length := by
  by_cases h : 2 < y.cps.toList.length
  · exact .inr h
  · left
    simp only [List.any_cons, List.any_nil, Bool.or_false]
    rw [beq_comm' _ y, beq_comm' _ y, beq_comm' _ y, beq_comm' _ y, str_eq l_as, str_eq l_le, str_eq l_ge, str_eq l_dd]
    unfold pairB
    rw [List.take_of_length_le (by omega)]
theorem pair_two (x : Str) (c : Nat) : ([Str.ofString ":=", Str.ofString "<=", Str.ofString ">=", Str.ofString ".."].any fun z => z == sub x ((c : Int)).toNat ((c : Int) + 2).toNat) = pairB (suf x c) := by
  have hl : (sub x ((c : Int)).toNat ((c : Int) + 2).toNat).cps.toList = (suf x c).take 2 := sub_two' x c
  rcases pair_any (sub x ((c : Int)).toNat ((c : Int) + 2).toNat) with h | h
  · rw [h, hl]; unfold pairB; rw [List.take_take]; rfl
  · rw [hl, List.length_take] at h; omega
theorem sign_item {x : Str} {c : Nat} (h : (c : Int) < (x.length : Int)) : (Builtin.Str.occurrences (Str.ofString "+-*/~&.,;|([{^=#<>:)]}") (Txt.item x (c : Int)) 0 (Str.ofString "+-*/~&.,;|([{^=#<>:)]}").length 1).isEmpty = !decide (∃ d ∈ (suf x c).head?, d ∈ signs) := by
  obtain ⟨d, h1, h2⟩ := item_at' h
  have h3 : Txt.item x (c : Int) = ⟨#[d]⟩ := by rw [← h2]
  have h4 := StrLaws.found_one (Str.ofString "+-*/~&.,;|([{^=#<>:)]}") d
  rw [l_signs] at h4
  rw [h3, h1]
  simp only [List.head?_cons, Option.mem_def, Option.some.injEq, exists_eq_left']
  rw [← h4, Bool.not_not]
theorem sign_2 {x : Str} {c : Nat} (h : ([Str.ofString ":=", Str.ofString "<=", Str.ofString ">=", Str.ofString ".."].any fun z => z == sub x ((c : Int)).toNat ((c : Int) + 2).toNat) = true) : signLen (suf x c) = 2 := by
  rw [pair_two] at h; unfold signLen; rw [if_pos h]
theorem sign_1 {x : Str} {c : Nat} {b : Bool} (h : ([Str.ofString ":=", Str.ofString "<=", Str.ofString ">=", Str.ofString ".."].any fun z => z == sub x ((c : Int)).toNat ((c : Int) + 2).toNat) = false) (hc : c < x.length)
    (h' : (Builtin.Str.occurrences (Str.ofString "+-*/~&.,;|([{^=#<>:)]}") (Txt.item x (c : Int)) 0 (Str.ofString "+-*/~&.,;|([{^=#<>:)]}").length 1).isEmpty = b) : signLen (suf x c) = if b = true then 0 else 1 := by
  rw [pair_two] at h; unfold signLen; rw [if_neg (by rw [h]; exact Bool.false_ne_true)]
  rw [sign_item (by omega)] at h'
  cases b with
  | true => rw [if_pos rfl, if_neg]; intro e; rw [e] at h'; cases h'
  | false => rw [if_neg Bool.false_ne_true, if_pos]; rw [Bool.not_eq_false'] at h'; exact h'
theorem l_nl : (Str.ofString "\n").cps.toList = [10] := by decide +kernel
theorem l_qu : (Str.ofString "\"").cps.toList = [34] := by decide +kernel
theorem item_is {x : Str} {c : Nat} {s : String} {a : Nat} (hs : (Str.ofString s).cps.toList = [a]) (h : (c : Int) < (x.length : Int)) : ∃ d, suf x c = d :: suf x (c + 1) ∧ (Txt.item x (c : Int) == Str.ofString s) = decide (d = a) := by
  obtain ⟨d, h1, h2⟩ := item_at' h
  refine ⟨d, h1, ?_⟩
  rw [str_eq hs, h2]
  congr 1
  simp
theorem bne_beq (a b : Str) : (a != b) = !(a == b) := rfl
theorem row_go {x : Str} {c : Nat} (h : (c : Int) < (x.length : Int)) (h' : (Txt.item x (c : Int) != Str.ofString "\n") = true) : run rowC (suf x c) = run rowC (suf x (c + 1)) + 1 ∧ c < x.length := by
  obtain ⟨d, h1, h2⟩ := item_is l_nl h
  rw [bne_beq, h2] at h'
  rw [h1, run_cons, if_pos (show rowC d = true from h')]; exact ⟨rfl, by omega⟩
theorem row_stop {x : Str} {c : Nat} (h : (c : Int) < (x.length : Int)) (h' : (Txt.item x (c : Int) != Str.ofString "\n") = false) : run rowC (suf x c) = 0 := by
  obtain ⟨d, h1, h2⟩ := item_is l_nl h
  rw [bne_beq, h2] at h'
  rw [h1, run_cons, if_neg (by unfold rowC; rw [h']; exact Bool.false_ne_true)]
theorem str_quote {x : Str} {c : Nat} (h : (c : Int) < (x.length : Int)) (h' : (Txt.item x (c : Int) != Str.ofString "\n") = true) (h'' : (Txt.item x (c : Int) == Str.ofString "\"") = true) : strGo (suf x c) = some 1 := by
  obtain ⟨d, h1, h2⟩ := item_is l_nl h
  obtain ⟨e, h3, h4⟩ := item_is l_qu h
  rw [h1] at h3
  cases h3
  rw [bne_beq, h2] at h'
  rw [h4, decide_eq_true_eq] at h''
  subst h''
  rw [h1]; rfl
theorem str_go {x : Str} {c : Nat} (h : (c : Int) < (x.length : Int)) (h' : (Txt.item x (c : Int) != Str.ofString "\n") = true) (h'' : (Txt.item x (c : Int) == Str.ofString "\"") = false) : strGo (suf x c) = (strGo (suf x (c + 1))).map (· + 1) ∧ c < x.length := by
  obtain ⟨d, h1, h2⟩ := item_is l_nl h
  obtain ⟨e, h3, h4⟩ := item_is l_qu h
  rw [h1] at h3
  obtain ⟨rfl, h5⟩ := List.cons.inj h3
  rw [bne_beq, h2] at h'
  rw [h4, decide_eq_false_iff_not] at h''
  simp only [Bool.not_eq_true', decide_eq_false_iff_not] at h'
  refine ⟨?_, by omega⟩
  rw [h1, strGo, if_neg h', if_neg h'']
theorem str_nl {x : Str} {c : Nat} (h : (c : Int) < (x.length : Int)) (h' : (Txt.item x (c : Int) != Str.ofString "\n") = false) : strGo (suf x c) = none := by
  obtain ⟨d, h1, h2⟩ := item_is l_nl h
  rw [bne_beq, h2] at h'
  simp only [Bool.not_eq_false', decide_eq_true_eq] at h'
  rw [h1, strGo, if_pos h']
theorem str_end {x : Str} {c : Nat} (h : ¬ (c : Int) < (x.length : Int)) : strGo (suf x c) = none := by rw [suf_none (by omega)]; rfl
theorem toNat_1 (a : Nat) : ((a : Int) + 1).toNat = a + 1 := by omega
theorem toNat_2 (a : Nat) : ((a : Int) + 2).toNat = a + 2 := by omega
theorem toNat_11 (a : Nat) : ((a : Int) + 1 + 1).toNat = a + 1 + 1 := by omega
noncomputable def tHX (x : Str) (p : Nat) : Bool := [Str.ofString "H", Str.ofString "X"].any fun z => z == sub x p (p + 1)
noncomputable def tPM (x : Str) (p : Nat) : Bool := [Str.ofString "+", Str.ofString "-"].any fun z => z == sub x p (p + 1)
noncomputable def tIs (s : String) (x : Str) (p : Nat) : Bool := sub x p (p + 1) == Str.ofString s
/-- number_end -/
noncomputable def numEnd (x : Str) (n : Nat) : Nat :=
  let h := n + run hexC (suf x n)
  if tHX x h = true then h + 1 else
  let d := n + run digC (suf x n)
  if tIs "." x d = false then d else
  if tIs "." x (d + 1) = true then d else
  let e := d + 1 + run digC (suf x (d + 1))
  if tIs "E" x e = false then e else
  let b := if tPM x (e + 1) = true then e + 1 + 1 else e + 1
  if run digC (suf x b) = 0 then e else b + run digC (suf x b)
section
variable {x : Str} {n c : Nat} (hP : n + run hexC (suf x n) = c + run hexC (suf x c)) (h1 : isHex (sub x ((c : Int)).toNat ((c : Int) + 1).toNat) = false)
include hP h1
theorem num_h : n + run hexC (suf x n) = c := by rw [hP, sign_hex.stop h1]; rfl
theorem num_1 (h2 : ([Str.ofString "H", Str.ofString "X"].any fun z => z == sub x ((c : Int)).toNat ((c : Int) + 1).toNat) = true) : numEnd x n = c + 1 := by
  unfold numEnd
  rw [num_h hP h1, if_pos (by unfold tHX; rw [Int.toNat_natCast, toNat_1] at h2; exact h2)]
variable (h2 : ([Str.ofString "H", Str.ofString "X"].any fun z => z == sub x ((c : Int)).toNat ((c : Int) + 1).toNat) = false)
include h2
theorem num_t : tHX x (n + run hexC (suf x n)) = false := by
  rw [num_h hP h1]; unfold tHX; rw [Int.toNat_natCast, toNat_1] at h2; exact h2
theorem num_2 (h3 : (sub x (((n + run digC (suf x n) : Nat) : Int)).toNat (((n + run digC (suf x n) : Nat) : Int) + 1).toNat != Str.ofString ".") = true) : numEnd x n = n + run digC (suf x n) := by
  rw [Int.toNat_natCast, toNat_1, bne_beq] at h3
  unfold numEnd
  simp only [num_t hP h1 h2, Bool.false_eq_true, if_false]
  rw [if_pos (by unfold tIs; rw [Bool.not_eq_true'] at h3; exact h3)]
variable (h3 : (sub x (((n + run digC (suf x n) : Nat) : Int)).toNat (((n + run digC (suf x n) : Nat) : Int) + 1).toNat != Str.ofString ".") = false)
include h3
theorem num_u : tIs "." x (n + run digC (suf x n)) = true := by
  rw [Int.toNat_natCast, toNat_1, bne_beq, Bool.not_eq_false'] at h3; exact h3
theorem num_3 (h4 : (sub x (((n + run digC (suf x n) : Nat) : Int) + 1).toNat (((n + run digC (suf x n) : Nat) : Int) + 2).toNat == Str.ofString ".") = true) : numEnd x n = n + run digC (suf x n) := by
  rw [toNat_1, toNat_2] at h4
  unfold numEnd
  simp only [num_t hP h1 h2, num_u hP h1 h2 h3, Bool.false_eq_true, Bool.true_eq_false, if_false]
  rw [if_pos (by unfold tIs; exact h4)]
variable (h4 : (sub x (((n + run digC (suf x n) : Nat) : Int) + 1).toNat (((n + run digC (suf x n) : Nat) : Int) + 2).toNat == Str.ofString ".") = false)
include h4
theorem num_v : tIs "." x (n + run digC (suf x n) + 1) = false := by
  rw [toNat_1, toNat_2] at h4; unfold tIs; exact h4
theorem num_4 (h5 : (sub x (((n + run digC (suf x n) + 1 + run digC (suf x (n + run digC (suf x n) + 1)) : Nat) : Int)).toNat (((n + run digC (suf x n) + 1 + run digC (suf x (n + run digC (suf x n) + 1)) : Nat) : Int) + 1).toNat != Str.ofString "E") = true) :
    numEnd x n = n + run digC (suf x n) + 1 + run digC (suf x (n + run digC (suf x n) + 1)) := by
  rw [Int.toNat_natCast, toNat_1, bne_beq, Bool.not_eq_true'] at h5
  unfold numEnd
  simp only [num_t hP h1 h2, num_u hP h1 h2 h3, num_v hP h1 h2 h3 h4, Bool.false_eq_true, Bool.true_eq_false, if_false]
  rw [if_pos (by unfold tIs; exact h5)]
variable (h5 : (sub x (((n + run digC (suf x n) + 1 + run digC (suf x (n + run digC (suf x n) + 1)) : Nat) : Int)).toNat (((n + run digC (suf x n) + 1 + run digC (suf x (n + run digC (suf x n) + 1)) : Nat) : Int) + 1).toNat != Str.ofString "E") = false)
include h5
theorem num_w : tIs "E" x (n + run digC (suf x n) + 1 + run digC (suf x (n + run digC (suf x n) + 1))) = true := by
  rw [Int.toNat_natCast, toNat_1, bne_beq, Bool.not_eq_false'] at h5; exact h5
theorem num_b {e k : Nat} (he : e = n + run digC (suf x n) + 1 + run digC (suf x (n + run digC (suf x n) + 1))) {b : Bool} (h6 : ([Str.ofString "+", Str.ofString "-"].any fun z => z == sub x ((e : Int) + 1).toNat ((e : Int) + 1 + 1).toNat) = b) (hk : k = if b = true then e + 1 + 1 else e + 1) :
    numEnd x n = if run digC (suf x k) = 0 then e else k + run digC (suf x k) := by
  rw [toNat_1, toNat_11] at h6
  have h7 : tPM x (e + 1) = b := h6
  have h8 : tIs "E" x e = true := by rw [he]; exact num_w hP h1 h2 h3 h4 h5
  unfold numEnd
  simp only [num_t hP h1 h2, num_u hP h1 h2 h3, num_v hP h1 h2 h3 h4, ← he, h8, Bool.false_eq_true, Bool.true_eq_false, if_false, h7, ← hk]
end
noncomputable def kwords : List Str := [Str.ofString "ARRAY", Str.ofString "BEGIN", Str.ofString "BY", Str.ofString "CASE", Str.ofString "CONST", Str.ofString "DIV", Str.ofString "DO", Str.ofString "ELSE", Str.ofString "ELSIF", Str.ofString "END", Str.ofString "FOR", Str.ofString "IF", Str.ofString "IMPORT", Str.ofString "IN", Str.ofString "IS", Str.ofString "MOD", Str.ofString "MODULE", Str.ofString "NIL", Str.ofString "OF", Str.ofString "OR", Str.ofString "POINTER", Str.ofString "PROCEDURE", Str.ofString "RECORD", Str.ofString "REPEAT", Str.ofString "RETURN", Str.ofString "THEN", Str.ofString "TO", Str.ofString "TYPE", Str.ofString "UNTIL", Str.ofString "VAR", Str.ofString "WHILE"]
/-- the item at a place: its kind and its end -/
noncomputable def itemOf (x : Str) (n : Nat) : Str × Nat :=
  let d := (suf x n).headD 0
  if d ≤ 32 then (Str.ofString "gap", n + run gapC (suf x n))
  else if (suf x n).take 2 = [40, 42] then (match rem 0 (suf x n) with | none => (Str.ofString "stray", x.length) | some k => (Str.ofString "remark", n + k))
  else if letC d = true then (if (kwords.any fun z => z == sub x n (n + run wordC (suf x n))) = true then Str.ofString "word" else Str.ofString "name", n + run wordC (suf x n))
  else if digC d = true then (Str.ofString "number", numEnd x n)
  else if d = 34 then (match strGo (suf x (n + 1)) with | none => (Str.ofString "stray", n + run rowC (suf x n)) | some k => (Str.ofString "text", n + 1 + k))
  else if 0 < signLen (suf x n) then (Str.ofString "sign", n + signLen (suf x n)) else (Str.ofString "stray", n + 1)
section
variable {x : Str} {n : Nat} (h0 : n < x.length)
include h0
theorem io_d : ∃ d, suf x n = d :: suf x (n + 1) ∧ (Txt.item x (n : Int)).cps = #[d] ∧ (suf x n).headD 0 = d := by
  obtain ⟨d, h1, h2⟩ := item_at' (x := x) (c := n) (by omega)
  exact ⟨d, h1, h2, by rw [h1]; rfl⟩
theorem io_gap (h1 : ((Txt.item x (n : Int)).cps.getD 0 0 : Int) ≤ 32) : itemOf x n = (Str.ofString "gap", n + run gapC (suf x n)) := by
  obtain ⟨d, e1, e2, e3⟩ := io_d h0
  rw [e2] at h1
  have h2 : (d : Int) ≤ 32 := h1
  unfold itemOf
  simp only [e3]
  rw [if_pos (by omega)]
variable (h1 : ¬ ((Txt.item x (n : Int)).cps.getD 0 0 : Int) ≤ 32)
include h1
theorem io_n : ¬ (suf x n).headD 0 ≤ 32 := by
  obtain ⟨d, e1, e2, e3⟩ := io_d h0
  rw [e2] at h1
  have h2 : ¬ (d : Int) ≤ 32 := h1
  rw [e3]; omega
theorem io_stray (h2 : (sub x ((n : Int)).toNat ((n : Int) + 2).toNat == Str.ofString "(*") = true) (h3 : remV n (rem 0 (suf x n)) < 0) : itemOf x n = (Str.ofString "stray", x.length) := by
  have e := two_is l_op h2
  have h4 : rem 0 (suf x n) = none := by
    cases h5 : rem 0 (suf x n) with
    | none => rfl
    | some k => rw [h5] at h3; unfold remV at h3; simp only at h3; omega
  unfold itemOf
  simp only [io_n h0 h1, if_false]
  rw [if_pos (by rw [e.1]; rfl), h4]
theorem io_remark (h2 : (sub x ((n : Int)).toNat ((n : Int) + 2).toNat == Str.ofString "(*") = true) (h3 : ¬ remV n (rem 0 (suf x n)) < 0) : itemOf x n = (Str.ofString "remark", (remV n (rem 0 (suf x n))).toNat) := by
  have e := two_is l_op h2
  cases h5 : rem 0 (suf x n) with
  | none => rw [h5] at h3; exact absurd (show (-1 : Int) < 0 by decide) h3
  | some k =>
    unfold itemOf
    simp only [io_n h0 h1, if_false]
    rw [if_pos (by rw [e.1]; rfl), h5]; rfl
variable (h2 : (sub x ((n : Int)).toNat ((n : Int) + 2).toNat == Str.ofString "(*") = false)
include h2
theorem io_n2 : ¬ (suf x n).take 2 = [40, 42] := by
  intro h3
  rw [str_eq l_op, sub_two', decide_eq_false_iff_not] at h2
  exact h2 h3
theorem io_word {b : Bool} (h3 : isLet (Txt.item x (n : Int)) = true) (h4 : (kwords.any fun z => z == sub x ((n : Int)).toNat ((n + run wordC (suf x n) : Nat) : Int).toNat) = b) : itemOf x n = (if b = true then Str.ofString "word" else Str.ofString "name", n + run wordC (suf x n)) := by
  obtain ⟨d, e1, e2, e3⟩ := io_d h0
  rw [isLet_one (c := d) (by rw [e2])] at h3
  rw [Int.toNat_natCast, Int.toNat_natCast] at h4
  unfold itemOf
  simp only [io_n h0 h1, io_n2 h0 h1 h2, if_false]
  rw [e3, if_pos h3, h4]
variable (h3 : isLet (Txt.item x (n : Int)) = false)
include h3
theorem io_n3 : letC ((suf x n).headD 0) = false := by
  obtain ⟨d, e1, e2, e3⟩ := io_d h0
  rw [isLet_one (c := d) (by rw [e2])] at h3
  rw [e3, h3]
theorem io_number (h4 : isDig (Txt.item x (n : Int)) = true) : itemOf x n = (Str.ofString "number", numEnd x n) := by
  obtain ⟨d, e1, e2, e3⟩ := io_d h0
  rw [isDig_one (c := d) (by rw [e2])] at h4
  unfold itemOf
  simp only [io_n h0 h1, io_n2 h0 h1 h2, io_n3 h0 h1 h2 h3, if_false, Bool.false_eq_true]
  rw [e3, if_pos h4]
variable (h4 : isDig (Txt.item x (n : Int)) = false)
include h4
theorem io_n4 : digC ((suf x n).headD 0) = false := by
  obtain ⟨d, e1, e2, e3⟩ := io_d h0
  rw [isDig_one (c := d) (by rw [e2])] at h4
  rw [e3, h4]
theorem io_str {b : Bool} (h5 : (Txt.item x (n : Int) == Str.ofString "\"") = b) : decide ((suf x n).headD 0 = 34) = b := by
  obtain ⟨d, e1, e2, e3⟩ := io_d h0
  rw [str_eq l_qu, e2] at h5
  rw [e3, ← h5]; congr 1; simp
theorem io_stray2 (h5 : (Txt.item x (n : Int) == Str.ofString "\"") = true) (h6 : remV (n + 1) (strGo (suf x (n + 1))) < 0) : itemOf x n = (Str.ofString "stray", n + run rowC (suf x n)) := by
  have e := of_decide_eq_true (io_str h0 h1 h2 h3 h4 h5)
  have h7 : strGo (suf x (n + 1)) = none := by
    cases h8 : strGo (suf x (n + 1)) with
    | none => rfl
    | some k => rw [h8] at h6; unfold remV at h6; simp only at h6; omega
  unfold itemOf
  simp only [io_n h0 h1, io_n2 h0 h1 h2, io_n3 h0 h1 h2 h3, io_n4 h0 h1 h2 h3 h4, if_false, Bool.false_eq_true]
  rw [if_pos e, h7]
theorem io_text (h5 : (Txt.item x (n : Int) == Str.ofString "\"") = true) (h6 : ¬ remV (n + 1) (strGo (suf x (n + 1))) < 0) : itemOf x n = (Str.ofString "text", (remV (n + 1) (strGo (suf x (n + 1)))).toNat) := by
  have e := of_decide_eq_true (io_str h0 h1 h2 h3 h4 h5)
  cases h7 : strGo (suf x (n + 1)) with
  | none => rw [h7] at h6; exact absurd (show (-1 : Int) < 0 by decide) h6
  | some k =>
    unfold itemOf
    simp only [io_n h0 h1, io_n2 h0 h1 h2, io_n3 h0 h1 h2 h3, io_n4 h0 h1 h2 h3 h4, if_false, Bool.false_eq_true]
    rw [if_pos e, h7]; rfl
variable (h5 : (Txt.item x (n : Int) == Str.ofString "\"") = false)
include h5
theorem io_sign (h6 : (n : Int) < ((n + signLen (suf x n) : Nat) : Int)) : itemOf x n = (Str.ofString "sign", n + signLen (suf x n)) := by
  have e := of_decide_eq_false (io_str h0 h1 h2 h3 h4 h5)
  unfold itemOf
  simp only [io_n h0 h1, io_n2 h0 h1 h2, io_n3 h0 h1 h2 h3, io_n4 h0 h1 h2 h3 h4, if_false, Bool.false_eq_true]
  rw [if_neg e, if_pos (by omega)]
theorem io_stray3 (h6 : ¬ (n : Int) < ((n + signLen (suf x n) : Nat) : Int)) : itemOf x n = (Str.ofString "stray", n + 1) := by
  have e := of_decide_eq_false (io_str h0 h1 h2 h3 h4 h5)
  unfold itemOf
  simp only [io_n h0 h1, io_n2 h0 h1 h2, io_n3 h0 h1 h2 h3, io_n4 h0 h1 h2 h3 h4, if_false, Bool.false_eq_true]
  rw [if_neg e, if_neg (by omega)]
end
theorem item_sub {x : Str} {n : Nat} (h : n < x.length) : Txt.item x (n : Int) = sub x n (n + 1) := by
  obtain ⟨d, e1, e2, e3⟩ := io_d h
  have h1 := sub_one x n
  rw [e1] at h1
  cases h2 : sub x n (n + 1)
  cases h3 : Txt.item x (n : Int)
  rw [h2] at h1; rw [h3] at e2
  simp only at e2 h1
  rw [e2]
  congr 1
  exact Array.toList_inj.mp (by rw [h1]; rfl)
/-- the items from a place on -/
inductive Items (x : Str) : Nat → List (Str × Str × Nat) → Prop
  | done {n : Nat} : x.length ≤ n → Items x n []
  | step {n e : Nat} {k : Str} {r : List (Str × Str × Nat)} : n < x.length → itemOf x n = (k, e) → Items x (n + (sub x n e).length) r → Items x n ((k, sub x n e, n) :: r)
end
section
open PySem PySem.W PyProof.Rows PySem.Spec PySem.Calls
section
variable {prog : Program} {w : World} {A : Around} {E : Value → Shared → Prop} {s : Shared} {value slice : PySem.Expr} {x : Str} {t : Tok} {h₀ : Heap} {L : Addr} {m : Str → Option Value} {news : List (Addr × Obj)} {Q : Value → Shared → Prop}
theorem slice_ss {i j : Int} {ui uj : Tok} (hF : Fr h₀ L s.heap m) (hN : News h₀ L s.heap news) (hi : 0 ≤ i) (hj : 0 ≤ j) (hsz : x.length ≤ sizeLine) (h : ∀ h' t' k, Fr h₀ L h' m → News h₀ L h' news → Q (.str (sub x i.toNat j.toNat) t') { s with heap := h', toks := k })
    (hs : subscripted slice false (.str x t) (.ref s.heap.objs.size) = operate [.ref s.heap.objs.size, .str x t] (getItem (.str x t) (.ref s.heap.objs.size)) := by with_unfolding_all rfl)
    (ht : ∀ r, letTemporaryGo value (.str x t) r = pure () := by intro _; with_unfolding_all rfl) :
    wpAny (model prog w) A (subscriptTail value slice (.str x t) (.ref s.heap.objs.size)) Q E { s with heap := s.heap.push { cls := .type "slice", data := .fields #[.int i ui, .int j uj, .none] } } :=
  slice_strN_ss hF hN (by rw [slice_sub hi hj]; exact h) hs ht hsz
theorem slice_sn {i : Int} {ui : Tok} (hF : Fr h₀ L s.heap m) (hN : News h₀ L s.heap news) (hi : 0 ≤ i) (hsz : x.length ≤ sizeLine) (h : ∀ h' t' k, Fr h₀ L h' m → News h₀ L h' news → Q (.str (sub x i.toNat x.length) t') { s with heap := h', toks := k })
    (hs : subscripted slice false (.str x t) (.ref s.heap.objs.size) = operate [.ref s.heap.objs.size, .str x t] (getItem (.str x t) (.ref s.heap.objs.size)) := by with_unfolding_all rfl)
    (ht : ∀ r, letTemporaryGo value (.str x t) r = pure () := by intro _; with_unfolding_all rfl) :
    wpAny (model prog w) A (subscriptTail value slice (.str x t) (.ref s.heap.objs.size)) Q E { s with heap := s.heap.push { cls := .type "slice", data := .fields #[.int i ui, .none, .none] } } :=
  slice_strN_sn hF hN (by rw [slice_from_sub hi]; exact h) hs ht hsz
end
end
section
open PySem PySem.W PyProof.Rows PySem.Spec PySem.Calls
theorem str_ext {a b : Str} (h : a.cps.toList = b.cps.toList) : a = b := by
  cases a; cases b; simp only at h; rw [Array.toList_inj.mp h]
theorem apart_nil {rest : List (Addr × Obj)} : Apart [] rest := fun _ h9 => absurd h9 List.not_mem_nil
theorem apart_cons {p : Addr × Obj} {own rest : List (Addr × Obj)} (a1 : ∀ q ∈ rest, p.1 ≠ q.1) (a2 : Apart own rest) : Apart (p :: own) rest := by
  intro x hx q hq
  rcases List.mem_cons.mp hx with rfl | hx
  · exact a1 q hq
  · exact a2 x hx q hq
theorem apart_all {a : Addr} {q : Addr × Obj} {rest : List (Addr × Obj)} (b1 : a ≠ q.1) (b2 : ∀ p ∈ rest, a ≠ p.1) : ∀ p ∈ q :: rest, a ≠ p.1 := by
  intro p hp
  rcases List.mem_cons.mp hp with rfl | hp
  · exact b1
  · exact b2 p hp
theorem sp_ofD {f : Addr} {d u : Nat} {own : List (Addr × Obj)} {vs : List Value} {R : Value → List (Addr × Obj) → Prop} {name qual : Str} {params : Arguments} {body : List Stmt} {scope : Scope} {dV kV doc pm cdv ct oc : Value} {an od : Option Addr} {osl : Array (Option Value)} (binds : List (Str × Value))
    (ho : ∀ P, (hd.heap_1 P).lookup f = some ⟨oc, od, .func (fnOf name qual params body scope dV kV doc pm an cdv ct), osl⟩) (hcd : ∀ P, codeIn (hd.heap_1 P) cdv qual = true)
    (hbind : ∀ (P : _) (s : Shared), (hd.heap_1 P).In s.heap → BindsTo s (fnOf name qual params body scope dV kV doc pm an cdv ct) ⟨vs, []⟩ binds) (hloc : (binds.all fun x => decide (scope.names.lookup x.1 = some .local)) = true)
    (hco : scope.isCoroutine = false) (hgen : scope.isGenerator = false) (hk : scope.kind = .function) (hcell : ∀ x ∈ scope.names, x.2 ≠ .cell)
    (h : Bd f d u own qual body scope cdv binds R) : Sp f d u own vs R := by
  intro w mean mg mb dp un gd cn cs a ccd cl outer A₀ base h₀ L m s rest Q E B F X N hap T hke hd hu hret
  exact code_defF binds B F X N hap T rfl rfl hke hret (ho _) (hcd _) (by show dp < _; omega) (hbind _ _ (X.keeps F.keep)) (locs hloc) (fun g L' s₁ F' N' B' X' T' _ hlt => h w mean mg mb dp un gd cn cs L a ccd cl outer base g L' s₁ F' N' B' X' T' hlt hke hd hu) hco hgen hk hcell
theorem sub_pair (S : Str) (p : Nat) : sub S p (p + 1) ++ sub S (p + 1) (p + 1 + 1) = sub S p (p + 2) := by
  refine str_ext ?_
  show ((sub S p (p + 1)).cps ++ (sub S (p + 1) (p + 1 + 1)).cps).toList = _
  rw [Array.toList_append, sub_one, sub_one, sub_two]
  have e : suf S (p + 1) = (suf S p).drop 1 := by
    show S.cps.toList.drop (p + 1) = (S.cps.toList.drop p).drop 1
    rw [List.drop_drop]
  rw [e]
  cases suf S p with
  | nil => rfl
  | cons a r => cases r with
    | nil => rfl
    | cons b r => rfl
theorem add_pair {prog : Program} {w : World} {A : Around} {E : Value → Shared → Prop} {s : Shared} {S : Str} {p : Nat} {t u : Tok} {Q : Value → Shared → Prop} (h : ∀ t' k, Q (.str (sub S p (p + 2)) t') { s with toks := k }) :
    wpAny (model prog w) A (binaryOp .Add (.str (sub S p (p + 1)) t) (.str (sub S (p + 1) (p + 1 + 1)) u)) Q E s := by
  have l1 : (sub S p (p + 1)).length ≤ 1 := by
    show (sub S p (p + 1)).cps.size ≤ 1
    rw [← Array.length_toList, sub_one, List.length_take]; omega
  have l2 : (sub S (p + 1) (p + 1 + 1)).length ≤ 1 := by
    show (sub S (p + 1) (p + 1 + 1)).cps.size ≤ 1
    rw [← Array.length_toList, sub_one, List.length_take]; omega
  refine KOpn.add (by omega) fun t' k _ => ?_
  rw [sub_pair]
  exact h t' k
theorem sign_sub {S : Str} {p : Nat} {b : Bool} (hp : p < S.length) (h : ([Str.ofString ":=", Str.ofString "<=", Str.ofString ">=", Str.ofString ".."].any fun z => z == sub S p (p + 2)) = false)
    (h' : (Builtin.Str.occurrences (Str.ofString "+-*/~&.,;|([{^=#<>:)]}") (sub S p (p + 1)) 0 (Str.ofString "+-*/~&.,;|([{^=#<>:)]}").length 1).isEmpty = b) : signLen (suf S p) = if b = true then 0 else 1 := by
  refine sign_1 (by rw [Int.toNat_natCast, toNat_2]; exact h) hp ?_
  rw [item_sub hp]; exact h'
end
section
open PySem PySem.W PyProof.Rows PySem.Spec PySem.Calls
theorem code_defG {prog : Program} {w : World} {A₀ A : Around} {s : Shared} {base h₀ : Heap} {outer : List Env} {L : Addr} {m : Str → Option Value} {env : Env} {K : Frag} {mg mb : Str → Option Value} {p : Program} {loose : List Str} {mean : ExcName → Option Value}
    {name qual : Str} {params : Arguments} {body : List Stmt} {scope : Scope} {dV kV doc pm cdv ct oc : Value} {an od : Option Addr} {osl : Array (Option Value)} {f : Addr} {args : List Value} {own rest : List (Addr × Obj)} {R : Value → List (Addr × Obj) → Prop} {Rr : Result → Shared → Prop}
    (binds : List (Str × Value))
    (B : Below A₀ base outer h₀) (F : Fr h₀ L s.heap m) (X₀ : K.In h₀) (N : News h₀ L s.heap (own ++ rest)) (hap : Apart own rest) (T : Top p loose mean mg mb h₀) (hA : A.frames = some (env :: outer)) (hf : env.frame = some L) (hke : env.scope.kind = .function)
    (ret : ∀ v own' h' tk', Fr h₀ L h' m → News h₀ L h' (own' ++ rest) → Apart own' rest → R v own' → Rr (.ok (.ret v)) { s with heap := h', toks := tk' })
    (ho : K.lookup f = some ⟨oc, od, .func (fnOf name qual params body scope dV kV doc pm an cdv ct), osl⟩) (hcd : codeIn K cdv qual = true) (hroom : A.depth < recursionLimit)
    (hbind : BindsTo s (fnOf name qual params body scope dV kV doc pm an cdv ct) ⟨args, []⟩ binds) (hloc : ∀ y ∈ binds, scope.names.lookup y.1 = some .local)
    (h : ∀ g L' s₁, (∀ b o, h₀.get? b = some o → g.get? b = some o) → Fr g L' s₁.heap (fun y => binds.reverse.lookup y) → News g L' s₁.heap own → Below A base (env :: outer) g → K.In g → Top p loose mean mg mb g → (∀ q ∈ rest, g.get? q.1 = some q.2) → (∀ q ∈ own, q.1 < L') →
      wpAny (model prog w) (A.deeper (envOf qual scope L' f cdv)) (execs body (envOf qual scope L' f cdv))
        (fun fl s' => Ret g s₁ R (match fl with | .ret v => v | _ => .none) s') (fun _ _ => False) s₁)
    (hco : scope.isCoroutine = false) (hgen : scope.isGenerator = false) (hk : scope.kind = .function)
    (hcell : ∀ x ∈ scope.names, x.2 ≠ .cell) : codeAny (model prog w) A (.call (.ref f) ⟨args, []⟩) Rr s := by
  have No : News h₀ L s.heap own := fun p hp => N p (List.mem_append_left _ hp)
  obtain ⟨FG, BG, st, lv⟩ := groundX (R := Rr) B F No hA hf hke
  have Xg : K.In (hideAll s.heap (own.map (·.1))) := X₀.keeps fun b o e => st b o e
  have Tg : Top p loose mean mg mb (hideAll s.heap (own.map (·.1))) := T.keeps fun b o e => st b o e
  have hrest : ∀ q ∈ rest, (hideAll s.heap (own.map (·.1))).get? q.1 = some q.2 := fun q hq => by
    refine hideAll_get _ (N q (List.mem_append_right _ hq)).1 fun hm => ?_
    obtain ⟨x, hx, e⟩ := List.mem_map.mp hm
    exact hap x hx q hq e
  refine (codeAny_call_def (fd := fnX name qual params body scope [] dV kV doc pm an cdv ct) (body := body) (binds := binds) hroom ((X₀.keeps F.keep) _ _ ho) rfl (T.nolimit.keeps F.keep) (codeRec_of (X₀.keeps F.keep) hcd) rfl hbind hcell hloc (fun h₁ hns hk₁ => ?_) hco hgen hk)
  refine wpAny_mono (h (hideAll s.heap (own.map (·.1))) s.heap.objs.size { s with heap := h₁, toks := s.toks + binds.length } (fun b o e => st b o e) ⟨hns, fun b o e => hk₁ b o (of_hideAll _ e), Nat.le_of_eq (hideAll_size _ _)⟩
    (fun p hp => ⟨hk₁ _ _ (No p hp).1, Nat.ne_of_lt (Heap.lt_size (No p hp).1), hideAll_none _ (List.mem_map_of_mem hp)⟩) BG Xg Tg hrest (fun q hq => Heap.lt_size (No q hq).1)) (fun fl s' hl => ?_) fun _ _ y => y.elim
  obtain ⟨L', m', own', h', tk', rfl, F', N', r⟩ := hl
  refine lv _ _ ⟨L', m', own', F', N', fun F1 N1 => ?_⟩
  have hgo : ∀ p ∈ own', ∀ q ∈ rest, p.1 ≠ q.1 := fun p hp q hq e => by
    have h1 := (N' p hp).2.2
    rw [e, hrest q hq] at h1
    cases h1
  refine ret _ own' h' tk' F1 (fun p hp => ?_) hgo r
  rcases List.mem_append.mp hp with hp | hp
  · exact N1 p hp
  · exact ⟨F'.keep _ _ (hrest p hp), (N p (List.mem_append_right _ hp)).2⟩

/-- a contract that reads what lies below -/
noncomputable def SpG (H : Heap → Prop) (f : Addr) (d u : Nat) (vs : List Value) (R : Value → List (Addr × Obj) → Prop) : Prop :=
  ∀ (w : World) (mean : ExcName → Option Value) (mg mb : Str → Option Value) (dp un : Nat) (gd : Option (List Code)) (cn : Str) (cs : Scope) (a : Addr) (ccd : Value) (cl : List (Str × Addr)) (outer : List Env) (A₀ : Around) (base h₀ : Heap) (L : Addr) (m : Str → Option Value) (s : Shared) (rest : List (Addr × Obj)) (Q E : Value → Shared → Prop),
    H h₀ → Below A₀ base outer h₀ → Fr h₀ L s.heap m → (hd.heap_1 w.params).In h₀ → News h₀ L s.heap rest → Top q0 (looseW q0 []) mean mg mb h₀ →
    cs.kind = .function → dp + d < recursionLimit → un + u < cLine →
    (∀ v own' h' tk', Fr h₀ L h' m → News h₀ L h' (own' ++ rest) → Apart own' rest → R v own' → Q v { s with heap := h', toks := tk' }) →
      wpAny (model Challenge.rw_pb0353_01.row.prog w) (ktrTop dp un gd cn cs L a ccd cl outer) (call (.ref f) vs) Q E s
noncomputable def BdG (H : Heap → Prop) (f : Addr) (d u : Nat) (qual : Str) (body : List Stmt) (scope : Scope) (cdv : Value) (binds : List (Str × Value)) (R : Value → List (Addr × Obj) → Prop) : Prop :=
  ∀ (w : World) (mean : ExcName → Option Value) (mg mb : Str → Option Value) (dp un : Nat) (gd : Option (List Code)) (cn : Str) (cs : Scope) (Lc a : Addr) (ccd : Value) (cl : List (Str × Addr)) (outer : List Env) (base g : Heap) (L : Addr) (s : Shared),
    H g → Fr g L s.heap (fun y => binds.reverse.lookup y) → News g L s.heap [] → Below (ktrTop dp un gd cn cs Lc a ccd cl outer) base (envX cn cs Lc a ccd cl :: outer) g → (hd.heap_1 w.params).In g → Top q0 (looseW q0 []) mean mg mb g → cs.kind = .function → dp + d < recursionLimit → un + u < cLine →
      wpAny (model Challenge.rw_pb0353_01.row.prog w) ((ktrTop dp un gd cn cs Lc a ccd cl outer).deeper (envOf qual scope L f cdv)) (execs body (envOf qual scope L f cdv))
        (fun fl s' => Ret g s R (match fl with | .ret v => v | _ => .none) s') (fun _ _ => False) s
theorem spg_of {H : Heap → Prop} {f : Addr} {d u : Nat} {vs : List Value} {R : Value → List (Addr × Obj) → Prop} {name qual : Str} {params : Arguments} {body : List Stmt} {scope : Scope} {dV kV doc pm cdv ct oc : Value} {an od : Option Addr} {osl : Array (Option Value)} (binds : List (Str × Value))
    (hH : ∀ h h' : Heap, (∀ b o, h.get? b = some o → h'.get? b = some o) → H h → H h')
    (ho : ∀ P, (hd.heap_1 P).lookup f = some ⟨oc, od, .func (fnOf name qual params body scope dV kV doc pm an cdv ct), osl⟩) (hcd : ∀ P, codeIn (hd.heap_1 P) cdv qual = true)
    (hbind : bindArgs (fnOf name qual params body scope dV kV doc pm an cdv ct) ⟨vs, []⟩ = pure binds) (hloc : (binds.all fun x => decide (scope.names.lookup x.1 = some .local)) = true)
    (hco : scope.isCoroutine = false) (hgen : scope.isGenerator = false) (hk : scope.kind = .function) (hcell : ∀ x ∈ scope.names, x.2 ≠ .cell)
    (h : BdG H f d u qual body scope cdv binds R) : SpG H f d u vs R := by
  intro w mean mg mb dp un gd cn cs a ccd cl outer A₀ base h₀ L m s rest Q E hh B F X N T hke hd hu hret
  refine wpAny_call (code_defG (own := []) (Rr := fun r s' => match r with | .ok (.ret v) => Q v s' | .ok _ => False | .error e => E e s') binds B F X N (fun _ h9 => absurd h9 List.not_mem_nil) T rfl rfl hke hret (ho _) (hcd _) (by show dp < _; omega) (BindsTo.of_eq hbind) (locs hloc) (fun g L' s₁ st F' N' B' X' T' _ _ => h w mean mg mb dp un gd cn cs L a ccd cl outer base g L' s₁ (hH _ _ st hh) F' N' B' X' T' hke hd hu) hco hgen hk hcell)
noncomputable def BdGC (c : Ctx) (H : Heap → Prop) (f : Addr) (d u : Nat) (qual : Str) (body : List Stmt) (scope : Scope) (cdv : Value) (binds : List (Str × Value)) (R : Value → List (Addr × Obj) → Prop) : Prop :=
    H c.g → Fr c.g c.L c.s.heap (fun y => binds.reverse.lookup y) → News c.g c.L c.s.heap [] → Below (ktrTop c.dp c.un c.gd c.cn c.cs c.Lc c.a c.ccd c.cl c.outer) c.base (envX c.cn c.cs c.Lc c.a c.ccd c.cl :: c.outer) c.g → (hd.heap_1 c.w.params).In c.g → Top q0 (looseW q0 []) c.mean c.mg c.mb c.g → c.cs.kind = .function → c.dp + d < recursionLimit → c.un + u < cLine →
      wpAny (model Challenge.rw_pb0353_01.row.prog c.w) ((ktrTop c.dp c.un c.gd c.cn c.cs c.Lc c.a c.ccd c.cl c.outer).deeper (envOf qual scope c.L f cdv)) (execs body (envOf qual scope c.L f cdv))
        (fun fl s' => Ret c.g c.s R (match fl with | .ret v => v | _ => .none) s') (fun _ _ => False) c.s
noncomputable def BdGF (H : Heap → Prop) (f : Addr) (d u : Nat) (vs : List Value) (R : Value → List (Addr × Obj) → Prop) (c : Ctx) : Prop :=
  ∀ qual body scope cdv binds, IsDef f vs qual body scope cdv binds → BdGC c H f d u qual body scope cdv binds R
noncomputable def gctx (H : Heap → Prop) (f : Addr) (d u : Nat) (vs : List Value) (R : Value → List (Addr × Obj) → Prop) : Ctx := ec ctx_ne (BdGF H f d u vs R)
theorem spg_at (cx : Ctx) {H : Heap → Prop} {f : Addr} {d u : Nat} {vs : List Value} {R : Value → List (Addr × Obj) → Prop} (hcx : cx = gctx H f d u vs R) {name qual : Str} {params : Arguments} {body : List Stmt} {scope : Scope} {dV kV doc pm cdv ct oc : Value} {an od : Option Addr} {osl : Array (Option Value)} (binds : List (Str × Value))
    (hH : ∀ h h' : Heap, (∀ b o, h.get? b = some o → h'.get? b = some o) → H h → H h')
    (ho : ∀ P, (hd.heap_1 P).lookup f = some ⟨oc, od, .func (fnOf name qual params body scope dV kV doc pm an cdv ct), osl⟩) (hcd : ∀ P, codeIn (hd.heap_1 P) cdv qual = true)
    (hbind : bindArgs (fnOf name qual params body scope dV kV doc pm an cdv ct) ⟨vs, []⟩ = pure binds) (hloc : (binds.all fun x => decide (scope.names.lookup x.1 = some .local)) = true)
    (hco : scope.isCoroutine = false) (hgen : scope.isGenerator = false) (hk : scope.kind = .function) (hcell : ∀ x ∈ scope.names, x.2 ≠ .cell)
    (h : BdGC cx H f d u qual body scope cdv binds R) : SpG H f d u vs R := by
  have isd : IsDef f vs qual body scope cdv binds := ⟨name, params, dV, kV, doc, pm, ct, oc, an, od, osl, ho, hbind⟩
  have all : ∀ c, BdGF H f d u vs R c := eps ctx_ne (fun q b sc cv bs isd' => by
    obtain ⟨rfl, rfl, rfl, rfl, rfl⟩ := isd.same cx.w.params isd'
    subst hcx
    exact h)
  refine spg_of binds hH ho hcd hbind hloc hco hgen hk hcell ?_
  intro w mean mg mb dp un gd cn cs Lc a ccd cl outer base g L s
  exact all ⟨w, mean, mg, mb, dp, un, gd, cn, cs, Lc, a, ccd, cl, outer, base, g, L, s⟩ qual body scope cdv binds isd
end
open PySem PySem.W PyProof.Rows PySem.Spec PySem.Calls
set_option hygiene false
local macro_rules | `(tactic| walk_at "sw") => `(tactic| ((try k_sweep); (try dsimp only); (try k_fold)))
local macro_rules | `(tactic| walk_at "sl") => `(tactic| (intro h' t' k' F' N'; walk_at "sw"))
local macro_rules | `(tactic| walk_at "steps") => `(tactic| repeat' (first | (k_unfold; (try dsimp only)) | walk1 | (dsimp only; walk1) | (dsimp only; k_unfold; (try dsimp only)) | fail "no step"))
local macro_rules | `(tactic| walk_at "room") => `(tactic| first | exact rm2 (by with_reducible assumption) rfl | exact rm1 (by with_reducible assumption) rfl | omega | ((try dsimp only [ktrTop, Around.deeper, Around.in1]); (first | exact rm2 (by with_reducible assumption) rfl | exact rm1 (by with_reducible assumption) rfl | exact rm3 (by with_reducible assumption) rfl | decide | omega)) | (simp [callerA, Around.deeper]; decide))
local macro_rules | `(tactic| walk_at "exec While BoolOp cons nil") => `(tactic| refine Hold.out ?_)
local macro_rules | `(tactic| walk_at "exec While Compare cons nil") => `(tactic| refine Hold.out ?_)
local macro_rules | `(tactic| walk_at "exec While Call cons nil") => `(tactic| refine Hold.out ?_)
local macro_rules | `(tactic| walk_at "exec While Constant cons nil") => `(tactic| refine Hold.out ?_)
local macro_rules | `(tactic| walk_at "isTrue Call") => `(tactic| refine isTrue_plain ?_)
local macro_rules | `(tactic| walk_at "fit") => `(tactic| first | with_reducible assumption | exact Nat.le_trans (by with_reducible assumption) (by decide) | (simp only [sizeLine_eq]; omega))
local macro_rules | `(tactic| walk_at "nn") => `(tactic| first | omega | exact Int.natCast_nonneg _)
local macro_rules | `(tactic| walk_at "subscriptTail Name Slice str ref") => `(tactic| ((with_reducible show wpAny _ _ (subscriptTail _ (Expr.Slice (some _) (some _) none _) _ _) _ _ _); refine' slice_ss (s := ⟨_, _, _, _, _⟩) ?k1 ?k2 ?k3 ?k4 ?k5 ?_; (case k1 => k_asm); (case k2 => k_asm); (case k3 => walk_at "nn"); (case k4 => walk_at "nn"); (case k5 => walk_at "fit"); walk_at "sl"))
local macro_rules | `(tactic| walk_at "subscriptTail Name Slice str ref") => `(tactic| ((with_reducible show wpAny _ _ (subscriptTail _ (Expr.Slice (some _) none none _) _ _) _ _ _); refine' slice_sn (s := ⟨_, _, _, _, _⟩) ?k1 ?k2 ?k3 ?k5 ?_; (case k1 => k_asm); (case k2 => k_asm); (case k3 => walk_at "nn"); (case k5 => walk_at "fit"); walk_at "sl"))
local macro_rules | `(tactic| walk_at "use") => `(tactic| ((case k1 => k_asm); (case k2 => k_asm); (case k3 => k_asm); (case k4 => k_asm); (case k5 => k_asm); (case kK => first | exact rfl | assumption); (case kd => walk_at "room"); (case ku => walk_at "room")))
local macro_rules | `(tactic| walk_at "gp") => `(tactic| (intro h9 tk9 F9 N9; walk_at "sw"))
local macro_rules | `(tactic| walk_at "eval Call Name") => `(tactic| ((fail_if_success (with_reducible show wpAny _ _ (eval (Expr.Call (Expr.Name "range" _) _ _ _) _) _ _ _)); refine Call_ ?_))
local macro_rules | `(tactic| walk_at "eval Call Attribute") => `(tactic| refine MethodCall_ ?_)
local macro_rules | `(tactic| walk_at "KswEnd") => `(tactic| refine Hold.out ?_)
local macro_rules | `(tactic| walk_at "gt") => `(tactic| (intro t9; walk_at "gp"))
local macro_rules | `(tactic| walk_at "take") => `(tactic| first | exact Take1.head | (refine' Take1.tail ?tt; (case tt => walk_at "take")))
local macro_rules | `(tactic| walk_at "pick") => `(tactic| first | exact Pick.all | exact Pick.nil | (refine' Pick.cons ?pt ?pr; (case pt => walk_at "take"); (case pr => walk_at "pick")))
local macro_rules | `(tactic| walk_at "apart1") => `(tactic| first | exact fun _ h9 => absurd h9 List.not_mem_nil | (refine' apart_all ?b1 ?b2; (case b1 => k_ne); (case b2 => walk_at "apart1")))
local macro_rules | `(tactic| walk_at "apart2") => `(tactic| first | exact apart_nil | (refine' apart_cons ?a1 ?a2; (case a1 => walk_at "apart1"); (case a2 => walk_at "apart2")))
local macro_rules | `(tactic| walk_at "apart") => `(tactic| first | exact fun _ _ _ h9 => absurd h9 List.not_mem_nil | exact apart_nil | assumption | walk_at "apart2")
local macro_rules | `(tactic| walk_at "useP") => `(tactic| ((case k1 => k_asm); (case k2 => k_asm); (case k3 => k_asm); (case k4 => k_asm); (case kp => walk_at "pick"); (case ka => walk_at "apart"); (case k5 => k_asm); (case kK => first | exact rfl | assumption); (case kd => walk_at "room"); (case ku => walk_at "room")))
local macro_rules | `(tactic| walk_at "call ref") => `(tactic| (refine' holdCall ?hc ?_; (case hc => exact rfl)))
local macro_rules | `(tactic| walk_at "call ref") => `(tactic| ((with_reducible show wpAny _ _ (call _ (_ ++ _)) _ _ _); (first | (show wpAny _ _ (call (Value.ref _) [_]) _ _ _) | (show wpAny _ _ (call (Value.ref _) [_, _]) _ _ _) | (show wpAny _ _ (call (Value.ref _) [_, _, _]) _ _ _) | (show wpAny _ _ (call (Value.ref _) [_, _, _, _]) _ _ _))))
local macro_rules | `(tactic| k_all) => `(tactic| assumption)
local macro_rules | `(tactic| walk_at "callWith ref") => `(tactic| (k_here; (with_reducible show wpAny _ _ (callWith _ (Value.ref _) _ (backTo _ (starEach [] _)) []) _ _ _); k_dflt (refine' callWith_K0 (Frag.In.keeps (by with_reducible assumption) (Fr.keep (by with_reducible assumption))) ?k2 ?_; (case k2 => k_is); k_whole)))
local macro_rules | `(tactic| walk_at "callWith") => `(tactic| ((with_reducible show wpAny _ _ (callWith _ (Value.builtin _) (_ :: _) (backTo _ (starEach (_ :: _) _)) []) _ _ _); refine callWith_method1 ?_))
local macro_rules | `(tactic| k_ne) => `(tactic| ((try dsimp only); (first | assumption | exact Ne.symm (by assumption) | exact Nat.ne_of_lt (by walk_at "cj") | exact Nat.ne_of_gt (by walk_at "cj") | (refine neN ?_; (try dsimp only); omega))))
local macro_rules | `(tactic| walk_at "cj") => `(tactic| with_reducible first | assumption | exact cj1 (by assumption) | exact cj2 (by assumption) | exact cj3 (by assumption) | exact cj4 (by assumption) | exact cj5 (by assumption) | exact cj6 (by assumption) | exact cj7 (by assumption) | exact cjl (by assumption))
local macro_rules | `(tactic| kt_fact) => `(tactic| exact len63 (by with_reducible assumption) rfl)
local macro_rules | `(tactic| size_fits) => `(tactic| first | exact sz4 (by with_reducible assumption) rfl | exact sz3 (by with_reducible assumption) rfl | exact sz2 (by with_reducible assumption) rfl | exact sz1 (by with_reducible assumption) rfl)
theorem rst_M1 : Hold True := by (w_top off); first | walk1 | exact True.intro
theorem warm_M1 : ∀ P, (Challenge.rw_pb0353_01, hd.heap_1 P) = (Challenge.rw_pb0353_01, hd.heap_1 P) := by k_fill; intro P; rfl
theorem bfin {p q : Bool} (h : p = q) : Value.bool p = Value.bool q := by rw [h]
theorem is_digit_sp (x : Str) (t : Tok) : Sp 63 1 8 [] [.str x t] (fun v n => n = [] ∧ v = .bool (isDig x)) := by
  refine' sp_of [(Str.ofString "char", .str x t)] ?k6 ?k7 ?k9 ?kB ?c2 ?c3 ?c4 ?c5 ?_
  (((case k6 => intro P; k_is); (case k7 => intro P; k_is); (case kB => exact rfl); (case c2 => exact rfl); (case c3 => exact rfl); (case c4 => exact rfl); (case c5 => decide)); (case k9 => exact rfl); unfold Bd; intros; (try dsimp only); (try k_fold))
  walk_at "steps"
  all_goals (refine Ret.intro (by assumption) (by assumption) ⟨rfl, bfin ?_⟩; unfold isDig; (try simp only [decide_eq_true_eq, *, decide_true, decide_false, Bool.not_true, Bool.not_false, Bool.true_and, Bool.false_and]))
theorem is_letter_sp (x : Str) (t : Tok) : Sp 56 1 8 [] [.str x t] (fun v n => n = [] ∧ v = .bool (isLet x)) := by
  refine' sp_of [(Str.ofString "char", .str x t)] ?k6 ?k7 ?k9 ?kB ?c2 ?c3 ?c4 ?c5 ?_
  (((case k6 => intro P; k_is); (case k7 => intro P; k_is); (case kB => exact rfl); (case c2 => exact rfl); (case c3 => exact rfl); (case c4 => exact rfl); (case c5 => decide)); (case k9 => exact rfl); unfold Bd; intros; (try dsimp only); (try k_fold))
  walk_at "steps"
  all_goals (refine Ret.intro (by assumption) (by assumption) ⟨rfl, bfin ?_⟩; unfold isLet; (try simp only [decide_eq_true_eq, *, decide_true, decide_false, Bool.not_true, Bool.not_false, Bool.true_and, Bool.false_and, Bool.true_or, Bool.false_or]))
local macro_rules | `(tactic| walk_at "call ref") => `(tactic| (refine' callP ?C ?k1 ?k2 ?k3 ?k4 ?k5 ?kK ?kd ?ku ?_; (case C => with_reducible first | exact is_digit_sp _ _ | exact is_letter_sp _ _); walk_at "use"; walk_at "gp"))
namespace word_end_sp_at
noncomputable def St (x : Str) (t : Tok) (n : Nat) (tn : Tok) : Prop := ∀ (hx : x.length ≤ 1048576), Sp 239 2 16 [] [.str x t, .int n tn] (fun v o => o = [] ∧ ∃ t, v = .int ((n + run wordC (suf x n) : Nat) : Int) t)
noncomputable def Pz (z : (Str) × (Tok) × (Nat) × (Tok)) : Prop := St (z.1) (z.2.1) (z.2.2.1) (z.2.2.2)
theorem ne : Nonempty ((Str) × (Tok) × (Nat) × (Tok)) := ⟨(default, default, default, default)⟩
noncomputable def z : (Str) × (Tok) × (Nat) × (Tok) := ec ne Pz
@[irreducible] noncomputable def x : Str := z.1
@[irreducible] noncomputable def t : Tok := z.2.1
@[irreducible] noncomputable def n : Nat := z.2.2.1
@[irreducible] noncomputable def tn : Tok := z.2.2.2
@[irreducible] noncomputable def cx : Ctx := fctx 239 2 16 [] [.str x t, .int n tn] (fun v o => o = [] ∧ ∃ t, v = .int ((n + run wordC (suf x n) : Nat) : Int) t)
theorem main : St x t n tn := by
  intro hx
  refine' sp_at cx (by with_unfolding_all rfl) [(Str.ofString "source", .str x t), (Str.ofString "at", .int n tn)] ?k6 ?k7 ?k9 ?kB ?c2 ?c3 ?c4 ?c5 ?_
  (((case k6 => intro P; k_is); (case k7 => intro P; k_is); (case kB => exact rfl); (case c2 => exact rfl); (case c3 => exact rfl); (case c4 => exact rfl); (case c5 => decide)); (case k9 => exact rfl); unfold BdC; intros; (try dsimp only); (try k_fold))
  walk_at "steps"
  refine ksw_while (σ := Nat × Tok) (fun _ => []) (fun c => [(Str.ofString "at", .int c.1 c.2)]) (fun _ => True) [] (fun c => n + run wordC (suf x n) = c.1 + run wordC (suf x c.1)) (fun c => x.length - c.1) (n, tn) (by assumption) (by assumption) trivial (by kst_all) rfl ?_
  intro c u h tk _ hP F' N'
  (try dsimp only); (try k_fold)
  walk_at "steps"
  · have e := word_let (x := x) (c := c.1) (by assumption)
    (show KswEnd _ _ _ _ _ _ _ _ _ _ _ _; refine' ksw_end ⟨_, _⟩ (by assumption) (by assumption) ?kn trivial ?kk ?kr ?_ ?_; (case kn => first | exact fun _ h9 => h9 | exact fun _ h9 => absurd h9 List.not_mem_nil); (case kk => kst_all); (case kr => (intro z9 h8 h9; (simp only [List.forall_mem_cons, List.not_mem_nil, false_implies, implies_true, and_true, ne_eq] at h8); (simp [kstB, h8])))) <;> ((try dsimp only at hP ⊢); (first | exact om1 (by with_reducible assumption) (by walk_at "cj") | exact om2 (by walk_at "cj") | exact om3 (by with_reducible assumption) (by walk_at "cj") | exact om4 (by with_reducible assumption) (by walk_at "cj") | exact om5 (by walk_at "cj") | exact om6 (by with_reducible assumption) | exact om7 (by with_reducible assumption) | exact om8 | omega))
  · have e := word_dig (x := x) (c := c.1) (by assumption)
    (show KswEnd _ _ _ _ _ _ _ _ _ _ _ _; refine' ksw_end ⟨_, _⟩ (by assumption) (by assumption) ?kn trivial ?kk ?kr ?_ ?_; (case kn => first | exact fun _ h9 => h9 | exact fun _ h9 => absurd h9 List.not_mem_nil); (case kk => kst_all); (case kr => (intro z9 h8 h9; (simp only [List.forall_mem_cons, List.not_mem_nil, false_implies, implies_true, and_true, ne_eq] at h8); (simp [kstB, h8])))) <;> ((try dsimp only at hP ⊢); (first | exact om1 (by with_reducible assumption) (by walk_at "cj") | exact om2 (by walk_at "cj") | exact om3 (by with_reducible assumption) (by walk_at "cj") | exact om4 (by with_reducible assumption) (by walk_at "cj") | exact om5 (by walk_at "cj") | exact om6 (by with_reducible assumption) | exact om7 (by with_reducible assumption) | exact om8 | omega))
  · have e := word_stop (x := x) (c := c.1) (by assumption) (by assumption)
    refine Ret.intro (by assumption) (by assumption) ⟨rfl, _, int_val ?_⟩; (try dsimp only at hP ⊢); (first | exact om1 (by with_reducible assumption) (by walk_at "cj") | exact om2 (by walk_at "cj") | exact om3 (by with_reducible assumption) (by walk_at "cj") | exact om4 (by with_reducible assumption) (by walk_at "cj") | exact om5 (by walk_at "cj") | exact om6 (by with_reducible assumption) | exact om7 (by with_reducible assumption) | exact om8 | omega)
end word_end_sp_at
theorem word_end_sp (x : Str) (t : Tok) (n : Nat) (tn : Tok) (hx : x.length ≤ 1048576) : Sp 239 2 16 [] [.str x t, .int n tn] (fun v o => o = [] ∧ ∃ t, v = .int ((n + run wordC (suf x n) : Nat) : Int) t) := by
  have h9 : word_end_sp_at.Pz (ec word_end_sp_at.ne word_end_sp_at.Pz) := by with_unfolding_all exact word_end_sp_at.main
  exact eps word_end_sp_at.ne h9 (x, t, n, tn) hx
namespace gap_end_sp_at
noncomputable def St (x : Str) (t : Tok) (n : Nat) (tn : Tok) : Prop := ∀ (hx : x.length ≤ 1048576), Sp 218 2 16 [] [.str x t, .int n tn] (fun v o => o = [] ∧ ∃ t, v = .int ((n + run gapC (suf x n) : Nat) : Int) t)
noncomputable def Pz (z : (Str) × (Tok) × (Nat) × (Tok)) : Prop := St (z.1) (z.2.1) (z.2.2.1) (z.2.2.2)
theorem ne : Nonempty ((Str) × (Tok) × (Nat) × (Tok)) := ⟨(default, default, default, default)⟩
noncomputable def z : (Str) × (Tok) × (Nat) × (Tok) := ec ne Pz
@[irreducible] noncomputable def x : Str := z.1
@[irreducible] noncomputable def t : Tok := z.2.1
@[irreducible] noncomputable def n : Nat := z.2.2.1
@[irreducible] noncomputable def tn : Tok := z.2.2.2
@[irreducible] noncomputable def cx : Ctx := fctx 218 2 16 [] [.str x t, .int n tn] (fun v o => o = [] ∧ ∃ t, v = .int ((n + run gapC (suf x n) : Nat) : Int) t)
theorem main : St x t n tn := by
  intro hx
  refine' sp_at cx (by with_unfolding_all rfl) [(Str.ofString "source", .str x t), (Str.ofString "at", .int n tn)] ?k6 ?k7 ?k9 ?kB ?c2 ?c3 ?c4 ?c5 ?_
  (((case k6 => intro P; k_is); (case k7 => intro P; k_is); (case kB => exact rfl); (case c2 => exact rfl); (case c3 => exact rfl); (case c4 => exact rfl); (case c5 => decide)); (case k9 => exact rfl); unfold BdC; intros; (try dsimp only); (try k_fold))
  walk_at "steps"
  refine ksw_while (σ := Nat × Tok) (fun _ => []) (fun c => [(Str.ofString "at", .int c.1 c.2)]) (fun _ => True) [] (fun c => n + run gapC (suf x n) = c.1 + run gapC (suf x c.1)) (fun c => x.length - c.1) (n, tn) (by assumption) (by assumption) trivial (by kst_all) rfl ?_
  intro c u h tk _ hP F' N'
  (try dsimp only at hP); (try dsimp only); (try k_fold)
  walk_at "steps"
  · have e := gap_go (x := x) (c := c.1) (by assumption) (by assumption)
    (show KswEnd _ _ _ _ _ _ _ _ _ _ _ _; refine' ksw_end ⟨_, _⟩ (by assumption) (by assumption) ?kn trivial ?kk ?kr ?_ ?_; (case kn => first | exact fun _ h9 => h9 | exact fun _ h9 => absurd h9 List.not_mem_nil); (case kk => kst_all); (case kr => (intro z9 h8 h9; (simp only [List.forall_mem_cons, List.not_mem_nil, false_implies, implies_true, and_true, ne_eq] at h8); (simp [kstB, h8])))) <;> (try dsimp only) <;> (first | exact om1 (by with_reducible assumption) (by walk_at "cj") | exact om2 (by walk_at "cj") | exact om3 (by with_reducible assumption) (by walk_at "cj") | exact om4 (by with_reducible assumption) (by walk_at "cj") | exact om5 (by walk_at "cj") | exact om6 (by with_reducible assumption) | exact om7 (by with_reducible assumption) | exact om8 | omega)
  · have e := gap_stop (x := x) (c := c.1) (by assumption) (by assumption)
    refine Ret.intro (by assumption) (by assumption) ⟨rfl, _, int_val ?_⟩; (first | exact om1 (by with_reducible assumption) (by walk_at "cj") | exact om2 (by walk_at "cj") | exact om3 (by with_reducible assumption) (by walk_at "cj") | exact om4 (by with_reducible assumption) (by walk_at "cj") | exact om5 (by walk_at "cj") | exact om6 (by with_reducible assumption) | exact om7 (by with_reducible assumption) | exact om8 | omega)
  · have e := run_end (x := x) (c := c.1) (p := gapC) (by assumption)
    refine Ret.intro (by assumption) (by assumption) ⟨rfl, _, int_val ?_⟩; (first | exact om1 (by with_reducible assumption) (by walk_at "cj") | exact om2 (by walk_at "cj") | exact om3 (by with_reducible assumption) (by walk_at "cj") | exact om4 (by with_reducible assumption) (by walk_at "cj") | exact om5 (by walk_at "cj") | exact om6 (by with_reducible assumption) | exact om7 (by with_reducible assumption) | exact om8 | omega)
end gap_end_sp_at
theorem gap_end_sp (x : Str) (t : Tok) (n : Nat) (tn : Tok) (hx : x.length ≤ 1048576) : Sp 218 2 16 [] [.str x t, .int n tn] (fun v o => o = [] ∧ ∃ t, v = .int ((n + run gapC (suf x n) : Nat) : Int) t) := by
  have h9 : gap_end_sp_at.Pz (ec gap_end_sp_at.ne gap_end_sp_at.Pz) := by with_unfolding_all exact gap_end_sp_at.main
  exact eps gap_end_sp_at.ne h9 (x, t, n, tn) hx
namespace remark_end_sp_at
noncomputable def St (x : Str) (t : Tok) (n : Nat) (tn : Tok) : Prop := ∀ (hx : x.length ≤ 1048576), Sp 225 2 16 [] [.str x t, .int n tn] (fun v o => o = [] ∧ ∃ t, v = .int (remV n (rem 0 (suf x n))) t)
noncomputable def Pz (z : (Str) × (Tok) × (Nat) × (Tok)) : Prop := St (z.1) (z.2.1) (z.2.2.1) (z.2.2.2)
theorem ne : Nonempty ((Str) × (Tok) × (Nat) × (Tok)) := ⟨(default, default, default, default)⟩
noncomputable def z : (Str) × (Tok) × (Nat) × (Tok) := ec ne Pz
@[irreducible] noncomputable def x : Str := z.1
@[irreducible] noncomputable def t : Tok := z.2.1
@[irreducible] noncomputable def n : Nat := z.2.2.1
@[irreducible] noncomputable def tn : Tok := z.2.2.2
@[irreducible] noncomputable def cx : Ctx := fctx 225 2 16 [] [.str x t, .int n tn] (fun v o => o = [] ∧ ∃ t, v = .int (remV n (rem 0 (suf x n))) t)
theorem main : St x t n tn := by
  intro hx
  refine' sp_at cx (by with_unfolding_all rfl) [(Str.ofString "source", .str x t), (Str.ofString "at", .int n tn)] ?k6 ?k7 ?k9 ?kB ?c2 ?c3 ?c4 ?c5 ?_
  (((case k6 => intro P; k_is); (case k7 => intro P; k_is); (case kB => exact rfl); (case c2 => exact rfl); (case c3 => exact rfl); (case c4 => exact rfl); (case c5 => decide)); (case k9 => exact rfl); unfold BdC; intros; (try dsimp only); (try k_fold))
  walk_at "steps"
  refine ksw_while (σ := (Nat × Tok) × (Int × Tok)) (fun _ => []) (fun c => [(Str.ofString "at", .int c.1.1 c.1.2), (Str.ofString "depth", .int c.2.1 c.2.2)]) (fun _ => True) [Str.ofString "pair"] (fun c => remV n (rem 0 (suf x n)) = remV c.1.1 (rem c.2.1 (suf x c.1.1))) (fun c => x.length - c.1.1) ((n, tn), (0, _)) (by assumption) (by assumption) trivial (by kst_all) rfl ?_
  intro c u h tk _ hP F' N'
  (try dsimp only at hP); (try dsimp only); (try k_fold)
  walk_at "steps"
  · have e := rem_open (x := x) (c := c.1.1) (d := c.2.1) (by assumption)
    (show KswEnd _ _ _ _ _ _ _ _ _ _ _ _; refine' ksw_end ⟨⟨_, _⟩, ⟨_, _⟩⟩ (by assumption) (by assumption) ?kn trivial ?kk ?kr ?_ ?_; (case kn => first | exact fun _ h9 => h9 | exact fun _ h9 => absurd h9 List.not_mem_nil); (case kk => kst_all); (case kr => (intro z9 h8 h9; (simp only [List.forall_mem_cons, List.not_mem_nil, List.contains_cons, List.contains_nil, Bool.or_false, Bool.or_eq_false_iff, beq_eq_false_iff_ne, false_implies, implies_true, and_true, ne_eq] at h8 h9); (simp [kstB, h8, h9]))))
    · rw [hP, e.1, remV_map]
    · dsimp only; (first | exact om1 (by with_reducible assumption) (by walk_at "cj") | exact om2 (by walk_at "cj") | exact om3 (by with_reducible assumption) (by walk_at "cj") | exact om4 (by with_reducible assumption) (by walk_at "cj") | exact om5 (by walk_at "cj") | exact om6 (by with_reducible assumption) | exact om7 (by with_reducible assumption) | exact om8 | omega)
  · have e := rem_close (x := x) (c := c.1.1) (d := c.2.1) (by assumption)
    refine Ret.intro (by assumption) News.nil ⟨rfl, ival ?_⟩
    rw [hP, e.1, if_pos (by assumption)]; exact rfl
  · have e := rem_close (x := x) (c := c.1.1) (d := c.2.1) (by assumption)
    (show KswEnd _ _ _ _ _ _ _ _ _ _ _ _; refine' ksw_end ⟨⟨_, _⟩, ⟨_, _⟩⟩ (by assumption) (by assumption) ?kn trivial ?kk ?kr ?_ ?_; (case kn => first | exact fun _ h9 => h9 | exact fun _ h9 => absurd h9 List.not_mem_nil); (case kk => kst_all); (case kr => (intro z9 h8 h9; (simp only [List.forall_mem_cons, List.not_mem_nil, List.contains_cons, List.contains_nil, Bool.or_false, Bool.or_eq_false_iff, beq_eq_false_iff_ne, false_implies, implies_true, and_true, ne_eq] at h8 h9); (simp [kstB, h8, h9]))))
    · rw [hP, e.1, if_neg (by assumption), remV_map]
    · dsimp only; (first | exact om1 (by with_reducible assumption) (by walk_at "cj") | exact om2 (by walk_at "cj") | exact om3 (by with_reducible assumption) (by walk_at "cj") | exact om4 (by with_reducible assumption) (by walk_at "cj") | exact om5 (by walk_at "cj") | exact om6 (by with_reducible assumption) | exact om7 (by with_reducible assumption) | exact om8 | omega)
  · have e := rem_other (x := x) (c := c.1.1) (d := c.2.1) (by assumption) (by assumption)
    (show KswEnd _ _ _ _ _ _ _ _ _ _ _ _; refine' ksw_end ⟨⟨_, _⟩, ⟨_, _⟩⟩ (by assumption) (by assumption) ?kn trivial ?kk ?kr ?_ ?_; (case kn => first | exact fun _ h9 => h9 | exact fun _ h9 => absurd h9 List.not_mem_nil); (case kk => kst_all); (case kr => (intro z9 h8 h9; (simp only [List.forall_mem_cons, List.not_mem_nil, List.contains_cons, List.contains_nil, Bool.or_false, Bool.or_eq_false_iff, beq_eq_false_iff_ne, false_implies, implies_true, and_true, ne_eq] at h8 h9); (simp [kstB, h8, h9]))))
    · rw [hP, e, remV_map]
    · dsimp only; (first | exact om1 (by with_reducible assumption) (by walk_at "cj") | exact om2 (by walk_at "cj") | exact om3 (by with_reducible assumption) (by walk_at "cj") | exact om4 (by with_reducible assumption) (by walk_at "cj") | exact om5 (by walk_at "cj") | exact om6 (by with_reducible assumption) | exact om7 (by with_reducible assumption) | exact om8 | omega)
  · have e := rem_end (x := x) (c := c.1.1) (d := c.2.1) (by assumption)
    refine Ret.intro (by assumption) News.nil ⟨rfl, ival ?_⟩
    rw [hP, e]; exact rfl
end remark_end_sp_at
theorem remark_end_sp (x : Str) (t : Tok) (n : Nat) (tn : Tok) (hx : x.length ≤ 1048576) : Sp 225 2 16 [] [.str x t, .int n tn] (fun v o => o = [] ∧ ∃ t, v = .int (remV n (rem 0 (suf x n))) t) := by
  have h9 : remark_end_sp_at.Pz (ec remark_end_sp_at.ne remark_end_sp_at.Pz) := by with_unfolding_all exact remark_end_sp_at.main
  exact eps remark_end_sp_at.ne h9 (x, t, n, tn) hx
namespace string_end_sp_at
noncomputable def St (x : Str) (t : Tok) (n : Nat) (tn : Tok) : Prop := ∀ (hx : x.length ≤ 1048576), Sp 232 2 16 [] [.str x t, .int n tn] (fun v o => o = [] ∧ ∃ t, v = .int (remV (n + 1) (strGo (suf x (n + 1)))) t)
noncomputable def Pz (z : (Str) × (Tok) × (Nat) × (Tok)) : Prop := St (z.1) (z.2.1) (z.2.2.1) (z.2.2.2)
theorem ne : Nonempty ((Str) × (Tok) × (Nat) × (Tok)) := ⟨(default, default, default, default)⟩
noncomputable def z : (Str) × (Tok) × (Nat) × (Tok) := ec ne Pz
@[irreducible] noncomputable def x : Str := z.1
@[irreducible] noncomputable def t : Tok := z.2.1
@[irreducible] noncomputable def n : Nat := z.2.2.1
@[irreducible] noncomputable def tn : Tok := z.2.2.2
@[irreducible] noncomputable def cx : Ctx := fctx 232 2 16 [] [.str x t, .int n tn] (fun v o => o = [] ∧ ∃ t, v = .int (remV (n + 1) (strGo (suf x (n + 1)))) t)
theorem main : St x t n tn := by
  intro hx
  refine' sp_at cx (by with_unfolding_all rfl) [(Str.ofString "source", .str x t), (Str.ofString "at", .int n tn)] ?k6 ?k7 ?k9 ?kB ?c2 ?c3 ?c4 ?c5 ?_
  (((case k6 => intro P; k_is); (case k7 => intro P; k_is); (case kB => exact rfl); (case c2 => exact rfl); (case c3 => exact rfl); (case c4 => exact rfl); (case c5 => decide)); (case k9 => exact rfl); unfold BdC; intros; (try dsimp only); (try k_fold))
  walk_at "steps"
  refine ksw_while (σ := (Nat × Tok)) (fun _ => []) (fun c => [(Str.ofString "end", .int c.1 c.2)]) (fun _ => True) [] (fun c => remV (n + 1) (strGo (suf x (n + 1))) = remV c.1 (strGo (suf x c.1))) (fun c => x.length - c.1) (n + 1, _) (by assumption) (by assumption) trivial (by kst_all) rfl ?_
  intro c u h tk _ hP F' N'
  (try dsimp only at hP); (try dsimp only); (try k_fold)
  walk_at "steps"
  · have e := str_quote (x := x) (c := c.1) (by assumption) (by assumption) (by assumption)
    refine Ret.intro (by assumption) News.nil ⟨rfl, ival ?_⟩
    rw [hP, e]; exact rfl
  · have e := str_go (x := x) (c := c.1) (by assumption) (by assumption) (by assumption)
    (show KswEnd _ _ _ _ _ _ _ _ _ _ _ _; refine' ksw_end ⟨_, _⟩ (by assumption) (by assumption) ?kn trivial ?kk ?kr ?_ ?_; (case kn => first | exact fun _ h9 => h9 | exact fun _ h9 => absurd h9 List.not_mem_nil); (case kk => kst_all); (case kr => (intro z9 h8 h9; (simp only [List.forall_mem_cons, List.not_mem_nil, false_implies, implies_true, and_true, ne_eq] at h8); (simp [kstB, h8]))))
    · rw [hP, e.1, remV_map]
    · dsimp only; (first | exact om1 (by with_reducible assumption) (by walk_at "cj") | exact om2 (by walk_at "cj") | exact om3 (by with_reducible assumption) (by walk_at "cj") | exact om4 (by with_reducible assumption) (by walk_at "cj") | exact om5 (by walk_at "cj") | exact om6 (by with_reducible assumption) | exact om7 (by with_reducible assumption) | exact om8 | omega)
  · have e := str_nl (x := x) (c := c.1) (by assumption) (by assumption)
    refine Ret.intro (by assumption) News.nil ⟨rfl, ival ?_⟩
    rw [hP, e]; exact rfl
  · have e := str_end (x := x) (c := c.1) (by assumption)
    refine Ret.intro (by assumption) News.nil ⟨rfl, ival ?_⟩
    rw [hP, e]; exact rfl
end string_end_sp_at
theorem string_end_sp (x : Str) (t : Tok) (n : Nat) (tn : Tok) (hx : x.length ≤ 1048576) : Sp 232 2 16 [] [.str x t, .int n tn] (fun v o => o = [] ∧ ∃ t, v = .int (remV (n + 1) (strGo (suf x (n + 1)))) t) := by
  have h9 : string_end_sp_at.Pz (ec string_end_sp_at.ne string_end_sp_at.Pz) := by with_unfolding_all exact string_end_sp_at.main
  exact eps string_end_sp_at.ne h9 (x, t, n, tn) hx
namespace digits_end_sp_at
noncomputable def St (x : Str) (t : Tok) (n : Nat) (tn : Tok) : Prop := ∀ (hx : x.length ≤ 1048576), Sp 246 2 16 [] [.str x t, .int n tn] (fun v o => o = [] ∧ ∃ t, v = .int ((n + run digC (suf x n) : Nat) : Int) t)
noncomputable def Pz (z : (Str) × (Tok) × (Nat) × (Tok)) : Prop := St (z.1) (z.2.1) (z.2.2.1) (z.2.2.2)
theorem ne : Nonempty ((Str) × (Tok) × (Nat) × (Tok)) := ⟨(default, default, default, default)⟩
noncomputable def z : (Str) × (Tok) × (Nat) × (Tok) := ec ne Pz
@[irreducible] noncomputable def x : Str := z.1
@[irreducible] noncomputable def t : Tok := z.2.1
@[irreducible] noncomputable def n : Nat := z.2.2.1
@[irreducible] noncomputable def tn : Tok := z.2.2.2
@[irreducible] noncomputable def cx : Ctx := fctx 246 2 16 [] [.str x t, .int n tn] (fun v o => o = [] ∧ ∃ t, v = .int ((n + run digC (suf x n) : Nat) : Int) t)
theorem main : St x t n tn := by
  intro hx
  refine' sp_at cx (by with_unfolding_all rfl) [(Str.ofString "source", .str x t), (Str.ofString "at", .int n tn)] ?k6 ?k7 ?k9 ?kB ?c2 ?c3 ?c4 ?c5 ?_
  (((case k6 => intro P; k_is); (case k7 => intro P; k_is); (case kB => exact rfl); (case c2 => exact rfl); (case c3 => exact rfl); (case c4 => exact rfl); (case c5 => decide)); (case k9 => exact rfl); unfold BdC; intros; (try dsimp only); (try k_fold))
  walk_at "steps"
  refine ksw_while (σ := Nat × Tok) (fun _ => []) (fun c => [(Str.ofString "at", .int c.1 c.2)]) (fun _ => True) [] (fun c => n + run digC (suf x n) = c.1 + run digC (suf x c.1)) (fun c => x.length - c.1) (n, tn) (by assumption) (by assumption) trivial (by kst_all) rfl ?_
  intro c u h tk _ hP F' N'
  (try dsimp only at hP); (try dsimp only); (try k_fold)
  walk_at "steps"
  · have e := sign_dig.go (x := x) (c := c.1) (fun _ h => h) (by assumption)
    (show KswEnd _ _ _ _ _ _ _ _ _ _ _ _; refine' ksw_end ⟨_, _⟩ (by assumption) (by assumption) ?kn trivial ?kk ?kr ?_ ?_; (case kn => first | exact fun _ h9 => h9 | exact fun _ h9 => absurd h9 List.not_mem_nil); (case kk => kst_all); (case kr => (intro z9 h8 h9; (simp only [List.forall_mem_cons, List.not_mem_nil, false_implies, implies_true, and_true, ne_eq] at h8); (simp [kstB, h8])))) <;> (try dsimp only) <;> (first | exact om1 (by with_reducible assumption) (by walk_at "cj") | exact om2 (by walk_at "cj") | exact om3 (by with_reducible assumption) (by walk_at "cj") | exact om4 (by with_reducible assumption) (by walk_at "cj") | exact om5 (by walk_at "cj") | exact om6 (by with_reducible assumption) | exact om7 (by with_reducible assumption) | exact om8 | omega)
  · have e := sign_dig.stop (x := x) (c := c.1) (by assumption)
    refine Ret.intro (by assumption) News.nil ⟨rfl, _, int_val ?_⟩; (first | exact om1 (by with_reducible assumption) (by walk_at "cj") | exact om2 (by walk_at "cj") | exact om3 (by with_reducible assumption) (by walk_at "cj") | exact om4 (by with_reducible assumption) (by walk_at "cj") | exact om5 (by walk_at "cj") | exact om6 (by with_reducible assumption) | exact om7 (by with_reducible assumption) | exact om8 | omega)
end digits_end_sp_at
theorem digits_end_sp (x : Str) (t : Tok) (n : Nat) (tn : Tok) (hx : x.length ≤ 1048576) : Sp 246 2 16 [] [.str x t, .int n tn] (fun v o => o = [] ∧ ∃ t, v = .int ((n + run digC (suf x n) : Nat) : Int) t) := by
  have h9 : digits_end_sp_at.Pz (ec digits_end_sp_at.ne digits_end_sp_at.Pz) := by with_unfolding_all exact digits_end_sp_at.main
  exact eps digits_end_sp_at.ne h9 (x, t, n, tn) hx
namespace row_stop_sp_at
noncomputable def St (x : Str) (t : Tok) (n : Nat) (tn : Tok) : Prop := ∀ (hx : x.length ≤ 1048576), Sp 267 2 16 [] [.str x t, .int n tn] (fun v o => o = [] ∧ ∃ t, v = .int ((n + run rowC (suf x n) : Nat) : Int) t)
noncomputable def Pz (z : (Str) × (Tok) × (Nat) × (Tok)) : Prop := St (z.1) (z.2.1) (z.2.2.1) (z.2.2.2)
theorem ne : Nonempty ((Str) × (Tok) × (Nat) × (Tok)) := ⟨(default, default, default, default)⟩
noncomputable def z : (Str) × (Tok) × (Nat) × (Tok) := ec ne Pz
@[irreducible] noncomputable def x : Str := z.1
@[irreducible] noncomputable def t : Tok := z.2.1
@[irreducible] noncomputable def n : Nat := z.2.2.1
@[irreducible] noncomputable def tn : Tok := z.2.2.2
@[irreducible] noncomputable def cx : Ctx := fctx 267 2 16 [] [.str x t, .int n tn] (fun v o => o = [] ∧ ∃ t, v = .int ((n + run rowC (suf x n) : Nat) : Int) t)
theorem main : St x t n tn := by
  intro hx
  refine' sp_at cx (by with_unfolding_all rfl) [(Str.ofString "source", .str x t), (Str.ofString "at", .int n tn)] ?k6 ?k7 ?k9 ?kB ?c2 ?c3 ?c4 ?c5 ?_
  (((case k6 => intro P; k_is); (case k7 => intro P; k_is); (case kB => exact rfl); (case c2 => exact rfl); (case c3 => exact rfl); (case c4 => exact rfl); (case c5 => decide)); (case k9 => exact rfl); unfold BdC; intros; (try dsimp only); (try k_fold))
  walk_at "steps"
  refine ksw_while (σ := Nat × Tok) (fun _ => []) (fun c => [(Str.ofString "at", .int c.1 c.2)]) (fun _ => True) [] (fun c => n + run rowC (suf x n) = c.1 + run rowC (suf x c.1)) (fun c => x.length - c.1) (n, tn) (by assumption) (by assumption) trivial (by kst_all) rfl ?_
  intro c u h tk _ hP F' N'
  (try dsimp only at hP); (try dsimp only); (try k_fold)
  walk_at "steps"
  · have e := row_go (x := x) (c := c.1) (by assumption) (by assumption)
    (show KswEnd _ _ _ _ _ _ _ _ _ _ _ _; refine' ksw_end ⟨_, _⟩ (by assumption) (by assumption) ?kn trivial ?kk ?kr ?_ ?_; (case kn => first | exact fun _ h9 => h9 | exact fun _ h9 => absurd h9 List.not_mem_nil); (case kk => kst_all); (case kr => (intro z9 h8 h9; (simp only [List.forall_mem_cons, List.not_mem_nil, false_implies, implies_true, and_true, ne_eq] at h8); (simp [kstB, h8])))) <;> (try dsimp only) <;> (first | exact om1 (by with_reducible assumption) (by walk_at "cj") | exact om2 (by walk_at "cj") | exact om3 (by with_reducible assumption) (by walk_at "cj") | exact om4 (by with_reducible assumption) (by walk_at "cj") | exact om5 (by walk_at "cj") | exact om6 (by with_reducible assumption) | exact om7 (by with_reducible assumption) | exact om8 | omega)
  · have e := row_stop (x := x) (c := c.1) (by assumption) (by assumption)
    refine Ret.intro (by assumption) News.nil ⟨rfl, _, int_val ?_⟩; (first | exact om1 (by with_reducible assumption) (by walk_at "cj") | exact om2 (by walk_at "cj") | exact om3 (by with_reducible assumption) (by walk_at "cj") | exact om4 (by with_reducible assumption) (by walk_at "cj") | exact om5 (by walk_at "cj") | exact om6 (by with_reducible assumption) | exact om7 (by with_reducible assumption) | exact om8 | omega)
  · have e := run_end (x := x) (c := c.1) (p := rowC) (by assumption)
    refine Ret.intro (by assumption) News.nil ⟨rfl, _, int_val ?_⟩; (first | exact om1 (by with_reducible assumption) (by walk_at "cj") | exact om2 (by walk_at "cj") | exact om3 (by with_reducible assumption) (by walk_at "cj") | exact om4 (by with_reducible assumption) (by walk_at "cj") | exact om5 (by walk_at "cj") | exact om6 (by with_reducible assumption) | exact om7 (by with_reducible assumption) | exact om8 | omega)
end row_stop_sp_at
theorem row_stop_sp (x : Str) (t : Tok) (n : Nat) (tn : Tok) (hx : x.length ≤ 1048576) : Sp 267 2 16 [] [.str x t, .int n tn] (fun v o => o = [] ∧ ∃ t, v = .int ((n + run rowC (suf x n) : Nat) : Int) t) := by
  have h9 : row_stop_sp_at.Pz (ec row_stop_sp_at.ne row_stop_sp_at.Pz) := by with_unfolding_all exact row_stop_sp_at.main
  exact eps row_stop_sp_at.ne h9 (x, t, n, tn) hx
theorem is_hex_digit_sp (x : Str) (t : Tok) : Sp 70 2 16 [] [.str x t] (fun v n => n = [] ∧ v = .bool (isHex x)) := by
  refine' sp_of [(Str.ofString "char", .str x t)] ?k6 ?k7 ?k9 ?kB ?c2 ?c3 ?c4 ?c5 ?_
  (((case k6 => intro P; k_is); (case k7 => intro P; k_is); (case kB => exact rfl); (case c2 => exact rfl); (case c3 => exact rfl); (case c4 => exact rfl); (case c5 => decide)); (case k9 => exact rfl); unfold Bd; intros; (try dsimp only); (try k_fold))
  walk_at "steps"
  all_goals (refine Ret.intro (by assumption) News.nil ⟨rfl, bfin ?_⟩; unfold isHex; (simp only [*, decide_true, decide_false, Bool.not_true, Bool.not_false, Bool.true_and, Bool.false_and, Bool.true_or, Bool.false_or]))
namespace sign_end_sp_at
noncomputable def St (x : Str) (t : Tok) (n : Nat) (tn : Tok) : Prop := ∀ (hx : x.length ≤ 1048576) (hn : n < x.length), Sp 260 2 16 [] [.str x t, .int n tn] (fun v o => o = [] ∧ ∃ t, v = .int ((n + signLen (suf x n) : Nat) : Int) t)
noncomputable def Pz (z : (Str) × (Tok) × (Nat) × (Tok)) : Prop := St (z.1) (z.2.1) (z.2.2.1) (z.2.2.2)
theorem ne : Nonempty ((Str) × (Tok) × (Nat) × (Tok)) := ⟨(default, default, default, default)⟩
noncomputable def z : (Str) × (Tok) × (Nat) × (Tok) := ec ne Pz
@[irreducible] noncomputable def x : Str := z.1
@[irreducible] noncomputable def t : Tok := z.2.1
@[irreducible] noncomputable def n : Nat := z.2.2.1
@[irreducible] noncomputable def tn : Tok := z.2.2.2
@[irreducible] noncomputable def cx : Ctx := fctx 260 2 16 [] [.str x t, .int n tn] (fun v o => o = [] ∧ ∃ t, v = .int ((n + signLen (suf x n) : Nat) : Int) t)
theorem main : St x t n tn := by
  intro hx hn
  refine' sp_at cx (by with_unfolding_all rfl) [(Str.ofString "source", .str x t), (Str.ofString "at", .int n tn)] ?k6 ?k7 ?k9 ?kB ?c2 ?c3 ?c4 ?c5 ?_
  (((case k6 => intro P; k_is); (case k7 => intro P; k_is); (case kB => exact rfl); (case c2 => exact rfl); (case c3 => exact rfl); (case c4 => exact rfl); (case c5 => decide)); (case k9 => exact rfl); unfold BdC; intros; (try dsimp only); (try k_fold))
  walk_at "steps"
  · have e := sign_2 (x := x) (c := n) (by assumption)
    refine Ret.intro (by assumption) News.nil ⟨rfl, ival ?_⟩; rw [e]; exact rfl
  · have e := sign_1 (x := x) (c := n) (by assumption) hn (by assumption)
    refine Ret.intro (by assumption) News.nil ⟨rfl, ival ?_⟩; rw [e]; exact rfl
  · have e := sign_1 (x := x) (c := n) (by assumption) hn (by assumption)
    refine Ret.intro (by assumption) News.nil ⟨rfl, ival ?_⟩; rw [e]; exact rfl
end sign_end_sp_at
theorem sign_end_sp (x : Str) (t : Tok) (n : Nat) (tn : Tok) (hx : x.length ≤ 1048576) (hn : n < x.length) : Sp 260 2 16 [] [.str x t, .int n tn] (fun v o => o = [] ∧ ∃ t, v = .int ((n + signLen (suf x n) : Nat) : Int) t) := by
  have h9 : sign_end_sp_at.Pz (ec sign_end_sp_at.ne sign_end_sp_at.Pz) := by with_unfolding_all exact sign_end_sp_at.main
  exact eps sign_end_sp_at.ne h9 (x, t, n, tn) hx hn
local macro_rules | `(tactic| walk_at "call ref") => `(tactic| (refine' callP ?C ?k1 ?k2 ?k3 ?k4 ?k5 ?kK ?kd ?ku ?_; (case C => with_reducible exact is_hex_digit_sp _ _); walk_at "use"; walk_at "gp"))
local macro_rules | `(tactic| walk_at "call ref") => `(tactic| ((with_reducible show wpAny _ _ (call (Value.ref 246) _) _ _ _); refine' callM0 (digits_end_sp _ _ _ _ ?kx) ?k1 ?k2 ?k3 ?k4 ?k5 ?kK ?kd ?ku ?_; (case kx => assumption); walk_at "use"; walk_at "gt"))
namespace number_end_sp_at
noncomputable def St (x : Str) (t : Tok) (n : Nat) (tn : Tok) : Prop := ∀ (hx : x.length ≤ 1048576), Sp 253 3 24 [] [.str x t, .int n tn] (fun v o => o = [] ∧ ∃ t, v = .int ((numEnd x n : Nat) : Int) t)
noncomputable def Pz (z : (Str) × (Tok) × (Nat) × (Tok)) : Prop := St (z.1) (z.2.1) (z.2.2.1) (z.2.2.2)
theorem ne : Nonempty ((Str) × (Tok) × (Nat) × (Tok)) := ⟨(default, default, default, default)⟩
noncomputable def z : (Str) × (Tok) × (Nat) × (Tok) := ec ne Pz
@[irreducible] noncomputable def x : Str := z.1
@[irreducible] noncomputable def t : Tok := z.2.1
@[irreducible] noncomputable def n : Nat := z.2.2.1
@[irreducible] noncomputable def tn : Tok := z.2.2.2
@[irreducible] noncomputable def cx : Ctx := fctx 253 3 24 [] [.str x t, .int n tn] (fun v o => o = [] ∧ ∃ t, v = .int ((numEnd x n : Nat) : Int) t)
theorem main : St x t n tn := by
  intro hx
  refine' sp_at cx (by with_unfolding_all rfl) [(Str.ofString "source", .str x t), (Str.ofString "at", .int n tn)] ?k6 ?k7 ?k9 ?kB ?c2 ?c3 ?c4 ?c5 ?_
  (((case k6 => intro P; k_is); (case k7 => intro P; k_is); (case kB => exact rfl); (case c2 => exact rfl); (case c3 => exact rfl); (case c4 => exact rfl); (case c5 => decide)); (case k9 => exact rfl); unfold BdC; intros; (try dsimp only); (try k_fold))
  walk_at "steps"
  refine ksw_while (σ := Nat × Tok) (fun _ => []) (fun c => [(Str.ofString "end", .int c.1 c.2)]) (fun _ => True) [] (fun c => n + run hexC (suf x n) = c.1 + run hexC (suf x c.1)) (fun c => x.length - c.1) (n, tn) (by assumption) (by assumption) trivial (by kst_all) rfl ?_
  intro c u h tk _ hP F' N'
  (try dsimp only at hP); (try dsimp only); (try k_fold)
  walk_at "steps"
  · have e := sign_hex.go (x := x) (c := c.1) (fun _ h => h) (by assumption)
    (show KswEnd _ _ _ _ _ _ _ _ _ _ _ _; refine' ksw_end ⟨_, _⟩ (by assumption) (by assumption) ?kn trivial ?kk ?kr ?_ ?_; (case kn => first | exact fun _ h9 => h9 | exact fun _ h9 => absurd h9 List.not_mem_nil); (case kk => kst_all); (case kr => (intro z9 h8 h9; (simp only [List.forall_mem_cons, List.not_mem_nil, false_implies, implies_true, and_true, ne_eq] at h8); (simp [kstB, h8])))) <;> (try dsimp only) <;> (first | exact om1 (by with_reducible assumption) (by walk_at "cj") | exact om2 (by walk_at "cj") | exact om3 (by with_reducible assumption) (by walk_at "cj") | exact om4 (by with_reducible assumption) (by walk_at "cj") | exact om5 (by walk_at "cj") | exact om6 (by with_reducible assumption) | exact om7 (by with_reducible assumption) | exact om8 | omega)
  · have e := num_1 hP (by assumption) (by assumption)
    refine Ret.intro (by assumption) News.nil ⟨rfl, ival ?_⟩; rw [e]; exact rfl
  · have e := num_2 hP (by assumption) (by assumption) (by assumption)
    refine Ret.intro (by assumption) News.nil ⟨rfl, ival ?_⟩; rw [e]
  · have e := num_3 hP (by assumption) (by assumption) (by assumption) (by assumption)
    refine Ret.intro (by assumption) News.nil ⟨rfl, ival ?_⟩; rw [e]
  · have e := num_4 hP (by assumption) (by assumption) (by assumption) (by assumption) (by assumption)
    refine Ret.intro (by assumption) News.nil ⟨rfl, ival ?_⟩; rw [e]
  · have e := num_b hP (by assumption) (by assumption) (by assumption) (by assumption) (by assumption) rfl (b := true) (by assumption) rfl
    refine Ret.intro (by assumption) News.nil ⟨rfl, ival ?_⟩; rw [e, if_pos rfl, if_pos (by omega)]
  · have e := num_b hP (by assumption) (by assumption) (by assumption) (by assumption) (by assumption) rfl (b := true) (by assumption) rfl
    refine Ret.intro (by assumption) News.nil ⟨rfl, ival ?_⟩; rw [e, if_pos rfl, if_neg (by omega)]
  · have e := num_b hP (by assumption) (by assumption) (by assumption) (by assumption) (by assumption) rfl (b := false) (by assumption) rfl
    refine Ret.intro (by assumption) News.nil ⟨rfl, ival ?_⟩; rw [e, if_neg Bool.false_ne_true, if_pos (by omega)]
  · have e := num_b hP (by assumption) (by assumption) (by assumption) (by assumption) (by assumption) rfl (b := false) (by assumption) rfl
    refine Ret.intro (by assumption) News.nil ⟨rfl, ival ?_⟩; rw [e, if_neg Bool.false_ne_true, if_neg (by omega)]
end number_end_sp_at
theorem number_end_sp (x : Str) (t : Tok) (n : Nat) (tn : Tok) (hx : x.length ≤ 1048576) : Sp 253 3 24 [] [.str x t, .int n tn] (fun v o => o = [] ∧ ∃ t, v = .int ((numEnd x n : Nat) : Int) t) := by
  have h9 : number_end_sp_at.Pz (ec number_end_sp_at.ne number_end_sp_at.Pz) := by with_unfolding_all exact number_end_sp_at.main
  exact eps number_end_sp_at.ne h9 (x, t, n, tn) hx
theorem rst_M2 : Hold True := by (w_top off); first | walk1 | exact True.intro
theorem warm_M2 : ∀ P, (Challenge.rw_pb0353_01, hd.heap_1 P) = (Challenge.rw_pb0353_01, hd.heap_1 P) := by k_fill; intro P; rfl
local macro_rules | `(tactic| walk_at "call ref") => `(tactic| (refine' callM0g ?hf ?C ?k1 ?k2 ?k3 ?k4 ?k5 ?kK ?kd ?ku ?_; (case hf => exact rfl); (case C => first | exact gap_end_sp _ _ _ _ (by assumption) | exact remark_end_sp _ _ _ _ (by assumption) | exact string_end_sp _ _ _ _ (by assumption) | exact word_end_sp _ _ _ _ (by assumption) | exact number_end_sp _ _ _ _ (by assumption) | exact sign_end_sp _ _ _ _ (by assumption) (by assumption) | exact row_stop_sp _ _ _ _ (by assumption)); walk_at "use"; walk_at "gt"))
theorem mk_item_sp (k t : Str) (tk tt : Tok) (n : Int) (tn : Tok) : Sp 207 2 16 [] [.str k tk, .str t tt, .int n tn] (fun v o => ∃ x dx h1 k1 h2 k2 h3 k3 ep, v = .ref x ∧ o = [(x, instObj 207 dx), (dx, dictOf [⟨h1, .str (Str.ofString "kind") k1, .str k tk⟩, ⟨h2, .str (Str.ofString "text") k2, .str t tt⟩, ⟨h3, .str (Str.ofString "place") k3, .int n tn⟩] ep)] ∧ True) := by
  refine sp_cls (d := 1) (u := 8) (fI := 204) (fun P => by k_is) (fun P => by k_is) (fun P => by k_is) fun x dx l2 => ?_
  refine' spc_of [(Str.ofString "self", .ref x), (Str.ofString "kind", .str k tk), (Str.ofString "text", .str t tt), (Str.ofString "place", .int n tn)] ?k6 ?k7 ?k9 ?kB ?c2 ?c3 ?c4 ?c5 ?_
  (((case k6 => intro P; k_is); (case k7 => intro P; k_is); (case kB => exact rfl); (case c2 => exact rfl); (case c3 => exact rfl); (case c4 => exact rfl); (case c5 => decide)); (case k9 => exact rfl); unfold Bd; intros; (try dsimp only); (try k_fold))
  walk_at "steps"
  exact Ret.intro (by assumption) (by assumption) ⟨rfl, _, _, _, _, _, _, _, _, _, rfl, rfl, trivial⟩
noncomputable abbrev tupObj (vs : List Value) : Obj := { cls := .type "tuple", data := .seq vs.toArray }
theorem keywords_sp : Sp 49 1 8 [] [] (fun v o => ∃ a vs, v = .ref a ∧ o = [(a, tupObj vs)] ∧ StrsAre vs kwords) := by
  refine' sp_of [] ?k6 ?k7 ?k9 ?kB ?c2 ?c3 ?c4 ?c5 ?_
  (((case k6 => intro P; k_is); (case k7 => intro P; k_is); (case kB => exact rfl); (case c2 => exact rfl); (case c3 => exact rfl); (case c4 => exact rfl); (case c5 => decide)); (case k9 => exact rfl); unfold Bd; intros; (try dsimp only); (try k_fold))
  walk_at "steps"
  (try dsimp only)
  refine Ret.intro (by assumption) (by assumption) ⟨_, _, rfl, rfl, ?_⟩
  repeat constructor
local macro_rules | `(tactic| walk_at "call ref") => `(tactic| ((with_reducible show wpAny _ _ (call (Value.ref 207) _) _ _ _); refine' callE9 (mk_item_sp _ _ _ _ _ _) (fun _ _ h => h) ?k1 ?k2 ?k3 ?k4 Pick.nil (fun _ h9 => absurd h9 List.not_mem_nil) ?k5 ?kK ?kd ?ku ?_; walk_at "use"; intro x9 dx9 p1 q1 p2 q2 p3 q3 ep9 h9 tk9 F9 N9 A9 R9; clear A9 R9; (dsimp only [List.nil_append, List.cons_append] at N9); walk_at "sw"))
/-- an item as it lies -/
noncomputable def ItemObjs (x dx : Addr) (k t : Str) (n : Int) (o : List (Addr × Obj)) : Prop :=
  ∃ h1 k1 h2 k2 h3 k3 ep tk tt tn, o = [(x, instObj 207 dx), (dx, dictOf [⟨h1, .str (Str.ofString "kind") k1, .str k tk⟩, ⟨h2, .str (Str.ofString "text") k2, .str t tt⟩, ⟨h3, .str (Str.ofString "place") k3, .int n tn⟩] ep)]
theorem item_end {x : Str} {n : Nat} {wa : Addr} {wv : List Value} {g h' : Heap} {L' : Addr} {m' : Str → Option Value} {s : Shared} {tk' : Nat} {x9 dx9 : Addr} {p1 p2 p3 : Int} {q1 q2 q3 tk tt tn : Tok} {ep : Nat} {k y : Str} {en : Nat}
    (F : Fr g L' h' m') (N : News g L' h' [(x9, instObj 207 dx9), (dx9, dictOf [⟨p1, .str (Str.ofString "kind") q1, .str k tk⟩, ⟨p2, .str (Str.ofString "text") q2, .str y tt⟩, ⟨p3, .str (Str.ofString "place") q3, .int (n : Int) tn⟩] ep), (wa, tupObj wv)])
    (e : itemOf x n = (k, en)) (ht : y = sub x n en) :
    Ret g s (fun v o => ∃ x' dx' oi, v = .ref x' ∧ o = oi ++ [(wa, tupObj wv)] ∧ ItemObjs x' dx' (itemOf x n).1 (sub x n (itemOf x n).2) n oi) (.ref x9) { s with heap := h', toks := tk' } := by
  subst ht
  refine Ret.intro F N ⟨x9, dx9, [(x9, instObj 207 dx9), (dx9, dictOf [⟨p1, .str (Str.ofString "kind") q1, .str k tk⟩, ⟨p2, .str (Str.ofString "text") q2, .str (sub x n en) tt⟩, ⟨p3, .str (Str.ofString "place") q3, .int (n : Int) tn⟩] ep)], rfl, rfl, ?_⟩
  rw [e]
  exact ⟨p1, q1, p2, q2, p3, q3, ep, tk, tt, tn, rfl⟩
namespace item_at_sp_at
noncomputable def St (x : Str) (t : Tok) (n : Nat) (tn : Tok) (wa : Addr) (wv : List Value) : Prop := ∀ (hx : x.length ≤ 1048576) (hn : n < x.length) (hw : StrsAre wv kwords), Sp 274 5 40 [(wa, tupObj wv)] [.str x t, .int n tn, .ref wa] (fun v o => ∃ x' dx' oi, v = .ref x' ∧ o = oi ++ [(wa, tupObj wv)] ∧ ItemObjs x' dx' (itemOf x n).1 (sub x n (itemOf x n).2) n oi)
noncomputable def Pz (z : (Str) × (Tok) × (Nat) × (Tok) × (Addr) × (List Value)) : Prop := St (z.1) (z.2.1) (z.2.2.1) (z.2.2.2.1) (z.2.2.2.2.1) (z.2.2.2.2.2)
theorem ne : Nonempty ((Str) × (Tok) × (Nat) × (Tok) × (Addr) × (List Value)) := ⟨(default, default, default, default, default, default)⟩
noncomputable def z : (Str) × (Tok) × (Nat) × (Tok) × (Addr) × (List Value) := ec ne Pz
@[irreducible] noncomputable def x : Str := z.1
@[irreducible] noncomputable def t : Tok := z.2.1
@[irreducible] noncomputable def n : Nat := z.2.2.1
@[irreducible] noncomputable def tn : Tok := z.2.2.2.1
@[irreducible] noncomputable def wa : Addr := z.2.2.2.2.1
@[irreducible] noncomputable def wv : List Value := z.2.2.2.2.2
@[irreducible] noncomputable def cx : Ctx := fctx 274 5 40 [(wa, tupObj wv)] [.str x t, .int n tn, .ref wa] (fun v o => ∃ x' dx' oi, v = .ref x' ∧ o = oi ++ [(wa, tupObj wv)] ∧ ItemObjs x' dx' (itemOf x n).1 (sub x n (itemOf x n).2) n oi)
theorem main : St x t n tn wa wv := by
  intro hx hn hw
  refine' sp_at cx (by with_unfolding_all rfl) [(Str.ofString "source", .str x t), (Str.ofString "at", .int n tn), (Str.ofString "words", .ref wa)] ?k6 ?k7 ?k9 ?kB ?c2 ?c3 ?c4 ?c5 ?_
  (((case k6 => intro P; k_is); (case k7 => intro P; k_is); (case kB => exact rfl); (case c2 => exact rfl); (case c3 => exact rfl); (case c4 => exact rfl); (case c5 => decide)); (case k9 => exact rfl); unfold BdC; intros; (try dsimp only); (try k_fold))
  walk_at "steps"
  · have e := io_gap hn (by assumption)
    exact item_end (by assumption) (by assumption) e rfl
  · have e := io_stray hn (by assumption) (by assumption) (by assumption)
    exact item_end (by assumption) (by assumption) e rfl
  · have e := io_remark hn (by assumption) (by assumption) (by assumption)
    exact item_end (by assumption) (by assumption) e rfl
  · have e := io_word hn (by assumption) (by assumption) (by assumption) (b := true) (by assumption)
    exact item_end (by assumption) (by assumption) e rfl
  · have e := io_word hn (by assumption) (by assumption) (by assumption) (b := false) (by assumption)
    exact item_end (by assumption) (by assumption) e rfl
  · have e := io_number hn (by assumption) (by assumption) (by assumption) (by assumption)
    exact item_end (by assumption) (by assumption) e rfl
  · have e := io_stray2 hn (by assumption) (by assumption) (by assumption) (by assumption) (by assumption) (by assumption)
    exact item_end (by assumption) (by assumption) e rfl
  · have e := io_text hn (by assumption) (by assumption) (by assumption) (by assumption) (by assumption) (by assumption)
    exact item_end (by assumption) (by assumption) e rfl
  · have e := io_sign hn (by assumption) (by assumption) (by assumption) (by assumption) (by assumption) (by assumption)
    exact item_end (by assumption) (by assumption) e rfl
  · have e := io_stray3 hn (by assumption) (by assumption) (by assumption) (by assumption) (by assumption) (by assumption)
    exact item_end (by assumption) (by assumption) e (item_sub hn)
end item_at_sp_at
theorem item_at_sp (x : Str) (t : Tok) (n : Nat) (tn : Tok) (hx : x.length ≤ 1048576) (hn : n < x.length) (wa : Addr) (wv : List Value) (hw : StrsAre wv kwords) : Sp 274 5 40 [(wa, tupObj wv)] [.str x t, .int n tn, .ref wa] (fun v o => ∃ x' dx' oi, v = .ref x' ∧ o = oi ++ [(wa, tupObj wv)] ∧ ItemObjs x' dx' (itemOf x n).1 (sub x n (itemOf x n).2) n oi) := by
  have h9 : item_at_sp_at.Pz (ec item_at_sp_at.ne item_at_sp_at.Pz) := by with_unfolding_all exact item_at_sp_at.main
  exact eps item_at_sp_at.ne h9 (x, t, n, tn, wa, wv) hx hn hw
theorem rst_M3 : Hold True := by (w_top off); first | walk1 | exact True.intro
theorem warm_M3 : ∀ P, (Challenge.rw_pb0353_01, hd.heap_1 P) = (Challenge.rw_pb0353_01, hd.heap_1 P) := by k_fill; intro P; rfl
local macro_rules | `(tactic| walk_at "call ref") => `(tactic| ((with_reducible show wpAny _ _ (call (Value.ref 49) _) _ _ _); refine' callE2 keywords_sp (fun _ _ h => h) ?k1 ?k2 ?k3 ?k4 Pick.nil (fun _ h9 => absurd h9 List.not_mem_nil) ?k5 ?kK ?kd ?ku ?_; walk_at "use"; intro a9 vs9 h9 tk9 F9 N9 A9 hw9; (dsimp only [List.nil_append, List.cons_append] at N9); walk_at "sw"))
/-- items as they lie -/
inductive ItemsAre (news : List (Addr × Obj)) : List Value → List (Str × Str × Nat) → Prop
  | nil : ItemsAre news [] []
  | cons {x dx : Addr} {k t : Str} {n : Nat} {o : List (Addr × Obj)} {vs : List Value} {r : List (Str × Str × Nat)} : ItemObjs x dx k t n o → (∀ p ∈ o, p ∈ news) → ItemsAre news vs r → ItemsAre news (.ref x :: vs) ((k, t, n) :: r)
theorem ItemsAre.mono {news news' : List (Addr × Obj)} {vs : List Value} {r : List (Str × Str × Nat)} (h : ItemsAre news vs r) (hs : ∀ p ∈ news, p ∈ news') : ItemsAre news' vs r := by
  induction h with
  | nil => exact .nil
  | cons a b _ ih => exact .cons a (fun p hp => hs p (b p hp)) ih
theorem ItemsAre.length {news : List (Addr × Obj)} {vs : List Value} {r : List (Str × Str × Nat)} (h : ItemsAre news vs r) : vs.length = r.length := by
  induction h with
  | nil => rfl
  | cons _ _ _ ih => simp [ih]
theorem ItemsAre.snoc {news : List (Addr × Obj)} {vs : List Value} {r : List (Str × Str × Nat)} (h : ItemsAre news vs r) {x dx : Addr} {k t : Str} {n : Nat} {o : List (Addr × Obj)} (ho : ItemObjs x dx k t n o) (hm : ∀ p ∈ o, p ∈ news) : ItemsAre news (vs ++ [.ref x]) (r ++ [(k, t, n)]) := by
  induction h with
  | nil => exact .cons ho hm .nil
  | cons a b _ ih => exact .cons a b ih
theorem news_ne {h₀ h : Heap} {L : Addr} {news : List (Addr × Obj)} (N : News h₀ L h news) {a b : Addr} {o o' : Obj} (h1 : (a, o) ∈ news) (h2 : (b, o') ∈ news) (ho : o ≠ o') : a ≠ b := fun e => by
  have e1 := (N _ h1).1
  have e2 := (N _ h2).1
  simp only at e1 e2
  rw [e, e2] at e1
  exact ho (Option.some.inj e1).symm
structure SI where
  n : Nat
  t : Tok
  r : List (Str × Str × Nat)
  vs : List Value
  ep : Nat
  objs : List (Addr × Obj)
namespace source_items_sp_at
noncomputable def St (x : Str) (t : Tok) (its : List (Str × Str × Nat)) : Prop := ∀ (hx : x.length ≤ 1048576) (hI : Items x 0 its) (hz : its.length ≤ 1048576), Sp 281 8 80 [] [.str x t] (fun v o => ∃ l vs ep objs, v = .ref l ∧ o = (l, listOf vs.toArray ep) :: objs ∧ ItemsAre objs vs its)
noncomputable def Pz (z : (Str) × (Tok) × (List (Str × Str × Nat))) : Prop := St (z.1) (z.2.1) (z.2.2)
theorem ne : Nonempty ((Str) × (Tok) × (List (Str × Str × Nat))) := ⟨(default, default, default)⟩
noncomputable def z : (Str) × (Tok) × (List (Str × Str × Nat)) := ec ne Pz
@[irreducible] noncomputable def x : Str := z.1
@[irreducible] noncomputable def t : Tok := z.2.1
@[irreducible] noncomputable def its : List (Str × Str × Nat) := z.2.2
@[irreducible] noncomputable def cx : Ctx := fctx 281 8 80 [] [.str x t] (fun v o => ∃ l vs ep objs, v = .ref l ∧ o = (l, listOf vs.toArray ep) :: objs ∧ ItemsAre objs vs its)
theorem main : St x t its := by
  intro hx hI hz
  refine' sp_at cx (by with_unfolding_all rfl) [(Str.ofString "source", .str x t)] ?k6 ?k7 ?k9 ?kB ?c2 ?c3 ?c4 ?c5 ?_
  (((case k6 => intro P; k_is); (case k7 => intro P; k_is); (case kB => exact rfl); (case c2 => exact rfl); (case c3 => exact rfl); (case c4 => exact rfl); (case c5 => decide)); (case k9 => exact rfl); unfold BdC; intros; (try dsimp only); (try k_fold))
  walk_at "steps"
  rename_i a9 vs9 hh9 tk9 hA9 hw9 tkA z l9 hA l1 hB hC F1 N1
  refine ksw_while (σ := SI) (fun c => (l9, listOf c.vs.toArray c.ep) :: (a9, tupObj vs9) :: c.objs) (fun c => [(Str.ofString "at", .int c.n c.t)]) (fun c => ∀ p ∈ c.objs, p.1 ≠ l9 ∧ p.1 ≠ a9) [Str.ofString "item"]
    (fun c => ∃ pre, its = pre ++ c.r ∧ Items x c.n c.r ∧ ItemsAre c.objs c.vs pre) (fun c => c.r.length) ⟨0, _, its, [], 0, []⟩ F1 N1 (fun _ h => nomatch h) (by kst_all) ⟨[], rfl, hI, .nil⟩ ?_
  rintro ⟨n, tn, r, vs, ep, objs⟩ u h tk hoff ⟨pre, eI, hI1, hA1⟩ F2 N2
  dsimp only at hoff eI hI1 hA1 F2 N2 ⊢
  have hz := eI ▸ hz
  have hsz : vs.toArray.size ≤ sizeLine := by
    rw [List.size_toArray, hA1.length, sizeLine_eq]
    rw [List.length_append] at hz
    omega
  (try k_fold)
  walk_at "steps"
  · refine Hold.out ?_
    have hn : n < x.length := by have : ((n : Nat) : Int) < (x.length : Int) := by assumption
                                 omega
    cases hI1 with
    | done hd' => omega
    | @step _ e k r' _ he hr =>
    refine' callE3 (item_at_sp x t n tn hx hn a9 vs9 hw9) (fun _ _ h => h) ?k1 ?k2 ?k3 ?k4 (Pick.cons (Take1.tail Take1.head) Pick.nil) ?ka ?k5 ?kK ?kd ?ku ?_
    walk_at "use"
    (case ka => (intro p hp q hq; rw [List.mem_singleton.mp hp]; exact (List.mem_cons.mp hq).elim (fun e => by rw [e]; exact Nat.ne_of_lt l1) fun hq => Ne.symm (hoff q hq).2))
    intro x9 dx9 oi h9 tk9 F9 N9 A9 ho
    rw [he] at ho
    have ho' := ho
    obtain ⟨p1, q1, p2, q2, p3, q3, ep9, tk2, tt2, tn2, rfl⟩ := ho
    have nx : @Ne Nat x9 l9 := A9 _ (.head _) _ (.head _)
    have ndx : @Ne Nat dx9 l9 := A9 _ (.tail _ (.head _)) _ (.head _)
    have nr : ∀ p ∈ objs, p.1 ≠ l9 := fun p hp => (hoff p hp).1
    have na : @Ne Nat a9 l9 := Nat.ne_of_lt l1
    have hsub : (sub x n e).length ≤ 1048576 := Nat.le_trans (sub_length_le x n e) hx
    simp only [List.cons_append, List.nil_append] at N9
    (try dsimp only); (try k_fold)
    walk_at "steps"
    refine Hold.out ?_
    (rename News _ _ _ _ => N5)
    (rename Fr _ _ _ _ => F5)
    rw [List.push_toArray] at N5
    have mx : @Ne Nat x9 a9 := news_ne N5 (.head _) (.tail _ (.tail _ (.head _))) (fun e => by cases e)
    have mdx : @Ne Nat dx9 a9 := news_ne N5 (.tail _ (.head _)) (.tail _ (.tail _ (.head _))) (fun e => absurd (congrArg Obj.cls e) (show Value.type "dict" ≠ Value.type "tuple" by decide))
    refine ksw_end (c' := ⟨n + (sub x n e).length, _, r', vs ++ [.ref x9], ep + 1, (x9, instObj 207 dx9) :: (dx9, dictOf [⟨p1, .str (Str.ofString "kind") q1, .str k tk2⟩, ⟨p2, .str (Str.ofString "text") q2, .str (sub x n e) tt2⟩, ⟨p3, .str (Str.ofString "place") q3, .int (n : Int) tn2⟩] ep9) :: objs⟩) F5 N5 ?kn ?kf (by kst_all) ?kr ?kp ?km
    · intro p hp
      simp only [List.mem_cons] at hp ⊢
      rcases hp with h | h | h | h | h
      · exact .inr (.inr (.inr (.inl h)))
      · exact .inr (.inr (.inl h))
      · exact .inl h
      · exact .inr (.inl h)
      · exact .inr (.inr (.inr (.inr h)))
    · intro p hp
      rcases List.mem_cons.mp hp with rfl | hp
      · exact ⟨nx, mx⟩
      · rcases List.mem_cons.mp hp with rfl | hp
        · exact ⟨ndx, mdx⟩
        · exact hoff p hp
    · (intro z9 h8 h9; (simp only [List.forall_mem_cons, List.not_mem_nil, List.contains_cons, List.contains_nil, Bool.or_false, Bool.or_eq_false_iff, beq_eq_false_iff_ne, false_implies, implies_true, and_true, ne_eq] at h8 h9); (simp [kstB, h8, h9]))
    · exact ⟨pre ++ [(k, sub x n e, n)], by simpa using eI, hr, (hA1.mono fun p hp => .tail _ (.tail _ hp)).snoc ho' fun p hp => by
        rcases List.mem_cons.mp hp with rfl | hp
        · exact .head _
        · rw [List.mem_singleton.mp hp]; exact .tail _ (.head _)⟩
    · exact Nat.lt_succ_self _
  · refine Ret.intro (by assumption) (fun p hp => N2 p ?_) ⟨l9, vs, ep, objs, rfl, rfl, ?_⟩
    · rcases List.mem_cons.mp hp with rfl | hp
      · exact .head _
      · exact .tail _ (.tail _ hp)
    · cases hI1 with
      | done _ => rw [eI, List.append_nil]; exact hA1
      | step hlt _ _ => exact absurd (show ((n : Nat) : Int) < (x.length : Int) by omega) (by assumption)
end source_items_sp_at
theorem source_items_sp (x : Str) (t : Tok) (hx : x.length ≤ 1048576) (its : List (Str × Str × Nat)) (hI : Items x 0 its) (hz : its.length ≤ 1048576) : Sp 281 8 80 [] [.str x t] (fun v o => ∃ l vs ep objs, v = .ref l ∧ o = (l, listOf vs.toArray ep) :: objs ∧ ItemsAre objs vs its) := by
  have h9 : source_items_sp_at.Pz (ec source_items_sp_at.ne source_items_sp_at.Pz) := by with_unfolding_all exact source_items_sp_at.main
  exact eps source_items_sp_at.ne h9 (x, t, its) hx hI hz
section
open PySem PySem.W PyProof.Rows PySem.Spec PySem.Calls
theorem news_sub {h₀ h : Heap} {L : Addr} {news news' : List (Addr × Obj)} (N : News h₀ L h news) (hs : ∀ p ∈ news', p ∈ news) : News h₀ L h news' := fun p hp => N p (hs p hp)
/-- a list object that holds vs -/
noncomputable def ListOb (o : Obj) (vs : List Value) : Prop := o.cls = .type "list" ∧ ∃ n, o.data = .seq vs.toArray n
theorem ListOb.of (vs : List Value) (n : Nat) : ListOb (listOf vs.toArray n) vs := ⟨rfl, n, rfl⟩
theorem ListOb.isList {h : Heap} {a : Addr} {o : Obj} {vs : List Value} (l : ListOb o vs) (e : h.get? a = some o) : h.IsList a vs.toArray := ⟨o, e, l.1, l.2⟩
theorem ListOb.free {o : Obj} {vs : List Value} (l : ListOb o vs) : o.isFreed = false := by
  obtain ⟨c, d, dt, sl⟩ := o
  obtain ⟨_, n, e⟩ := l
  simp only at e
  subst e; rfl
noncomputable abbrev TestsT (prog : Program) (w : World) (A : Around) (ifs : List PySem.Expr) (cenv : Env) (Q : Bool → Shared → Prop) (E : Value → Shared → Prop) (s : Shared) : Prop :=
  wpAny (model prog w) A (forIn ifs true fun c r => if r = true then do let ok ← isTrue c cenv (eval c cenv); pure (ForInStep.yield ok) else pure (ForInStep.yield r)) Q E s
/-- a list comprehension over a list of the ledger, its test p, its element related by G -/
theorem lc_rule {prog : Program} {w : World} {A : Around} {E : Value → Shared → Prop} {s : Shared} {env : Env} {h₀ : Heap} {L : Addr} {m : Str → Option Value} {elt iter : PySem.Expr} {x : Str} {px : Pos} {ifs : List PySem.Expr} {scope : Scope} {pos : Pos} {Q : Value → Shared → Prop}
    (hh : A.handled = none) (hfree : ∀ y ∈ scope.names, y.2 ≠ .free) (hcell : ∀ y ∈ scope.names, y.2 ≠ .cell) (hkind : scope.kind = .function)
    (hnames : ∀ y ∈ scope.names, y.2 = .local → scope.names.lookup y.1 = some .local) (hx : scope.names.lookup x = some .local)
    (hs : ∀ x, foldedSetIterable iter env x = pure x)
    (h : wpAny (model prog w) A (eval iter env) (fun xv s₁ => ∃ (p : Value → Bool) (G : Value → Value → Prop) (ax : Addr) (ol : Obj) (vs : List Value) (news : List (Addr × Obj)), xv = .ref ax ∧ Fr h₀ L s₁.heap m ∧ News h₀ L s₁.heap news ∧ (ax, ol) ∈ news ∧ ListOb ol vs ∧ vs.length ≤ sizeLine ∧
      (∀ C v s₂ m₂ E', v ∈ vs → s₂.heap.Ns C m₂ → m₂ x = some v → (∀ b o, s₁.heap.get? b = some o → s₂.heap.get? b = some o) → TestsT prog w A ifs (compEnv scope C env) (fun ok s₃ => ok = p v ∧ Keeps s₂ s₃) E' s₂) ∧
      (∀ C v s₂ m₂ E', v ∈ vs → p v = true → s₂.heap.Ns C m₂ → m₂ x = some v → (∀ b o, s₁.heap.get? b = some o → s₂.heap.get? b = some o) → wpAny (model prog w) A (eval elt (compEnv scope C env)) (fun y s₃ => G v y ∧ Keeps s₂ s₃) E' s₂) ∧
      (∀ D oD h' tk ys, ListOb oD ys → Fr h₀ L h' m → News h₀ L h' ((D, oD) :: news) → (∀ q ∈ news, q.1 ≠ D) → Paired G (vs.filter p) ys → Q (.ref D) { s₁ with heap := h', toks := tk })) E s) :
    wpAny (model prog w) A (eval (.ListComp elt [⟨.Name x px, iter, ifs, 0⟩] scope pos) env) Q E s := by
  refine wpAny_ListComp hfree hkind hnames (wpAny_mono h (fun xv s₁ h₁ => ?_) fun _ _ e => e) hs
  obtain ⟨p, G, ax, ol, vs, news, rfl, H9⟩ := h₁
  have F := H9.1
  have N := H9.2.1
  have hm := H9.2.2.1
  have lo := H9.2.2.2.1
  have hsz := H9.2.2.2.2.1
  have ht := H9.2.2.2.2.2.1
  have he := H9.2.2.2.2.2.2.1
  have hq := H9.2.2.2.2.2.2.2
  clear H9
  refine comp_block_map (RR := fun acc cenv r s' => ∃ m, s'.heap.Ns cenv.locals m ∧ ∀ h', Heap.SameBut cenv.locals s'.heap h' →
      match r with | .ok _ => Q acc { s' with heap := h' } | .error x => wpAny (model prog w) A (passOn "comprehension.variables-let-go" x cenv) Q E { s' with heap := h' })
    p G hh hcell hkind hx (lo.isList (N _ hm).1) (by rw [List.size_toArray]; exact hsz) (fun C v s₂ m₂ E' hv => ht C v s₂ m₂ E' (by simpa using hv)) (fun C v s₂ m₂ E' hv => he C v s₂ m₂ E' (by simpa using hv)) ?_
  intro D C h1 tk m' ys hD hC hDC hnC hl hp hk1
  refine ⟨m', hnC, fun h' hsb => ?_⟩
  have hk : ∀ b o, s₁.heap.get? b = some o → h'.get? b = some o := fun b o e => hsb.extBut b o (fun q => by
      have hC' : s₁.heap.get? (compEnv scope C env).locals = none := hC
      rw [← q, e] at hC'; cases hC') (hk1 b o e)
  obtain ⟨oD, e1, e2, n, e3⟩ := hl.extBut hsb.extBut hDC
  have ob : ListOb oD ys.toList := ⟨e2, n, by rw [e3]⟩
  refine hq D oD h' tk ys.toList ob ⟨F.ns.keeps hk, fun b o e => hk b o (F.keep b o e), F.above⟩ ?_ ?_ (by simpa using hp)
  · intro q hq'
    rcases List.mem_cons.mp hq' with rfl | hq'
    · refine ⟨e1, ?_, ?_⟩
      · intro e
        obtain ⟨oL, _, _, hL, _⟩ := F.ns
        simp only at e
        rw [e, hL] at hD; cases hD
      · cases e : h₀.get? D with
        | none => rfl
        | some o => rw [F.keep _ _ e] at hD; cases hD
    · exact ⟨hk _ _ (N q hq').1, (N q hq').2⟩
  · intro q hq' e
    have := (N q hq').1
    rw [e, hD] at this; cases this
/-- the same, its list bound to a name at once -/
theorem lc_assign {prog : Program} {w : World} {A : Around} {E : Value → Shared → Prop} {s : Shared} {env : Env} {h₀ : Heap} {L : Addr} {m : Str → Option Value} {elt iter : PySem.Expr} {x y : Str} {px py : Pos} {ifs : List PySem.Expr} {scope : Scope} {pos spos : Pos} {Q : Flow → Shared → Prop}
    (hsw : swapsWith (.ListComp elt [⟨.Name x px, iter, ifs, 0⟩] scope pos) (some (.Name y py)) spos.line env = pure true)
    (hL : env.locals = L) (hy : env.kindOf y = some .local) (hek : env.scope.kind = .function)
    (hh : A.handled = none) (hfree : ∀ y ∈ scope.names, y.2 ≠ .free) (hcell : ∀ y ∈ scope.names, y.2 ≠ .cell) (hkind : scope.kind = .function)
    (hnames : ∀ y ∈ scope.names, y.2 = .local → scope.names.lookup y.1 = some .local) (hx : scope.names.lookup x = some .local)
    (hs : ∀ x, foldedSetIterable iter env x = pure x)
    (h : wpAny (model prog w) A (eval iter env) (fun xv s₁ => ∃ (p : Value → Bool) (G : Value → Value → Prop) (ax : Addr) (ol : Obj) (vs : List Value) (news : List (Addr × Obj)), xv = .ref ax ∧ Fr h₀ L s₁.heap m ∧ News h₀ L s₁.heap news ∧ (ax, ol) ∈ news ∧ ListOb ol vs ∧ vs.length ≤ sizeLine ∧
      (∀ C v s₂ m₂ E', v ∈ vs → s₂.heap.Ns C m₂ → m₂ x = some v → (∀ b o, s₁.heap.get? b = some o → s₂.heap.get? b = some o) → TestsT prog w A ifs (compEnv scope C env) (fun ok s₃ => ok = p v ∧ Keeps s₂ s₃) E' s₂) ∧
      (∀ C v s₂ m₂ E', v ∈ vs → p v = true → s₂.heap.Ns C m₂ → m₂ x = some v → (∀ b o, s₁.heap.get? b = some o → s₂.heap.get? b = some o) → wpAny (model prog w) A (eval elt (compEnv scope C env)) (fun y s₃ => G v y ∧ Keeps s₂ s₃) E' s₂) ∧
      (∀ D oD h' tk ys, ListOb oD ys → Fr h₀ L h' (fun z => if z = y then some (.ref D) else m z) → News h₀ L h' ((D, oD) :: news) → (∀ q ∈ news, q.1 ≠ D) → Paired G (vs.filter p) ys → Q .next { s₁ with heap := h', toks := tk })) E s) :
    wpAny (model prog w) A (exec (.Assign [.Name y py] (.ListComp elt [⟨.Name x px, iter, ifs, 0⟩] scope pos) spos) env) Q E s := by
  subst hL
  rw [exec_Assign_Name_used _ _ _ _ hsw]
  refine wpAny_bind (wpAny_standAt (wpAny_bind ?_))
  show wpAny _ A (do let _ ← comprehension (.ListComp elt [⟨.Name x px, iter, ifs, 0⟩] scope pos) scope env _ (newList []) false (eval iter env) (some (assign (.Name y py) env))) _ _ s
  refine wpAny_bind (wpAny_mono (wpAny_comprehension_use (Q := fun _ s' => Q .next s') rfl hs hfree hkind hnames (wpAny_mono h (fun xv s₁ h₁ => ?_) fun _ _ e => e)) (fun _ s' hq => wpAny_pure (wpAny_pure hq)) fun _ _ e => e)
  obtain ⟨p, G, ax, ol, vs, news, rfl, H9⟩ := h₁
  have F := H9.1
  have N := H9.2.1
  have hm := H9.2.2.1
  have lo := H9.2.2.2.1
  have hsz := H9.2.2.2.2.1
  have ht := H9.2.2.2.2.2.1
  have he := H9.2.2.2.2.2.2.1
  have hq := H9.2.2.2.2.2.2.2
  clear H9
  refine comp_block_map (RR := fun acc cenv r s' => match r with
      | .ok _ => wpAny (model prog w) A (assign (.Name y py) env acc) (fun _ s'' => ∃ m, s''.heap.Ns cenv.locals m ∧ ∀ h', Heap.SameBut cenv.locals s''.heap h' → Q .next { s'' with heap := h' }) E s'
      | .error x => ∃ m, s'.heap.Ns cenv.locals m ∧ ∀ h', Heap.SameBut cenv.locals s'.heap h' → wpAny (model prog w) A (passOn "comprehension.variables-let-go" x cenv) (fun _ s' => Q .next s') E { s' with heap := h' })
    p G hh hcell hkind hx (lo.isList (N _ hm).1) (by rw [List.size_toArray]; exact hsz) (fun C v s₂ m₂ E' hv => ht C v s₂ m₂ E' (by simpa using hv)) (fun C v s₂ m₂ E' hv => he C v s₂ m₂ E' (by simpa using hv)) ?_
  intro D C h1 tk m' ys hD hC hDC hnC hl hp hk1
  obtain ⟨oL, x1, x2, hoL, x3⟩ := id F.ns
  have hLC : env.locals ≠ C := fun q => by rw [q, hC] at hoL; cases hoL
  have hLD : env.locals ≠ D := fun q => by rw [q, hD] at hoL; cases hoL
  refine wpAny_assign_Name (wpAny_storeName_local hy (F.ns.keeps hk1) (fun h2 hn2 hs2 => ?_) (by rw [hek]; rfl))
  refine ⟨m', hnC.sameBut hs2 (Ne.symm hLC), fun h' hsb => ?_⟩
  have hk : ∀ b o, b ≠ env.locals → s₁.heap.get? b = some o → h'.get? b = some o := fun b o hb e => hsb.extBut b o (fun q => by
      have hC' : s₁.heap.get? (compEnv scope C env).locals = none := hC
      rw [← q, e] at hC'; cases hC') (hs2.extBut b o hb (hk1 b o e))
  obtain ⟨oD, e1, e2, n, e3⟩ := (hl.extBut hs2.extBut (Ne.symm hLD)).extBut hsb.extBut hDC
  have ob : ListOb oD ys.toList := ⟨e2, n, by rw [e3]⟩
  have h0L : ∀ b o, h₀.get? b = some o → b ≠ env.locals := fun b o e q => absurd (Nat.lt_of_lt_of_le (Heap.lt_size e) F.above) (by rw [q]; exact Nat.lt_irrefl _)
  refine hq D oD h' _ ys.toList ob ⟨hn2.sameBut hsb hLC, fun b o e => hk b o (h0L b o e) (F.keep b o e), F.above⟩ ?_ ?_ (by simpa using hp)
  · intro q hq'
    rcases List.mem_cons.mp hq' with rfl | hq'
    · refine ⟨e1, Ne.symm hLD, ?_⟩
      cases e : h₀.get? D with
      | none => rfl
      | some o => rw [F.keep _ _ e] at hD; cases hD
    · exact ⟨hk _ _ (N q hq').2.1 (N q hq').1, (N q hq').2⟩
  · intro q hq' e
    have := (N q hq').1
    rw [e, hD] at this; cases this
end
theorem rst_W2 : Hold True := by (w_top off); first | walk1 | exact True.intro
theorem warm_W2 : ∀ P, (Challenge.rw_pb0353_01, hd.heap_1 P) = (Challenge.rw_pb0353_01, hd.heap_1 P) := by k_fill; intro P; rfl
noncomputable abbrev cScope (x : String) : Scope := { kind := ScopeKind.function, names := [(Str.ofString ".0", NameKind.local), (Str.ofString x, NameKind.local)], isGenerator := false, isCoroutine := false }
/-- an item of the ledger, in the heap -/
noncomputable def ItemIs (h : Heap) (v : Value) (i : Str × Str × Nat) : Prop := ∃ x dx o, v = .ref x ∧ ItemObjs x dx i.1 i.2.1 (i.2.2 : Nat) o ∧ ∀ p ∈ o, h.get? p.1 = some p.2
theorem ItemIs.keep {h h' : Heap} {v : Value} {i : Str × Str × Nat} (a : ItemIs h v i) (hk : ∀ b o, h.get? b = some o → h'.get? b = some o) : ItemIs h' v i := by
  obtain ⟨x, dx, o, rfl, ho, hp⟩ := a
  exact ⟨x, dx, o, rfl, ho, fun p q => hk _ _ (hp p q)⟩
theorem ItemsAre.paired {h : Heap} {objs : List (Addr × Obj)} {vs : List Value} {its : List (Str × Str × Nat)} (a : ItemsAre objs vs its) (hn : ∀ p ∈ objs, h.get? p.1 = some p.2) : Paired (ItemIs h) vs its := by
  induction a with
  | nil => exact .nil
  | cons ho hm _ ih => exact .cons ⟨_, _, _, rfl, ho, fun p q => hn p (hm p q)⟩ ih
/-- an item that the ledger bears -/
noncomputable def ItemIn (objs : List (Addr × Obj)) (v : Value) (i : Str × Str × Nat) : Prop := ∃ x dx o, v = .ref x ∧ ItemObjs x dx i.1 i.2.1 (i.2.2 : Nat) o ∧ ∀ p ∈ o, p ∈ objs
theorem ItemsAre.pairedIn {objs : List (Addr × Obj)} {vs : List Value} {its : List (Str × Str × Nat)} (a : ItemsAre objs vs its) : Paired (ItemIn objs) vs its := by
  induction a with
  | nil => exact .nil
  | cons ho hm _ ih => exact .cons ⟨_, _, _, rfl, ho, hm⟩ ih
theorem items_of_paired {objs : List (Addr × Obj)} {vs : List Value} {its : List (Str × Str × Nat)} (a : Paired (ItemIn objs) vs its) : ItemsAre objs vs its := by
  induction a with
  | nil => exact .nil
  | cons r _ ih => obtain ⟨x, dx, o, rfl, ho, hm⟩ := r; exact .cons ho hm ih
theorem ItemIn.is {objs : List (Addr × Obj)} {h : Heap} {v : Value} {i : Str × Str × Nat} (a : ItemIn objs v i) (hn : ∀ p ∈ objs, h.get? p.1 = some p.2) : ItemIs h v i := by
  obtain ⟨x, dx, o, rfl, ho, hm⟩ := a
  exact ⟨x, dx, o, rfl, ho, fun p q => hn p (hm p q)⟩
section
variable {w : World} {A : Around} {E : Value → Shared → Prop} {s : Shared} {C : Addr} {m : Str → Option Value} {env : Env} {v : Value} {pos pos' : Pos} {Q : Value → Shared → Prop} {i : Str × Str × Nat}
theorem el_name (hn : s.heap.Ns C m) (hv : m (Str.ofString "item") = some v) (h : Q v s) :
    wpAny (model Challenge.rw_pb0353_01.row.prog w) A (eval (.Name (Str.ofString "item") pos) (compEnv (cScope "item") C env)) Q E s :=
  wpAny_Name (wpAny_loadName_local rfl rfl hn hv h)
theorem item_text (X : (hd.heap_1 w.params).In s.heap) (a : ItemIs s.heap v i) (h : ∀ t, Q (.str i.2.1 t) { s with toks := s.toks + 1 }) : wpAny (model Challenge.rw_pb0353_01.row.prog w) A (getAttr v (Str.ofString "text") true) Q E s := by
  obtain ⟨x, dx, o, rfl, ⟨h1, k1, h2, k2, h3, k3, ep, tk, tt, tn, rfl⟩, hp⟩ := a
  have I : InstAt s.heap x (instObj 207 dx) 207 (some (dictOf [⟨h1, .str (Str.ofString "kind") k1, .str i.1 tk⟩, ⟨h2, .str (Str.ofString "text") k2, .str i.2.1 tt⟩, ⟨h3, .str (Str.ofString "place") k3, .int (i.2.2 : Nat) tn⟩] ep)) := ⟨hp _ (.head _), rfl, rfl, hp _ (.tail _ (.head _))⟩
  exact get_value X I (plainGet_of (name := Str.ofString "text") (by k_is)).1 (findObj_own (attr := none) (by k_is) (by k_is) (by k_is) (by rw [lookIn_dict]; k_get)) rfl (h tt)
theorem item_kind (X : (hd.heap_1 w.params).In s.heap) (a : ItemIs s.heap v i) (h : ∀ t, Q (.str i.1 t) { s with toks := s.toks + 1 }) : wpAny (model Challenge.rw_pb0353_01.row.prog w) A (getAttr v (Str.ofString "kind") true) Q E s := by
  obtain ⟨x, dx, o, rfl, ⟨h1, k1, h2, k2, h3, k3, ep, tk, tt, tn, rfl⟩, hp⟩ := a
  have I : InstAt s.heap x (instObj 207 dx) 207 (some (dictOf [⟨h1, .str (Str.ofString "kind") k1, .str i.1 tk⟩, ⟨h2, .str (Str.ofString "text") k2, .str i.2.1 tt⟩, ⟨h3, .str (Str.ofString "place") k3, .int (i.2.2 : Nat) tn⟩] ep)) := ⟨hp _ (.head _), rfl, rfl, hp _ (.tail _ (.head _))⟩
  exact get_value X I (plainGet_of (name := Str.ofString "kind") (by k_is)).1 (findObj_own (attr := none) (by k_is) (by k_is) (by k_is) (by rw [lookIn_dict]; k_get)) rfl (h tk)
theorem item_place (X : (hd.heap_1 w.params).In s.heap) (a : ItemIs s.heap v i) (h : ∀ t, Q (.int (i.2.2 : Nat) t) { s with toks := s.toks + 1 }) : wpAny (model Challenge.rw_pb0353_01.row.prog w) A (getAttr v (Str.ofString "place") true) Q E s := by
  obtain ⟨x, dx, o, rfl, ⟨h1, k1, h2, k2, h3, k3, ep, tk, tt, tn, rfl⟩, hp⟩ := a
  have I : InstAt s.heap x (instObj 207 dx) 207 (some (dictOf [⟨h1, .str (Str.ofString "kind") k1, .str i.1 tk⟩, ⟨h2, .str (Str.ofString "text") k2, .str i.2.1 tt⟩, ⟨h3, .str (Str.ofString "place") k3, .int (i.2.2 : Nat) tn⟩] ep)) := ⟨hp _ (.head _), rfl, rfl, hp _ (.tail _ (.head _))⟩
  exact get_value X I (plainGet_of (name := Str.ofString "place") (by k_is)).1 (findObj_own (attr := none) (by k_is) (by k_is) (by k_is) (by rw [lookIn_dict]; k_get)) rfl (h tn)
theorem el_text (hn : s.heap.Ns C m) (hv : m (Str.ofString "item") = some v) (X : (hd.heap_1 w.params).In s.heap) (a : ItemIs s.heap v i) (h : ∀ t, Q (.str i.2.1 t) { s with toks := s.toks + 1 }) :
    wpAny (model Challenge.rw_pb0353_01.row.prog w) A (eval (.Attribute (.Name (Str.ofString "item") pos) (Str.ofString "text") pos') (compEnv (cScope "item") C env)) Q E s :=
  Attribute_name (el_name hn hv (item_text X a h))
theorem el_kind (hn : s.heap.Ns C m) (hv : m (Str.ofString "item") = some v) (X : (hd.heap_1 w.params).In s.heap) (a : ItemIs s.heap v i) (h : ∀ t, Q (.str i.1 t) { s with toks := s.toks + 1 }) :
    wpAny (model Challenge.rw_pb0353_01.row.prog w) A (eval (.Attribute (.Name (Str.ofString "item") pos) (Str.ofString "kind") pos') (compEnv (cScope "item") C env)) Q E s :=
  Attribute_name (el_name hn hv (item_kind X a h))
theorem el_place (hn : s.heap.Ns C m) (hv : m (Str.ofString "item") = some v) (X : (hd.heap_1 w.params).In s.heap) (a : ItemIs s.heap v i) (h : ∀ t, Q (.int (i.2.2 : Nat) t) { s with toks := s.toks + 1 }) :
    wpAny (model Challenge.rw_pb0353_01.row.prog w) A (eval (.Attribute (.Name (Str.ofString "item") pos) (Str.ofString "place") pos') (compEnv (cScope "item") C env)) Q E s :=
  Attribute_name (el_name hn hv (item_place X a h))
theorem keeps_tok {k : Nat} : Keeps s { s with toks := k } := ⟨s.heap, k, rfl, fun _ _ e => e⟩
end
theorem ItemIs.inj {h : Heap} {v : Value} {i j : Str × Str × Nat} (a : ItemIs h v i) (b : ItemIs h v j) : i = j := by
  obtain ⟨x, dx, o, rfl, ⟨h1, k1, h2, k2, h3, k3, ep, tk, tt, tn, rfl⟩, hp⟩ := a
  obtain ⟨x', dx', o', e, ⟨h1', k1', h2', k2', h3', k3', ep', tk', tt', tn', rfl⟩, hp'⟩ := b
  cases e
  have p1 := hp _ (.head _)
  have p2 := hp' _ (.head _)
  have e1 := p1.symm.trans p2
  simp only [Option.some.injEq, Obj.mk.injEq, true_and, and_true] at e1
  subst e1
  have p3 := hp _ (.tail _ (.head _))
  have p4 := hp' _ (.tail _ (.head _))
  have e2 := p3.symm.trans p4
  simp only [Option.some.injEq, Obj.mk.injEq, Data.dict.injEq, List.toArray_eq_toArray_eq, List.cons.injEq, DictEntry.mk.injEq, Value.str.injEq, Value.int.injEq, true_and, and_true] at e2
  obtain ⟨a1, a2, a3⟩ := i
  obtain ⟨b1, b2, b3⟩ := j
  simp only at e2
  simp only [Prod.mk.injEq]
  refine ⟨e2.1.1.2.2.1, e2.1.2.1.2.2.1, ?_⟩
  have := e2.1.2.2.2.2.1
  omega
section
open PySem PySem.W PyProof.Rows PySem.Spec PySem.Calls
theorem paired_filter {α β : Type} {R : α → β → Prop} {p : α → Bool} {q : β → Bool} {l₁ : List α} {l₂ : List β} (h : Paired R l₁ l₂) (hpq : ∀ a b, R a b → p a = q b) : Paired R (l₁.filter p) (l₂.filter q) := by
  induction h with
  | nil => exact .nil
  | @cons a b _ _ r _ ih =>
    rw [List.filter_cons, List.filter_cons, hpq a b r]
    cases q b with
    | true => exact .cons r ih
    | false => exact ih
theorem paired_comp {α β γ : Type} {R : α → β → Prop} {G : α → γ → Prop} {H : γ → β → Prop} {l₁ : List α} {l₂ : List β} {l₃ : List γ} (h : Paired R l₁ l₂) (g : Paired G l₁ l₃) (hc : ∀ a b c, R a b → G a c → H c b) : Paired H l₃ l₂ := by
  induction h generalizing l₃ with
  | nil => cases g; exact .nil
  | cons r _ ih => cases g with | cons g1 g2 => exact .cons (hc _ _ _ r g1) (ih g2)
theorem paired_strs {l : List Value} {β : Type} {its : List β} {f : β → Str} (h : Paired (fun (y : Value) (i : β) => ∃ t, y = .str (f i) t) l its) : StrsAre l (its.map f) := by
  induction h with
  | nil => exact .nil
  | cons r _ ih => obtain ⟨t, rfl⟩ := r; exact .cons _ _ ih
theorem paired_mono {α β : Type} {R S : α → β → Prop} {l₁ : List α} {l₂ : List β} (h : Paired R l₁ l₂) (hs : ∀ a b, R a b → S a b) : Paired S l₁ l₂ := by
  induction h with
  | nil => exact .nil
  | cons r _ ih => exact .cons (hs _ _ r) ih
theorem paired_eqs {α : Type} {l₁ l₂ : List α} (h : Paired (fun a b => b = a) l₁ l₂) : l₂ = l₁ := by
  induction h with
  | nil => rfl
  | cons r _ ih => rw [r, ih]
theorem paired_mem {α β : Type} {R : α → β → Prop} {l₁ : List α} {l₂ : List β} (h : Paired R l₁ l₂) : ∀ a ∈ l₁, ∃ b, R a b := by
  induction h with
  | nil => intro a ha; cases ha
  | cons r _ ih => intro a ha; rcases List.mem_cons.mp ha with rfl | ha; exact ⟨_, r⟩; exact ih a ha
theorem datAll_strs {news : List (Addr × Obj)} {vs : List Value} {xs : List Str} (h : StrsAre vs xs) : DatAll news vs (xs.map Dat.str) := by
  induction h with
  | nil => exact .nil
  | cons y t _ ih => exact .cons (.str y t) ih
theorem map_str_inj {xs ys : List Str} : xs.map Dat.str = ys.map Dat.str ↔ xs = ys := by
  constructor
  · intro h
    induction xs generalizing ys with
    | nil => cases ys with | nil => rfl | cons b r => cases h
    | cons a r ih =>
      cases ys with
      | nil => cases h
      | cons b r' =>
        simp only [List.map_cons, List.cons.injEq, Dat.str.injEq] at h
        rw [h.1, ih h.2]
  · rintro rfl; rfl
theorem filter_yes (l : List Value) : l.filter (fun _ => true) = l := by simp
/-- the test that an item's tuple passes, said of the value -/
noncomputable def vTest (h : Heap) (q : Str × Str × Nat → Bool) (v : Value) : Bool := @decide (∃ i, ItemIs h v i ∧ q i = true) (Classical.propDecidable _)
theorem vTest_is {h : Heap} {q : Str × Str × Nat → Bool} {v : Value} {i : Str × Str × Nat} (a : ItemIs h v i) : vTest h q v = q i := by
  unfold vTest
  cases hq : q i with
  | true => exact (@decide_eq_true _ (Classical.propDecidable _) ⟨i, a, hq⟩)
  | false => exact (@decide_eq_false _ (Classical.propDecidable _) (fun ⟨j, b, e⟩ => by rw [← a.inj b, hq] at e; cases e))
section
variable {w : World} {A : Around} {E : Value → Shared → Prop} {s : Shared} {env : Env} {h₀ : Heap} {L : Addr} {m : Str → Option Value} {iter : PySem.Expr} {pos px p1 p2 p3 p4 p5 p6 p7 : Pos} {k : Nat} {Q : Value → Shared → Prop}
theorem lc_text (_F₀ : Fr h₀ L s.heap m) (X : (hd.heap_1 w.params).In h₀) (hh : A.handled = none) (hs : ∀ x, foldedSetIterable iter env x = pure x)
    (h : wpAny (model Challenge.rw_pb0353_01.row.prog w) A (eval iter env) (fun xv s₁ => Hold (∃ ax ol vs news its, xv = .ref ax ∧ Fr h₀ L s₁.heap m ∧ News h₀ L s₁.heap news ∧ (ax, ol) ∈ news ∧ ListOb ol vs ∧ vs.length ≤ sizeLine ∧ Paired (ItemIs s₁.heap) vs its ∧
      (∀ D oD h' tk ys, ListOb oD ys → Fr h₀ L h' m → News h₀ L h' ((D, oD) :: news) → (∀ q ∈ news, q.1 ≠ D) → StrsAre ys (its.map (·.2.1)) → Q (.ref D) { s₁ with heap := h', toks := tk }))) E s) :
    wpAny (model Challenge.rw_pb0353_01.row.prog w) A (eval (.ListComp (.Attribute (.Name (Str.ofString "item") p1) (Str.ofString "text") p2) [⟨.Name (Str.ofString "item") px, iter, [], 0⟩] (cScope "item") pos) env) Q E s := by
  refine lc_rule (h₀ := h₀) (L := L) (m := m) hh (by decide) (by decide) rfl (by decide) rfl hs (wpAny_mono h (fun xv s₁ h₁ => ?_) fun _ _ e => e)
  obtain ⟨ax, ol, vs, news, its, rfl, H9⟩ := h₁
  have F := H9.1
  have N := H9.2.1
  have hm := H9.2.2.1
  have lo := H9.2.2.2.1
  have hsz := H9.2.2.2.2.1
  have hp := H9.2.2.2.2.2.1
  have hq := H9.2.2.2.2.2.2
  clear H9
  refine ⟨fun _ => true, fun v y => ∀ i, ItemIs s₁.heap v i → ∃ t, y = .str i.2.1 t, ax, ol, vs, news, rfl, F, N, hm, lo, hsz, ?_, ?_, ?_⟩
  · intro C v s₂ m₂ E' hv hn hmv hk
    exact wpAny_tests_nil ⟨rfl, keeps_tok⟩
  · intro C v s₂ m₂ E' hv _ hn hmv hk
    obtain ⟨i, hi⟩ := paired_mem hp v hv
    refine el_text hn hmv (fun a o e => hk a o (F.keep _ _ (X a o e))) (hi.keep hk) fun t => ⟨fun j hj => ?_, keeps_tok⟩
    rw [hj.inj hi]; exact ⟨t, rfl⟩
  · intro D oD h' tk ys ho F' N' hne hy
    rw [filter_yes] at hy
    exact hq D oD h' tk ys ho F' N' hne (paired_strs (f := fun i => i.2.1) (paired_comp hp hy fun a b c r g => g b r))
theorem tests_notin (X : (hd.heap_1 w.params).In s.heap) {C : Addr} {m₂ : Str → Option Value} {v : Value} {i : Str × Str × Nat} (hn : s.heap.Ns C m₂) (hmv : m₂ (Str.ofString "item") = some v) (hi : ItemIs s.heap v i) :
    TestsT Challenge.rw_pb0353_01.row.prog w A [.Compare (.Attribute (.Name (Str.ofString "item") p1) (Str.ofString "kind") p2) [.NotIn] [.Tuple [.Constant (.str (Str.ofString "gap")) 0 p3, .Constant (.str (Str.ofString "remark")) 0 p4] k p5] p6] (compEnv (cScope "item") C env)
      (fun ok s₃ => ok = (!(i.1 == Str.ofString "gap") && !(i.1 == Str.ofString "remark")) ∧ Keeps s s₃) E s := by
  refine wpAny_tests_one (wpAny_isTrue_Compare1 (el_kind hn hmv X hi fun t => Tuple_ (spliced_more (Constant_str (spliced_more (Constant_str (spliced_none ?_)))))))
  refine wpAny_newObj_type (notin_tuple_strs ⟨_, Heap.get?_push_size _ rfl, rfl, _, rfl⟩ (.cons _ _ (.cons _ _ .nil)) (wpAny_truthy_bool ⟨?_, ?_⟩)) (by size_fits)
  · simp only [List.any_cons, List.any_nil, Bool.or_false, Bool.not_or]
    rw [beq_comm' _ i.1, beq_comm' _ i.1]
  · exact ⟨_, _, rfl, fun b o e => Heap.get?_push_of_some _ e⟩
noncomputable def keepK (i : Str × Str × Nat) : Bool := !(i.1 == Str.ofString "gap") && !(i.1 == Str.ofString "remark")
theorem lc_solid (_F₀ : Fr h₀ L s.heap m) (X : (hd.heap_1 w.params).In h₀) (hh : A.handled = none) (hs : ∀ x, foldedSetIterable iter env x = pure x)
    (h : wpAny (model Challenge.rw_pb0353_01.row.prog w) A (eval iter env) (fun xv s₁ => Hold (∃ (ax : Addr) (ol : Obj) (vs : List Value) (news : List (Addr × Obj)) (its : List (Str × Str × Nat)) (R : Value → Str × Str × Nat → Prop), xv = .ref ax ∧ Fr h₀ L s₁.heap m ∧ News h₀ L s₁.heap news ∧ (ax, ol) ∈ news ∧ ListOb ol vs ∧ vs.length ≤ sizeLine ∧ Paired R vs its ∧ (∀ v i, R v i → ItemIs s₁.heap v i) ∧
      (∀ D oD h' tk ys, ListOb oD ys → Fr h₀ L h' m → News h₀ L h' ((D, oD) :: news) → (∀ q ∈ news, q.1 ≠ D) → Paired R ys (its.filter keepK) → Q (.ref D) { s₁ with heap := h', toks := tk }))) E s) :
    wpAny (model Challenge.rw_pb0353_01.row.prog w) A (eval (.ListComp (.Name (Str.ofString "item") p1) [⟨.Name (Str.ofString "item") px, iter, [.Compare (.Attribute (.Name (Str.ofString "item") p2) (Str.ofString "kind") p3) [.NotIn] [.Tuple [.Constant (.str (Str.ofString "gap")) 0 p4, .Constant (.str (Str.ofString "remark")) 0 p5] k p6] p7], 0⟩] (cScope "item") pos) env) Q E s := by
  refine lc_rule (h₀ := h₀) (L := L) (m := m) hh (by decide) (by decide) rfl (by decide) rfl hs (wpAny_mono h (fun xv s₁ h₁ => ?_) fun _ _ e => e)
  obtain ⟨ax, ol, vs, news, its, R, rfl, H9⟩ := h₁
  have F := H9.1
  have N := H9.2.1
  have hm := H9.2.2.1
  have lo := H9.2.2.2.1
  have hsz := H9.2.2.2.2.1
  have hp := H9.2.2.2.2.2.1
  have hR := H9.2.2.2.2.2.2.1
  have hq := H9.2.2.2.2.2.2.2
  clear H9
  refine ⟨vTest s₁.heap keepK, fun v y => y = v, ax, ol, vs, news, rfl, F, N, hm, lo, hsz, ?_, ?_, ?_⟩
  · intro C v s₂ m₂ E' hv hn hmv hk
    obtain ⟨i, hi'⟩ := paired_mem hp v hv
    have hi := hR v i hi'
    rw [vTest_is hi]
    exact tests_notin (fun a o e => hk a o (F.keep _ _ (X a o e))) hn hmv (hi.keep hk)
  · intro C v s₂ m₂ E' hv _ hn hmv hk
    exact el_name hn hmv ⟨rfl, s₂.heap, s₂.toks, rfl, fun _ _ e => e⟩
  · intro D oD h' tk ys ho F' N' hne hy
    refine hq D oD h' tk ys ho F' N' hne ?_
    rw [paired_eqs hy]
    exact paired_filter hp fun a b r => vTest_is (hR a b r)
theorem tests_remark (X : (hd.heap_1 w.params).In s.heap) {C : Addr} {m₂ : Str → Option Value} {v : Value} {i : Str × Str × Nat} (hn : s.heap.Ns C m₂) (hmv : m₂ (Str.ofString "item") = some v) (hi : ItemIs s.heap v i) :
    TestsT Challenge.rw_pb0353_01.row.prog w A [.Compare (.Attribute (.Name (Str.ofString "item") p1) (Str.ofString "kind") p2) [.Eq] [.Constant (.str (Str.ofString "remark")) 0 p3] p6] (compEnv (cScope "item") C env)
      (fun ok s₃ => ok = (i.1 == Str.ofString "remark") ∧ Keeps s s₃) E s :=
  wpAny_tests_one (wpAny_isTrue_Compare1 (el_kind hn hmv X hi fun t => Constant_str (PyProof.Rows.eq_str (wpAny_truthy_bool ⟨rfl, ⟨_, _, rfl, fun b o e => e⟩⟩))))
noncomputable def remK (i : Str × Str × Nat) : Bool := i.1 == Str.ofString "remark"
theorem lc_remarks (_F₀ : Fr h₀ L s.heap m) (X : (hd.heap_1 w.params).In h₀) (hh : A.handled = none) (hs : ∀ x, foldedSetIterable iter env x = pure x)
    (h : wpAny (model Challenge.rw_pb0353_01.row.prog w) A (eval iter env) (fun xv s₁ => Hold (∃ ax ol vs news its, xv = .ref ax ∧ Fr h₀ L s₁.heap m ∧ News h₀ L s₁.heap news ∧ (ax, ol) ∈ news ∧ ListOb ol vs ∧ vs.length ≤ sizeLine ∧ Paired (ItemIs s₁.heap) vs its ∧
      (∀ D oD h' tk ys, ListOb oD ys → Fr h₀ L h' m → News h₀ L h' ((D, oD) :: news) → (∀ q ∈ news, q.1 ≠ D) → StrsAre ys ((its.filter remK).map (·.2.1)) → Q (.ref D) { s₁ with heap := h', toks := tk }))) E s) :
    wpAny (model Challenge.rw_pb0353_01.row.prog w) A (eval (.ListComp (.Attribute (.Name (Str.ofString "item") p1) (Str.ofString "text") p2) [⟨.Name (Str.ofString "item") px, iter, [.Compare (.Attribute (.Name (Str.ofString "item") p3) (Str.ofString "kind") p4) [.Eq] [.Constant (.str (Str.ofString "remark")) 0 p5] p6], 0⟩] (cScope "item") pos) env) Q E s := by
  refine lc_rule (h₀ := h₀) (L := L) (m := m) hh (by decide) (by decide) rfl (by decide) rfl hs (wpAny_mono h (fun xv s₁ h₁ => ?_) fun _ _ e => e)
  obtain ⟨ax, ol, vs, news, its, rfl, H9⟩ := h₁
  have F := H9.1
  have N := H9.2.1
  have hm := H9.2.2.1
  have lo := H9.2.2.2.1
  have hsz := H9.2.2.2.2.1
  have hp := H9.2.2.2.2.2.1
  have hq := H9.2.2.2.2.2.2
  clear H9
  refine ⟨vTest s₁.heap remK, fun v y => ∀ i, ItemIs s₁.heap v i → ∃ t, y = .str i.2.1 t, ax, ol, vs, news, rfl, F, N, hm, lo, hsz, ?_, ?_, ?_⟩
  · intro C v s₂ m₂ E' hv hn hmv hk
    obtain ⟨i, hi⟩ := paired_mem hp v hv
    rw [vTest_is hi]
    exact tests_remark (fun a o e => hk a o (F.keep _ _ (X a o e))) hn hmv (hi.keep hk)
  · intro C v s₂ m₂ E' hv _ hn hmv hk
    obtain ⟨i, hi⟩ := paired_mem hp v hv
    refine el_text hn hmv (fun a o e => hk a o (F.keep _ _ (X a o e))) (hi.keep hk) fun t => ⟨fun j hj => ?_, keeps_tok⟩
    rw [hj.inj hi]; exact ⟨t, rfl⟩
  · intro D oD h' tk ys ho F' N' hne hy
    exact hq D oD h' tk ys ho F' N' hne (paired_strs (f := fun i => i.2.1) (paired_comp (paired_filter hp fun a b r => vTest_is r) hy fun a b c r g => g b r))
theorem lc_text_assign {y : Str} {py spos : Pos} {Qf : Flow → Shared → Prop} (_F₀ : Fr h₀ L s.heap m) (X : (hd.heap_1 w.params).In h₀) (hh : A.handled = none) (hs : ∀ x, foldedSetIterable iter env x = pure x)
    (hsw : swapsWith (.ListComp (.Attribute (.Name (Str.ofString "item") p1) (Str.ofString "text") p2) [⟨.Name (Str.ofString "item") px, iter, [], 0⟩] (cScope "item") pos) (some (.Name y py)) spos.line env = pure true)
    (hL : env.locals = L) (hy : env.kindOf y = some .local) (hek : env.scope.kind = .function)
    (h : wpAny (model Challenge.rw_pb0353_01.row.prog w) A (eval iter env) (fun xv s₁ => Hold (∃ ax ol vs news its, xv = .ref ax ∧ Fr h₀ L s₁.heap m ∧ News h₀ L s₁.heap news ∧ (ax, ol) ∈ news ∧ ListOb ol vs ∧ vs.length ≤ sizeLine ∧ Paired (ItemIs s₁.heap) vs its ∧
      (∀ D oD h' tk ys, ListOb oD ys → Fr h₀ L h' (fun z => if z = y then some (.ref D) else m z) → News h₀ L h' ((D, oD) :: news) → (∀ q ∈ news, q.1 ≠ D) → StrsAre ys (its.map (·.2.1)) → Qf .next { s₁ with heap := h', toks := tk }))) E s) :
    wpAny (model Challenge.rw_pb0353_01.row.prog w) A (exec (.Assign [.Name y py] (.ListComp (.Attribute (.Name (Str.ofString "item") p1) (Str.ofString "text") p2) [⟨.Name (Str.ofString "item") px, iter, [], 0⟩] (cScope "item") pos) spos) env) Qf E s := by
  refine lc_assign (h₀ := h₀) (L := L) (m := m) hsw hL hy hek hh (by decide) (by decide) rfl (by decide) rfl hs (wpAny_mono h (fun xv s₁ h₁ => ?_) fun _ _ e => e)
  obtain ⟨ax, ol, vs, news, its, rfl, H9⟩ := h₁
  have F := H9.1
  have N := H9.2.1
  have hm := H9.2.2.1
  have lo := H9.2.2.2.1
  have hsz := H9.2.2.2.2.1
  have hp := H9.2.2.2.2.2.1
  have hq := H9.2.2.2.2.2.2
  clear H9
  refine ⟨fun _ => true, fun v y => ∀ i, ItemIs s₁.heap v i → ∃ t, y = .str i.2.1 t, ax, ol, vs, news, rfl, F, N, hm, lo, hsz, ?_, ?_, ?_⟩
  · intro C v s₂ m₂ E' hv hn hmv hk
    exact wpAny_tests_nil ⟨rfl, keeps_tok⟩
  · intro C v s₂ m₂ E' hv _ hn hmv hk
    obtain ⟨i, hi⟩ := paired_mem hp v hv
    refine el_text hn hmv (fun a o e => hk a o (F.keep _ _ (X a o e))) (hi.keep hk) fun t => ⟨fun j hj => ?_, keeps_tok⟩
    rw [hj.inj hi]; exact ⟨t, rfl⟩
  · intro D oD h' tk ys ho F' N' hne hy
    rw [filter_yes] at hy
    exact hq D oD h' tk ys ho F' N' hne (paired_strs (f := fun i => i.2.1) (paired_comp hp hy fun a b c r g => g b r))
end
end
section
open PySem PySem.W PyProof.Rows PySem.Spec PySem.Calls
/-- a turn's end of a for loop whose ledger may grow -/
noncomputable def GEnd {σ : Type} (h₀ : Heap) (L : Addr) (Led : σ → List (Addr × Obj)) (ps : σ → List (Str × Value)) (x : Str) (stored : List Str) (m₀ : Str → Option Value) (P : Nat → σ → Prop) (I : Addr) (o : Obj) (i : Nat) (s₁ s₂ : Shared) : Prop :=
  ∃ c' h' tk m' news', s₂ = { s₁ with heap := h', toks := tk } ∧ Fr h₀ L h' m' ∧ News h₀ L h' news' ∧ (∀ p ∈ Led c', p ∈ news') ∧ (I, o) ∈ news' ∧ (∀ p ∈ Led c', p.1 ≠ I) ∧
    (∀ p ∈ ps c', m' p.1 = some p.2) ∧ (∀ z, z ≠ x → (∀ p ∈ ps c', z ≠ p.1) → stored.contains z = false → m' z = m₀ z) ∧ P i c'
noncomputable def GPost {σ : Type} (h₀ : Heap) (L : Addr) (Led : σ → List (Addr × Obj)) (ps : σ → List (Str × Value)) (x : Str) (stored : List Str) (m₀ : Str → Option Value) (P : Nat → σ → Prop) (I : Addr) (o : Obj) (i : Nat) (s₁ : Shared) (Q : Flow → Shared → Prop) (f : Flow) (s₂ : Shared) : Prop :=
  match f with
  | .ret v => Q (.ret v) s₂
  | .brk => Q .next s₂
  | _ => GEnd h₀ L Led ps x stored m₀ P I o i s₁ s₂
theorem GEnd.intro {σ : Type} {h₀ : Heap} {L : Addr} {Led : σ → List (Addr × Obj)} {ps : σ → List (Str × Value)} {x : Str} {stored : List Str} {m₀ : Str → Option Value} {P : Nat → σ → Prop} {I : Addr} {o : Obj} {i : Nat} {s₁ : Shared} {h' : Heap} {tk : Nat} {m' : Str → Option Value} {news' : List (Addr × Obj)} (c' : σ)
    (F : Fr h₀ L h' m') (N : News h₀ L h' news') (h1 : ∀ p ∈ Led c', p ∈ news') (h2 : (I, o) ∈ news') (h3 : ∀ p ∈ Led c', p.1 ≠ I) (h4 : ∀ p ∈ ps c', m' p.1 = some p.2) (h5 : ∀ z, z ≠ x → (∀ p ∈ ps c', z ≠ p.1) → stored.contains z = false → m' z = m₀ z) (h6 : P i c') :
    GEnd h₀ L Led ps x stored m₀ P I o i s₁ { s₁ with heap := h', toks := tk } := ⟨c', h', tk, m', news', rfl, F, N, h1, h2, h3, h4, h5, h6⟩
section
variable {prog : Program} {w : World} {A : Around} {E : Value → Shared → Prop} {s : Shared} {env : Env} {h₀ : Heap} {x : Str} {body : List Stmt} {Q : Flow → Shared → Prop}
theorem loop_g {σ : Type} {I : Addr} {fp : List Addr} {n : Nat} {Pv : Nat → Value → Prop} {St : Nat → Heap → Prop} {m₀ : Str → Option Value} (Led : σ → List (Addr × Obj)) (ps : σ → List (Str × Value)) (stored : List Str) (P : Nat → σ → Prop) (c₀ : σ) (keep : List (Addr × Obj))
    (W : Walks prog w A I fp [I] n Pv St) (hfp : fp = I :: keep.map (·.1)) (hkeep : ∀ c : σ, ∀ p ∈ keep, p ∈ Led c) (hst : ∀ i h, St i h → ∃ o, h.get? I = some o) (hI : h₀.get? I = none) (hLf : env.locals ∉ fp) (h0 : ∀ p ∈ Led c₀, p.1 ≠ I) (hst0 : St 0 s.heap)
    (F : Fr h₀ env.locals s.heap m₀) (N : News h₀ env.locals s.heap (Led c₀)) (hk : ∀ p ∈ ps c₀, m₀ p.1 = some p.2) (hp : P 0 c₀)
    (turn : ∀ (c : σ) i v (u : Str → Option Value) h tk o, i < n → Pv i v → (∀ p ∈ Led c, p.1 ≠ I) → P i c →
      Fr h₀ env.locals h (fun y => if y = x then some v else kstB (fun z => if stored.contains z then u z else m₀ z) (ps c) y) → News h₀ env.locals h (Led c ++ [(I, o)]) →
      wpAny (model prog w) A (execs body env) (GPost h₀ env.locals Led ps x stored m₀ P I o (i + 1) { s with heap := h, toks := tk } Q) E { s with heap := h, toks := tk })
    (done : ∀ (c : σ) (u : Str → Option Value) h tk, P n c → Fr h₀ env.locals h (fun y => if y = x then u y else kstB (fun z => if stored.contains z then u z else m₀ z) (ps c) y) → News h₀ env.locals h (Led c) → Q .next { s with heap := h, toks := tk }) :
    LoopAtV prog w A h₀ env x body Q E (.ref I) s := by
  refine ⟨I, fp, [I], n, Pv, St, m₀, Led c₀, (fun i m nx => ∃ c : σ, nx = Led c ∧ (∀ p ∈ ps c, m p.1 = some p.2) ∧ (∀ z, z ≠ x → (∀ p ∈ ps c, z ≠ p.1) → stored.contains z = false → m z = m₀ z) ∧ P i c), rfl, W, hLf, ?_, ?_, hst0, F, N, ⟨c₀, rfl, hk, fun _ _ _ _ => rfl, hp⟩, ?_, ?_⟩
  · intro b hb; rw [List.mem_singleton.mp hb]; exact hI
  · intro p hp' hm; exact h0 p hp' (List.mem_singleton.mp hm)
  · rintro i v m₁ news₁ s₁ own ⟨hh', tk', rfl⟩ hin hP ⟨c, rfl, h1, h2, hJ⟩ hoff hofp hget hown hst₁ F₁ N₁
    obtain ⟨o, ho⟩ := hst _ _ hst₁
    have hIo : (I, o) ∈ own := hown I (by rw [hfp]; exact .head _) hI o ho
    have hne : ∀ p ∈ Led c, p.1 ≠ I := fun p hp' e => hoff p hp' (by rw [e]; exact .head _)
    refine wpAny_mono (turn c i v m₁ hh' tk' o hin hP hne hJ (kst_fr h1 h2 F₁) (fun p hp' => ?_)) (fun f s₂ q => ?_) fun _ _ e => e
    · rcases List.mem_append.mp hp' with hp' | hp'
      · exact N₁ p (List.mem_append_right _ hp')
      · rw [List.mem_singleton.mp hp']; exact N₁ _ (List.mem_append_left _ hIo)
    have fin : GEnd h₀ env.locals Led ps x stored m₀ P I o (i + 1) { s with heap := hh', toks := tk' } s₂ → LoopStepU h₀ env.locals [I] own (fun m nx => ∃ c : σ, nx = Led c ∧ (∀ p ∈ ps c, m p.1 = some p.2) ∧ (∀ z, z ≠ x → (∀ p ∈ ps c, z ≠ p.1) → stored.contains z = false → m z = m₀ z) ∧ P (i + 1) c) { s with heap := hh', toks := tk' } .next s₂ := by
      rintro ⟨c', h', tk, m', news', rfl, H9⟩
      have F' := H9.1
      have N' := H9.2.1
      have hn := H9.2.2.1
      have ho' := H9.2.2.2.1
      have ha := H9.2.2.2.2.1
      have k1 := H9.2.2.2.2.2.1
      have k2 := H9.2.2.2.2.2.2.1
      have hm := H9.2.2.2.2.2.2.2
      clear H9
      refine ⟨rfl, h', tk, m', Led c', rfl, F', fun p hp' => ?_, fun p hp' hq => ha p hp' (List.mem_singleton.mp hq), c', rfl, k1, k2, hm⟩
      rcases List.mem_append.mp hp' with hp' | hp'
      · have e1 := hofp p hp'
        rw [hfp] at e1
        rcases List.mem_cons.mp e1 with e | e
        · have e2 := hget p hp'
          rw [e] at e2
          have e3 : o = p.2 := Option.some.inj (ho.symm.trans e2)
          have e4 : p = (I, o) := by rw [e3, ← e]
          rw [e4]; exact N' _ ho'
        · obtain ⟨q, hq1, hq2⟩ := List.mem_map.mp e
          have e2 := hget p hp'
          have e3 := (N₁ q (List.mem_append_right _ (hkeep c q hq1))).1
          rw [hq2] at e3
          have e4 : p = q := by
            obtain ⟨p1, p2⟩ := p; obtain ⟨q1, q2⟩ := q
            simp only at hq2 e2 e3
            rw [← hq2] at e2 e3
            rw [hq2.symm, Option.some.inj (e2.symm.trans e3)]
          rw [e4]
          exact N' _ (hn _ (hkeep c' q hq1))
      · exact N' _ (hn p hp')
    cases f with
    | ret v => exact .ret q
    | brk => exact .brk q
    | next => exact .next (fin q)
    | cont => exact .cont (fin q)
  · rintro h' tk m' news' F' N' _ ⟨c, rfl, h1, h2, hJ⟩
    exact done c m' h' tk hJ (kst_frOut h1 h2 F') N'
theorem for_list {σ : Type} {l : Addr} {ol : Obj} {vs : List Value} {m₀ : Str → Option Value} (Led : σ → List (Addr × Obj)) (ps : σ → List (Str × Value)) (stored : List Str) (P : Nat → σ → Prop) (c₀ : σ)
    (hh : A.handled = none) (lo : ListOb ol vs) (hl : ∀ c : σ, (l, ol) ∈ Led c) (F : Fr h₀ env.locals s.heap m₀) (N : News h₀ env.locals s.heap (Led c₀)) (hk : ∀ p ∈ ps c₀, m₀ p.1 = some p.2) (hp : P 0 c₀)
    (turn : ∀ (c : σ) i v (u : Str → Option Value) h tk I o, vs[i]? = some v → (∀ p ∈ Led c, p.1 ≠ I) → P i c →
      Fr h₀ env.locals h (fun y => if y = x then some v else kstB (fun z => if stored.contains z then u z else m₀ z) (ps c) y) → News h₀ env.locals h (Led c ++ [(I, o)]) →
      wpAny (model prog w) A (execs body env) (GPost h₀ env.locals Led ps x stored m₀ P I o (i + 1) { s with heap := h, toks := tk } Q) E { s with heap := h, toks := tk })
    (done : ∀ (c : σ) (u : Str → Option Value) h tk, P vs.length c → Fr h₀ env.locals h (fun y => if y = x then u y else kstB (fun z => if stored.contains z then u z else m₀ z) (ps c) y) → News h₀ env.locals h (Led c) → Q .next { s with heap := h, toks := tk }) :
    wpAny (model prog w) A (pyIter (.ref l)) (fun it s₂ => LoopAtV prog w A h₀ env x body Q E it s₂) E s := by
  have hol := (N _ (hl c₀)).1
  have hls : s.heap.IsList l vs.toArray := lo.isList hol
  have hne : l ≠ s.heap.objs.size := Nat.ne_of_lt (Heap.lt_size hol)
  refine wpAny_pyIter_list hls ?_
  have W := Walks.list (prog := prog) (w := w) hh s.heap.objs.size l hne vs.toArray
  refine loop_g (s := { s with heap := s.heap.push { cls := .type "list_iterator", data := .fields #[.ref l, .int 0 0] } }) Led ps stored P c₀ [(l, ol)] W rfl (fun c p hp' => by rw [List.mem_singleton.mp hp']; exact hl c) (fun i h hs => ?_) (next_is_new F) ?_ ?_
    ⟨⟨_, Heap.get?_push_size _ rfl, rfl, rfl⟩, hls.at fun o e => Heap.get?_push_of_some _ e⟩ (F.push _) (fun p hp => ⟨Heap.get?_push_of_some _ (N p hp).1, (N p hp).2⟩) hk hp ?_ ?_
  · obtain ⟨⟨o, ho, _⟩, _⟩ := hs
    exact ⟨o, ho⟩
  · intro hm
    rcases List.mem_cons.mp hm with e | hm
    · exact absurd F.ns.lt (e ▸ Nat.lt_irrefl _)
    · exact (N _ (hl c₀)).2.1 ((List.mem_singleton.mp hm).symm)
  · intro p hp' e
    exact absurd (Heap.lt_size (N p hp').1) (e ▸ Nat.lt_irrefl _)
  · intro c i v u h tk o hi hv hne' hP F' N'
    exact turn c i v u h tk _ o (by simpa using hv) hne' hP F' N'
  · intro c u h tk hP F' N'
    rw [List.size_toArray] at hP
    exact done c u h tk hP F' N'
theorem for_range {σ : Type} {r : Addr} {a₀ b₀ : Int} {t₀ u₀ v₀ : Tok} {n : Nat} {m₀ : Str → Option Value} (Led : σ → List (Addr × Obj)) (ps : σ → List (Str × Value)) (stored : List Str) (P : Nat → σ → Prop) (c₀ : σ)
    (hh : A.handled = none) (hr : IsRange s.heap r a₀ b₀ 1 t₀ u₀ v₀) (hsmall : Builtin.Range.small a₀ b₀ 1 = true) (hn : Builtin.Range.rangeSize a₀ b₀ 1 = (n : Int)) (F : Fr h₀ env.locals s.heap m₀) (N : News h₀ env.locals s.heap (Led c₀)) (hk : ∀ p ∈ ps c₀, m₀ p.1 = some p.2) (hp : P 0 c₀)
    (turn : ∀ (c : σ) (i : Nat) t (u : Str → Option Value) h tk I o, i < n → (∀ p ∈ Led c, p.1 ≠ I) → P i c →
      Fr h₀ env.locals h (fun y => if y = x then some (.int (a₀ + (i : Int)) t) else kstB (fun z => if stored.contains z then u z else m₀ z) (ps c) y) → News h₀ env.locals h (Led c ++ [(I, o)]) →
      wpAny (model prog w) A (execs body env) (GPost h₀ env.locals Led ps x stored m₀ P I o (i + 1) { s with heap := h, toks := tk } Q) E { s with heap := h, toks := tk })
    (done : ∀ (c : σ) (u : Str → Option Value) h tk, P n c → Fr h₀ env.locals h (fun y => if y = x then u y else kstB (fun z => if stored.contains z then u z else m₀ z) (ps c) y) → News h₀ env.locals h (Led c) → Q .next { s with heap := h, toks := tk }) :
    wpAny (model prog w) A (pyIter (.ref r)) (fun it s₂ => LoopAtV prog w A h₀ env x body Q E it s₂) E s := by
  refine wpAny_pyIter_range hr hsmall ?_
  have W := Walks.range (prog := prog) (w := w) (A := A) hh s.heap.objs.size a₀ 1 n
  refine loop_g (s := { s with heap := s.heap.push { cls := .type "range_iterator", data := .fields #[rawInt a₀, rawInt (Builtin.Range.rangeSize a₀ b₀ 1), rawInt 1] } }) Led ps stored P c₀ [] W rfl (fun c p hp' => nomatch hp') (fun i h hs => ⟨_, hs⟩) (next_is_new F) ?_ ?_
    (by show IsRangeIter _ _ _ _ _; rw [hn]; simpa using Heap.get?_push_size _ rfl) (F.push _) (fun p hp => ⟨Heap.get?_push_of_some _ (N p hp).1, (N p hp).2⟩) hk hp ?_ ?_
  · intro hm
    exact absurd F.ns.lt ((List.mem_singleton.mp hm) ▸ Nat.lt_irrefl _)
  · intro p hp' e
    exact absurd (Heap.lt_size (N p hp').1) (e ▸ Nat.lt_irrefl _)
  · intro c i v u h tk o hi hv hne' hP F' N'
    obtain ⟨t, rfl⟩ := hv
    rw [Int.mul_one] at *
    exact turn c i t u h tk _ o hi hne' hP F' N'
  · intro c u h tk hP F' N'
    exact done c u h tk hP F' N'
end
end
theorem rst_M4 : Hold True := by (w_top off); first | walk1 | exact True.intro
theorem warm_M4 : ∀ P, (Challenge.rw_pb0353_01, hd.heap_1 P) = (Challenge.rw_pb0353_01, hd.heap_1 P) := by k_fill; intro P; rfl
local macro_rules | `(tactic| walk_at "eval ListComp") => `(tactic| refine Hold.out ?_)
namespace joined_sp_at
noncomputable def St (l : Addr) (ol : Obj) (vs : List Value) (objs : List (Addr × Obj)) (its : List (Str × Str × Nat)) : Prop := ∀ (lo : ListOb ol vs) (hA : ItemsAre objs vs its) (hz : its.length ≤ 1048576) (hw : ((its.map (·.2.1)).map (·.length)).sum + (its.map (·.2.1)).length * 64 ≤ 16777216), Sp 286 3 24 ((l, ol) :: objs) [.ref l] (fun v o => o = (l, ol) :: objs ∧ ∃ t, v = .str (Txt.join (Str.ofString "") (its.map (·.2.1))) t)
noncomputable def Pz (z : (Addr) × (Obj) × (List Value) × (List (Addr × Obj)) × (List (Str × Str × Nat))) : Prop := St (z.1) (z.2.1) (z.2.2.1) (z.2.2.2.1) (z.2.2.2.2)
theorem ne : Nonempty ((Addr) × (Obj) × (List Value) × (List (Addr × Obj)) × (List (Str × Str × Nat))) := ⟨(default, default, default, default, default)⟩
noncomputable def z : (Addr) × (Obj) × (List Value) × (List (Addr × Obj)) × (List (Str × Str × Nat)) := ec ne Pz
@[irreducible] noncomputable def l : Addr := z.1
@[irreducible] noncomputable def ol : Obj := z.2.1
@[irreducible] noncomputable def vs : List Value := z.2.2.1
@[irreducible] noncomputable def objs : List (Addr × Obj) := z.2.2.2.1
@[irreducible] noncomputable def its : List (Str × Str × Nat) := z.2.2.2.2
@[irreducible] noncomputable def cx : Ctx := fctx 286 3 24 ((l, ol) :: objs) [.ref l] (fun v o => o = (l, ol) :: objs ∧ ∃ t, v = .str (Txt.join (Str.ofString "") (its.map (·.2.1))) t)
theorem main : St l ol vs objs its := by
  intro lo hA hz hw
  refine' sp_at cx (by with_unfolding_all rfl) [(Str.ofString "items", .ref l)] ?k6 ?k7 ?k9 ?kB ?c2 ?c3 ?c4 ?c5 ?_
  (((case k6 => intro P; k_is); (case k7 => intro P; k_is); (case kB => exact rfl); (case c2 => exact rfl); (case c3 => exact rfl); (case c4 => exact rfl); (case c5 => decide)); (case k9 => exact rfl); unfold BdC; intros; (try dsimp only); (try k_fold))
  walk_at "steps"
  (rename Fr _ _ _ _ => F0)
  (rename News _ _ _ _ => N0)
  refine lc_text F0 (by assumption) rfl (by intro _; rfl) ?_
  (try k_fold)
  walk_at "steps"
  refine ⟨l, ol, vs, (l, ol) :: objs, its, rfl, by assumption, by assumption, .head _, lo, ?_, hA.paired ?_, ?_⟩
  · rw [hA.length, sizeLine_eq]; omega
  · intro p hp; exact (N0 p (.tail _ hp)).1
  intro D oD h' tk ys ho F' N' hne hy
  (try dsimp only); (try k_fold)
  walk_at "steps"
  refine join_listC (ho.isList (N' _ (.head _)).1) hy (by decide) hw ?_
  intro t' k
  (try dsimp only); (try k_fold)
  walk_at "steps"
  exact Ret.intro F' (fun p hp => N' p (.tail _ hp)) ⟨rfl, _, rfl⟩
end joined_sp_at
theorem joined_sp (l : Addr) (ol : Obj) (vs : List Value) (objs : List (Addr × Obj)) (its : List (Str × Str × Nat)) (lo : ListOb ol vs) (hA : ItemsAre objs vs its) (hz : its.length ≤ 1048576) (hw : ((its.map (·.2.1)).map (·.length)).sum + (its.map (·.2.1)).length * 64 ≤ 16777216) : Sp 286 3 24 ((l, ol) :: objs) [.ref l] (fun v o => o = (l, ol) :: objs ∧ ∃ t, v = .str (Txt.join (Str.ofString "") (its.map (·.2.1))) t) := by
  have h9 : joined_sp_at.Pz (ec joined_sp_at.ne joined_sp_at.Pz) := by with_unfolding_all exact joined_sp_at.main
  exact eps joined_sp_at.ne h9 (l, ol, vs, objs, its) lo hA hz hw
namespace solid_sp_at
noncomputable def St (l : Addr) (ol : Obj) (vs : List Value) (objs : List (Addr × Obj)) (its : List (Str × Str × Nat)) : Prop := ∀ (lo : ListOb ol vs) (hA : ItemsAre objs vs its) (hz : its.length ≤ 1048576), Sp 291 3 24 ((l, ol) :: objs) [.ref l] (fun v o => ∃ D oD ys, v = .ref D ∧ o = (D, oD) :: (l, ol) :: objs ∧ ListOb oD ys ∧ ItemsAre objs ys (its.filter keepK) ∧ ∀ q ∈ (l, ol) :: objs, q.1 ≠ D)
noncomputable def Pz (z : (Addr) × (Obj) × (List Value) × (List (Addr × Obj)) × (List (Str × Str × Nat))) : Prop := St (z.1) (z.2.1) (z.2.2.1) (z.2.2.2.1) (z.2.2.2.2)
theorem ne : Nonempty ((Addr) × (Obj) × (List Value) × (List (Addr × Obj)) × (List (Str × Str × Nat))) := ⟨(default, default, default, default, default)⟩
noncomputable def z : (Addr) × (Obj) × (List Value) × (List (Addr × Obj)) × (List (Str × Str × Nat)) := ec ne Pz
@[irreducible] noncomputable def l : Addr := z.1
@[irreducible] noncomputable def ol : Obj := z.2.1
@[irreducible] noncomputable def vs : List Value := z.2.2.1
@[irreducible] noncomputable def objs : List (Addr × Obj) := z.2.2.2.1
@[irreducible] noncomputable def its : List (Str × Str × Nat) := z.2.2.2.2
@[irreducible] noncomputable def cx : Ctx := fctx 291 3 24 ((l, ol) :: objs) [.ref l] (fun v o => ∃ D oD ys, v = .ref D ∧ o = (D, oD) :: (l, ol) :: objs ∧ ListOb oD ys ∧ ItemsAre objs ys (its.filter keepK) ∧ ∀ q ∈ (l, ol) :: objs, q.1 ≠ D)
theorem main : St l ol vs objs its := by
  intro lo hA hz
  refine' sp_at cx (by with_unfolding_all rfl) [(Str.ofString "items", .ref l)] ?k6 ?k7 ?k9 ?kB ?c2 ?c3 ?c4 ?c5 ?_
  (((case k6 => intro P; k_is); (case k7 => intro P; k_is); (case kB => exact rfl); (case c2 => exact rfl); (case c3 => exact rfl); (case c4 => exact rfl); (case c5 => decide)); (case k9 => exact rfl); unfold BdC; intros; (try dsimp only); (try k_fold))
  walk_at "steps"
  (rename Fr _ _ _ _ => F0)
  (rename News _ _ _ _ => N0)
  refine lc_solid F0 (by assumption) rfl (by intro _; rfl) ?_
  (try k_fold)
  walk_at "steps"
  refine ⟨l, ol, vs, (l, ol) :: objs, its, ItemIn objs, rfl, by assumption, by assumption, .head _, lo, ?_, hA.pairedIn, fun v i r => r.is fun p hp => (N0 p (.tail _ hp)).1, ?_⟩
  · rw [hA.length, sizeLine_eq]; omega
  intro D oD h' tk ys ho F' N' hne hy
  (try dsimp only); (try k_fold)
  walk_at "steps"
  exact Ret.intro F' N' ⟨D, oD, ys, rfl, rfl, ho, items_of_paired hy, hne⟩
end solid_sp_at
theorem solid_sp (l : Addr) (ol : Obj) (vs : List Value) (objs : List (Addr × Obj)) (its : List (Str × Str × Nat)) (lo : ListOb ol vs) (hA : ItemsAre objs vs its) (hz : its.length ≤ 1048576) : Sp 291 3 24 ((l, ol) :: objs) [.ref l] (fun v o => ∃ D oD ys, v = .ref D ∧ o = (D, oD) :: (l, ol) :: objs ∧ ListOb oD ys ∧ ItemsAre objs ys (its.filter keepK) ∧ ∀ q ∈ (l, ol) :: objs, q.1 ≠ D) := by
  have h9 : solid_sp_at.Pz (ec solid_sp_at.ne solid_sp_at.Pz) := by with_unfolding_all exact solid_sp_at.main
  exact eps solid_sp_at.ne h9 (l, ol, vs, objs, its) lo hA hz
namespace remarks_of_sp_at
noncomputable def St (x : Str) (t : Tok) (its : List (Str × Str × Nat)) : Prop := ∀ (hx : x.length ≤ 1048576) (hI : Items x 0 its) (hz : its.length ≤ 1048576), Sp 301 10 100 [] [.str x t] (fun v o => ∃ D oD ys, v = .ref D ∧ o = [(D, oD)] ∧ ListOb oD ys ∧ StrsAre ys ((its.filter remK).map (·.2.1)))
noncomputable def Pz (z : (Str) × (Tok) × (List (Str × Str × Nat))) : Prop := St (z.1) (z.2.1) (z.2.2)
theorem ne : Nonempty ((Str) × (Tok) × (List (Str × Str × Nat))) := ⟨(default, default, default)⟩
noncomputable def z : (Str) × (Tok) × (List (Str × Str × Nat)) := ec ne Pz
@[irreducible] noncomputable def x : Str := z.1
@[irreducible] noncomputable def t : Tok := z.2.1
@[irreducible] noncomputable def its : List (Str × Str × Nat) := z.2.2
@[irreducible] noncomputable def cx : Ctx := fctx 301 10 100 [] [.str x t] (fun v o => ∃ D oD ys, v = .ref D ∧ o = [(D, oD)] ∧ ListOb oD ys ∧ StrsAre ys ((its.filter remK).map (·.2.1)))
theorem main : St x t its := by
  intro hx hI hz
  refine' sp_at cx (by with_unfolding_all rfl) [(Str.ofString "source", .str x t)] ?k6 ?k7 ?k9 ?kB ?c2 ?c3 ?c4 ?c5 ?_
  (((case k6 => intro P; k_is); (case k7 => intro P; k_is); (case kB => exact rfl); (case c2 => exact rfl); (case c3 => exact rfl); (case c4 => exact rfl); (case c5 => decide)); (case k9 => exact rfl); unfold BdC; intros; (try dsimp only); (try k_fold))
  walk_at "steps"
  (rename Fr _ _ _ _ => F0)
  (rename News _ _ _ _ => N0)
  refine lc_remarks F0 (by assumption) rfl (by intro _; rfl) ?_
  (try k_fold)
  walk_at "steps"
  refine Hold.out ?_
  refine' callE4 (source_items_sp x t hx its hI hz) (fun _ _ h => h) ?k1 ?k2 ?k3 ?k4 Pick.nil (fun _ h9 => nomatch h9) ?k5 ?kK ?kd ?ku ?_
  walk_at "use"
  intro l vs ep objs h9 tk9 F9 N9 A9 hA
  (try k_unfold)
  rw [List.append_nil] at N9
  refine ⟨l, _, vs, (l, listOf vs.toArray ep) :: objs, its, rfl, F9, N9, .head _, .of _ _, ?_, hA.paired fun p hp => (N9 p (.tail _ hp)).1, ?_⟩
  · rw [hA.length, sizeLine_eq]; omega
  intro D oD h' tk ys ho F' N' hne hy
  (try dsimp only); (try k_fold)
  walk_at "steps"
  exact Ret.intro F' (fun p hp => N' p (by rw [List.mem_singleton.mp hp]; exact .head _)) ⟨D, oD, ys, rfl, rfl, ho, hy⟩
end remarks_of_sp_at
theorem remarks_of_sp (x : Str) (t : Tok) (hx : x.length ≤ 1048576) (its : List (Str × Str × Nat)) (hI : Items x 0 its) (hz : its.length ≤ 1048576) : Sp 301 10 100 [] [.str x t] (fun v o => ∃ D oD ys, v = .ref D ∧ o = [(D, oD)] ∧ ListOb oD ys ∧ StrsAre ys ((its.filter remK).map (·.2.1))) := by
  have h9 : remarks_of_sp_at.Pz (ec remarks_of_sp_at.ne remarks_of_sp_at.Pz) := by with_unfolding_all exact remarks_of_sp_at.main
  exact eps remarks_of_sp_at.ne h9 (x, t, its) hx hI hz
local macro_rules | `(tactic| walk_at "exec Assign cons ListComp") => `(tactic| refine Hold.out ?_)
namespace same_tokens_sp_at
noncomputable def St (x : Str) (y : Str) (t : Tok) (u : Tok) (its : List (Str × Str × Nat)) (itt : List (Str × Str × Nat)) : Prop := ∀ (hx : x.length ≤ 1048576) (hy : y.length ≤ 1048576) (hI : Items x 0 its) (hJ : Items y 0 itt) (hz : its.length ≤ 1048576) (hzz : itt.length ≤ 1048576) (hok : ∀ i ∈ its, PyData.strOk i.2.1 = true) (hok2 : ∀ i ∈ itt, PyData.strOk i.2.1 = true), Sp 296 10 200 [] [.str x t, .str y u] (fun v o => o = [] ∧ ∃ b, v = .bool b ∧ (b = true ↔ (its.filter keepK).map (·.2.1) = (itt.filter keepK).map (·.2.1)))
noncomputable def Pz (z : (Str) × (Str) × (Tok) × (Tok) × (List (Str × Str × Nat)) × (List (Str × Str × Nat))) : Prop := St (z.1) (z.2.1) (z.2.2.1) (z.2.2.2.1) (z.2.2.2.2.1) (z.2.2.2.2.2)
theorem ne : Nonempty ((Str) × (Str) × (Tok) × (Tok) × (List (Str × Str × Nat)) × (List (Str × Str × Nat))) := ⟨(default, default, default, default, default, default)⟩
noncomputable def z : (Str) × (Str) × (Tok) × (Tok) × (List (Str × Str × Nat)) × (List (Str × Str × Nat)) := ec ne Pz
@[irreducible] noncomputable def x : Str := z.1
@[irreducible] noncomputable def y : Str := z.2.1
@[irreducible] noncomputable def t : Tok := z.2.2.1
@[irreducible] noncomputable def u : Tok := z.2.2.2.1
@[irreducible] noncomputable def its : List (Str × Str × Nat) := z.2.2.2.2.1
@[irreducible] noncomputable def itt : List (Str × Str × Nat) := z.2.2.2.2.2
@[irreducible] noncomputable def cx : Ctx := fctx 296 10 200 [] [.str x t, .str y u] (fun v o => o = [] ∧ ∃ b, v = .bool b ∧ (b = true ↔ (its.filter keepK).map (·.2.1) = (itt.filter keepK).map (·.2.1)))
theorem main : St x y t u its itt := by
  intro hx hy hI hJ hz hzz hok hok2
  refine' sp_at cx (by with_unfolding_all rfl) [(Str.ofString "first", .str x t), (Str.ofString "second", .str y u)] ?k6 ?k7 ?k9 ?kB ?c2 ?c3 ?c4 ?c5 ?_
  (((case k6 => intro P; k_is); (case k7 => intro P; k_is); (case kB => exact rfl); (case c2 => exact rfl); (case c3 => exact rfl); (case c4 => exact rfl); (case c5 => decide)); (case k9 => exact rfl); unfold BdC; intros; (try dsimp only); (try k_fold))
  walk_at "steps"
  refine Hold.out ?_
  (rename Fr _ _ _ _ => F0)
  (rename News _ _ _ _ => N0)
  refine lc_text_assign F0 (by assumption) rfl (by intro _; rfl) (by rfl) rfl rfl rfl ?_
  (try k_fold)
  walk_at "steps"
  refine Hold.out ?_
  refine' callE4 (source_items_sp x t hx its hI hz) (fun _ _ h => h) ?k1 ?k2 ?k3 ?k4 Pick.nil (fun _ h9 => nomatch h9) ?k5 ?kK ?kd ?ku ?_
  walk_at "use"
  intro l vs ep objs h9 tk9 F9 N9 A9 hA
  rw [List.append_nil] at N9
  (try dsimp only); (try k_fold)
  walk_at "steps"
  refine Hold.out ?_
  refine' callE3 (solid_sp l _ vs objs its (.of _ _) hA hz) (fun _ _ h => h) ?k1 ?k2 ?k3 ?k4 Pick.all (fun _ _ _ h9 => nomatch h9) ?k5 ?kK ?kd ?ku ?_
  walk_at "use"
  rintro D oD ys h8 tk8 F8 N8 A8 hS
  have lD := hS.1
  have hD := hS.2.1
  have hne := hS.2.2
  rw [List.append_nil] at N8
  (try k_unfold)
  refine ⟨D, oD, ys, _, its.filter keepK, rfl, F8, N8, .head _, lD, ?_, hD.paired fun p hp => (N8 p (.tail _ (.tail _ hp))).1, ?_⟩
  · rw [hD.length, sizeLine_eq]; have := List.length_filter_le keepK its; omega
  intro D1 oD1 h1 tk1 zs lD1 F1 N1 hne1 hz1
  have N1' := news_sub (news' := [(D1, oD1)]) N1 (fun p hp => by rw [List.mem_singleton.mp hp]; exact .head _)
  clear N1 N8 N9
  (try dsimp only); (try k_fold)
  walk_at "steps"
  refine Hold.out ?_
  (rename Fr _ _ _ _ => F2)
  refine lc_text F2 (by assumption) rfl (by intro _; rfl) ?_
  (try k_fold)
  walk_at "steps"
  refine Hold.out ?_
  refine' callE4 (source_items_sp y u hy itt hJ hzz) (fun _ _ h => h) ?k1 ?k2 ?k3 ?k4 Pick.nil (fun _ h9 => nomatch h9) ?k5 ?kK ?kd ?ku ?_
  walk_at "use"
  intro l2 vs2 ep2 objs2 h9 tk9 F9 N9 A9 hA2
  (try dsimp only); (try k_fold)
  walk_at "steps"
  refine Hold.out ?_
  refine' callE3 (solid_sp l2 _ vs2 objs2 itt (.of _ _) hA2 hzz) (fun _ _ h => h) ?k1 ?k2 ?k3 ?k4 Pick.app A9 ?k5 ?kK ?kd ?ku ?_
  walk_at "use"
  intro D2 oD2 ys2 h8 tk8 F8 N8 A8 hS2
  have lD2 := hS2.1
  have hD2 := hS2.2.1
  have hne2 := hS2.2.2
  (try k_unfold)
  refine ⟨D2, oD2, ys2, _, itt.filter keepK, rfl, F8, N8, .head _, lD2, ?_, hD2.paired fun p hp => (N8 p (.tail _ (.tail _ (List.mem_append_left _ hp)))).1, ?_⟩
  · rw [hD2.length, sizeLine_eq]; have := List.length_filter_le keepK itt; omega
  intro D3 oD3 h3 tk3 zs3 lD3 F3 N3 hne3 hz3
  have N3' := news_sub (news' := [(D3, oD3), (D1, oD1)]) N3 (fun p hp => by
    rcases List.mem_cons.mp hp with rfl | hp
    · exact .head _
    · rw [List.mem_singleton.mp hp]
      exact .tail _ (.tail _ (.tail _ (List.mem_append_right _ (.head _)))))
  clear N3 N8 N9
  (try dsimp only); (try k_fold)
  walk_at "steps"
  refine kqd_eq N3' (.tail _ (.head _)) lD1.1 lD1.2.choose_spec (datAll_strs hz1) (fun _ h => h) (.head _) lD3.1 lD3.2.choose_spec (datAll_strs hz3) (fun _ h => h) ?_ ?_ (by dsimp only [ktrTop, Around.deeper]; omega) ?_
  · intro d hd
    obtain ⟨x', hx', rfl⟩ := List.mem_map.mp hd
    obtain ⟨i, hi, rfl⟩ := List.mem_map.mp hx'
    exact hok i (List.mem_filter.mp hi).1
  · intro d hd
    obtain ⟨x', hx', rfl⟩ := List.mem_map.mp hd
    obtain ⟨i, hi, rfl⟩ := List.mem_map.mp hx'
    exact hok2 i (List.mem_filter.mp hi).1
  (try dsimp only); (try k_fold)
  walk_at "steps"
  refine Ret.intro (by assumption) News.nil ⟨rfl, _, rfl, ?_⟩
  exact (@decide_eq_true_iff _ (_)).trans map_str_inj
end same_tokens_sp_at
theorem same_tokens_sp (x y : Str) (t u : Tok) (hx : x.length ≤ 1048576) (hy : y.length ≤ 1048576) (its itt : List (Str × Str × Nat)) (hI : Items x 0 its) (hJ : Items y 0 itt) (hz : its.length ≤ 1048576) (hzz : itt.length ≤ 1048576) (hok : ∀ i ∈ its, PyData.strOk i.2.1 = true) (hok2 : ∀ i ∈ itt, PyData.strOk i.2.1 = true) : Sp 296 10 200 [] [.str x t, .str y u] (fun v o => o = [] ∧ ∃ b, v = .bool b ∧ (b = true ↔ (its.filter keepK).map (·.2.1) = (itt.filter keepK).map (·.2.1))) := by
  have h9 : same_tokens_sp_at.Pz (ec same_tokens_sp_at.ne same_tokens_sp_at.Pz) := by with_unfolding_all exact same_tokens_sp_at.main
  exact eps same_tokens_sp_at.ne h9 (x, y, t, u, its, itt) hx hy hI hJ hz hzz hok hok2
theorem rst_M5 : Hold True := by (w_top off); first | walk1 | exact True.intro
theorem warm_M5 : ∀ P, (Challenge.rw_pb0353_01, hd.heap_1 P) = (Challenge.rw_pb0353_01, hd.heap_1 P) := by k_fill; intro P; rfl
noncomputable abbrev errL (ex ed : Nat) (g1 : Int) (j1 : Tok) (rl : Nat) (g2 : Int) (j2 : Tok) (pl : Nat) (rv : List Value) (rn : Nat) (po : Obj) : List (Addr × Obj) :=
  [(ex, instObj 339 ed), (ed, dictOf [⟨g1, .str (Str.ofString "rows") j1, .ref rl⟩, ⟨g2, .str (Str.ofString "places") j2, .ref pl⟩] 2), (rl, listOf rv.toArray rn), (pl, po)]
/-- a dict keyed by ints, of n entries at most -/
noncomputable def PlOb (o : Obj) (n : Nat) : Prop := ∃ f, ∀ (h : Heap) (a : Addr), h.get? a = some o → h.IntMap a f ∧ h.DictLe a n
theorem notin_intMap {prog : Program} {w : World} {A : Around} {E : Value → Shared → Prop} {s : Shared} {d : Addr} {f : Int → Option Value} {k : Int} {t : Tok} {Q : Value → Shared → Prop} (hm : s.heap.IntMap d f)
    (h : Q (.bool (!(f k).isSome)) { s with toks := s.toks + 1 }) : wpAny (model prog w) A (compareOp .NotIn (.int k t) (.ref d)) Q E s := by
  have z := wpAny_in_intMap (prog := prog) (w := w) (A := A) (t := t) (k := k) (Q := fun v s' => ∀ b, v = .bool b → Q (.bool (!b)) s') (E := E) hm (fun b e => by cases e; exact h)
  intro Γ p hΓ
  have z' := z Γ p hΓ
  have z2 : Sem.wp (model prog w) Γ (contains (.ref d) (.int k t) >>= fun b => pure (Value.bool b)) (fun v _ s' => ∀ b, v = .bool b → Q (.bool (!b)) s') (fun e _ s' => E e s') p s := z'
  show Sem.wp (model prog w) Γ (contains (.ref d) (.int k t) >>= fun b => pure (Value.bool (!b))) (fun a _ s' => Q a s') (fun e _ s' => E e s') p s
  rw [Sem.wp_bind'] at z2 ⊢
  exact Sem.wp_mono _ _ _ (fun b p' s' h' => h' b rfl) (fun _ _ _ e => e) _ _ z2
theorem PlOb.mono {o : Obj} {n k : Nat} (P : PlOb o n) (h : n ≤ k) : PlOb o k := by
  obtain ⟨f, hf⟩ := P
  exact ⟨f, fun h' a e => ⟨(hf h' a e).1, (hf h' a e).2.mono h⟩⟩
theorem PlOb.set {prog : Program} {w : World} {A : Around} {E : Value → Shared → Prop} {s : Shared} {d L : Addr} {h₀ : Heap} {m : Str → Option Value} {o : Obj} {n : Nat} {k : Int} {t : Tok} {v : Value} {news news' : List (Addr × Obj)} {Q : Unit → Shared → Prop} (P : PlOb o n) (hn : n ≤ sizeLine)
    (F : Fr h₀ L s.heap m) (N : News h₀ L s.heap (news ++ (d, o) :: news')) (h1 : ∀ p ∈ news, p.1 ≠ d) (h2 : ∀ p ∈ news', p.1 ≠ d)
    (h : ∀ h' o', Fr h₀ L h' m → PlOb o' (n + 1) → News h₀ L h' (news ++ (d, o') :: news') → Q () { s with heap := h', toks := s.toks + 1 }) :
    wpAny (model prog w) A (setItem (.ref d) (.int k t) v) Q E s := by
  have D := N (d, o) (by simp)
  obtain ⟨f, hf⟩ := P
  obtain ⟨hm, hz⟩ := hf s.heap d D.1
  refine wpAny_setItem_intMap_le hm hz hn fun h' hm' hz' hs' => ?_
  obtain ⟨o', es, ep, ho', hc', hd', hk', hf'⟩ := hm'
  refine h h' o' (F.change hs' D.2.1 D.2.2) ⟨_, fun h2 a e => ⟨⟨o', es, ep, e, hc', hd', hk', hf'⟩, fun o2 es2 ep2 e2 d2 => ?_⟩⟩ fun p hp => ?_
  · rw [e] at e2; cases e2
    exact hz' _ _ _ ho' d2
  · rcases List.mem_append.mp hp with q | q
    · have P1 := N p (List.mem_append_left _ q); exact ⟨(hs'.2 p.1 (h1 p q)).trans P1.1, P1.2⟩
    · rcases List.mem_cons.mp q with rfl | q
      · exact ⟨ho', D.2⟩
      · have P1 := N p (List.mem_append_right _ (.tail _ q)); exact ⟨(hs'.2 p.1 (h2 p q)).trans P1.1, P1.2⟩
section
local macro_rules | `(tactic| walk_at "compareOp NotIn int ref") => `(tactic| refine Hold.out ?_)
local macro_rules | `(tactic| walk_at "setItem ref int") => `(tactic| refine Hold.out ?_)
theorem mark_end {g h' : Heap} {L' : Addr} {m' : Str → Option Value} {s : Shared} {tk' : Nat} {ex ed : Nat} {g1 : Int} {j1 : Tok} {rl : Nat} {g2 : Int} {j2 : Tok} {pl : Nat} {rv : List Value} {rn : Nat} {po : Obj} {n : Nat} {v : Value} {q : Addr × Obj}
    (F : Fr g L' h' m') (N : News g L' h' (q :: errL ex ed g1 j1 rl g2 j2 pl (rv ++ [v]) (rn + 1) po)) (P : PlOb po (n + 1)) (hrv : rv.length ≤ n) :
    Ret g s (fun v o => v = .none ∧ ∃ rv' rn' po', o = errL ex ed g1 j1 rl g2 j2 pl rv' rn' po' ∧ PlOb po' (n + 1) ∧ rv'.length ≤ n + 1) .none { s with heap := h', toks := tk' } :=
  Ret.intro F (news_sub N fun p hp => .tail _ hp) ⟨rfl, rv ++ [v], rn + 1, po, rfl, P, by rw [List.length_append, List.length_singleton]; omega⟩
namespace mark_sp_at
noncomputable def St (ex : Nat) (ed : Nat) (g1 : Int) (j1 : Tok) (rl : Nat) (g2 : Int) (j2 : Tok) (pl : Nat) (rv : List Value) (rn : Nat) (po : Obj) (n : Nat) (b : Int) (tb : Tok) (code : Str) (tc : Tok) : Prop := ∀ (hpo : PlOb po n) (hrv : rv.length ≤ n) (hn : n ≤ 2000000) (h1 : rl ≠ ex) (h2 : rl ≠ ed) (h3 : rl ≠ pl) (h4 : pl ≠ ex) (h5 : pl ≠ ed), Sp 322 2 16 (errL ex ed g1 j1 rl g2 j2 pl rv rn po) [.ref ex, .int b tb, .str code tc]
      (fun v o => v = .none ∧ ∃ rv' rn' po', o = errL ex ed g1 j1 rl g2 j2 pl rv' rn' po' ∧ PlOb po' (n + 1) ∧ rv'.length ≤ n + 1)
noncomputable def Pz (z : (Nat) × (Nat) × (Int) × (Tok) × (Nat) × (Int) × (Tok) × (Nat) × (List Value) × (Nat) × (Obj) × (Nat) × (Int) × (Tok) × (Str) × (Tok)) : Prop := St (z.1) (z.2.1) (z.2.2.1) (z.2.2.2.1) (z.2.2.2.2.1) (z.2.2.2.2.2.1) (z.2.2.2.2.2.2.1) (z.2.2.2.2.2.2.2.1) (z.2.2.2.2.2.2.2.2.1) (z.2.2.2.2.2.2.2.2.2.1) (z.2.2.2.2.2.2.2.2.2.2.1) (z.2.2.2.2.2.2.2.2.2.2.2.1) (z.2.2.2.2.2.2.2.2.2.2.2.2.1) (z.2.2.2.2.2.2.2.2.2.2.2.2.2.1) (z.2.2.2.2.2.2.2.2.2.2.2.2.2.2.1) (z.2.2.2.2.2.2.2.2.2.2.2.2.2.2.2)
theorem ne : Nonempty ((Nat) × (Nat) × (Int) × (Tok) × (Nat) × (Int) × (Tok) × (Nat) × (List Value) × (Nat) × (Obj) × (Nat) × (Int) × (Tok) × (Str) × (Tok)) := ⟨(default, default, default, default, default, default, default, default, default, default, default, default, default, default, default, default)⟩
noncomputable def z : (Nat) × (Nat) × (Int) × (Tok) × (Nat) × (Int) × (Tok) × (Nat) × (List Value) × (Nat) × (Obj) × (Nat) × (Int) × (Tok) × (Str) × (Tok) := ec ne Pz
@[irreducible] noncomputable def ex : Nat := z.1
@[irreducible] noncomputable def ed : Nat := z.2.1
@[irreducible] noncomputable def g1 : Int := z.2.2.1
@[irreducible] noncomputable def j1 : Tok := z.2.2.2.1
@[irreducible] noncomputable def rl : Nat := z.2.2.2.2.1
@[irreducible] noncomputable def g2 : Int := z.2.2.2.2.2.1
@[irreducible] noncomputable def j2 : Tok := z.2.2.2.2.2.2.1
@[irreducible] noncomputable def pl : Nat := z.2.2.2.2.2.2.2.1
@[irreducible] noncomputable def rv : List Value := z.2.2.2.2.2.2.2.2.1
@[irreducible] noncomputable def rn : Nat := z.2.2.2.2.2.2.2.2.2.1
@[irreducible] noncomputable def po : Obj := z.2.2.2.2.2.2.2.2.2.2.1
@[irreducible] noncomputable def n : Nat := z.2.2.2.2.2.2.2.2.2.2.2.1
@[irreducible] noncomputable def b : Int := z.2.2.2.2.2.2.2.2.2.2.2.2.1
@[irreducible] noncomputable def tb : Tok := z.2.2.2.2.2.2.2.2.2.2.2.2.2.1
@[irreducible] noncomputable def code : Str := z.2.2.2.2.2.2.2.2.2.2.2.2.2.2.1
@[irreducible] noncomputable def tc : Tok := z.2.2.2.2.2.2.2.2.2.2.2.2.2.2.2
@[irreducible] noncomputable def cx : Ctx := fctx 322 2 16 (errL ex ed g1 j1 rl g2 j2 pl rv rn po) [.ref ex, .int b tb, .str code tc]
      (fun v o => v = .none ∧ ∃ rv' rn' po', o = errL ex ed g1 j1 rl g2 j2 pl rv' rn' po' ∧ PlOb po' (n + 1) ∧ rv'.length ≤ n + 1)
theorem main : St ex ed g1 j1 rl g2 j2 pl rv rn po n b tb code tc := by
  intro hpo hrv hn h1 h2 h3 h4 h5
  refine' sp_at cx (by with_unfolding_all rfl) [(Str.ofString "self", .ref ex), (Str.ofString "place", .int b tb), (Str.ofString "code", .str code tc)] ?k6 ?k7 ?k9 ?kB ?c2 ?c3 ?c4 ?c5 ?_
  (((case k6 => intro P; k_is); (case k7 => intro P; k_is); (case kB => exact rfl); (case c2 => exact rfl); (case c3 => exact rfl); (case c4 => exact rfl); (case c5 => decide)); (case k9 => exact rfl); unfold BdC; intros; (try dsimp only); (try k_fold))
  walk_at "steps"
  refine Hold.out ?_
  (rename News _ _ _ _ => N0)
  obtain ⟨f, hf⟩ := id hpo
  refine notin_intMap (hf _ _ (N0 (pl, po) (by simp)).1).1 ?_
  (try dsimp only); (try k_fold)
  walk_at "steps"
  · exact Ret.intro (by assumption) N0 ⟨rfl, rv, rn, po, rfl, hpo.mono (Nat.le_succ n), Nat.le_succ_of_le hrv⟩
  refine Hold.out ?_
  refine PlOb.set (s := ⟨_, _, _, _, _⟩) (news := [(ex, instObj 339 ed), (ed, dictOf [⟨g1, .str (Str.ofString "rows") j1, .ref rl⟩, ⟨g2, .str (Str.ofString "places") j2, .ref pl⟩] 2), (rl, listOf rv.toArray rn)]) (news' := []) hpo (by rw [sizeLine_eq]; omega) (by assumption) N0 ?_ (fun _ h9 => nomatch h9) ?_
  · intro p hp
    simp only [List.mem_cons, List.not_mem_nil, or_false] at hp
    rcases hp with rfl | rfl | rfl
    · exact Ne.symm h4
    · exact Ne.symm h5
    · exact h3
  intro h' o' F' P' N'
  simp only [List.cons_append, List.nil_append] at N'
  have hsz : rv.toArray.size ≤ sizeLine := by rw [List.size_toArray, sizeLine_eq]; omega
  clear N0
  (try dsimp only); (try k_fold)
  walk_at "steps"
  (rename News _ _ _ _ => N5)
  rw [List.push_toArray] at N5
  exact mark_end (by assumption) N5 P' hrv
end mark_sp_at
theorem mark_sp (ex ed : Nat) (g1 : Int) (j1 : Tok) (rl : Nat) (g2 : Int) (j2 : Tok) (pl : Nat) (rv : List Value) (rn : Nat) (po : Obj) (n : Nat) (hpo : PlOb po n) (hrv : rv.length ≤ n) (hn : n ≤ 2000000) (h1 : rl ≠ ex) (h2 : rl ≠ ed) (h3 : rl ≠ pl) (h4 : pl ≠ ex) (h5 : pl ≠ ed) (b : Int) (tb : Tok) (code : Str) (tc : Tok) : Sp 322 2 16 (errL ex ed g1 j1 rl g2 j2 pl rv rn po) [.ref ex, .int b tb, .str code tc]
      (fun v o => v = .none ∧ ∃ rv' rn' po', o = errL ex ed g1 j1 rl g2 j2 pl rv' rn' po' ∧ PlOb po' (n + 1) ∧ rv'.length ≤ n + 1) := by
  have h9 : mark_sp_at.Pz (ec mark_sp_at.ne mark_sp_at.Pz) := by with_unfolding_all exact mark_sp_at.main
  exact eps mark_sp_at.ne h9 (ex, ed, g1, j1, rl, g2, j2, pl, rv, rn, po, n, b, tb, code, tc) hpo hrv hn h1 h2 h3 h4 h5
end
theorem rst_M6 : Hold True := by (w_top off); first | walk1 | exact True.intro
theorem warm_M6 : ∀ P, (Challenge.rw_pb0353_01, hd.heap_1 P) = (Challenge.rw_pb0353_01, hd.heap_1 P) := by k_fill; intro P; rfl
theorem Ret.pick {g : Heap} {s : Shared} {R : Value → List (Addr × Obj) → Prop} {v : Value} {L' : Addr} {m' : Str → Option Value} {own' Nl rest : List (Addr × Obj)} {h' : Heap} {tk' : Nat}
    (F : Fr g L' h' m') (N : News g L' h' Nl) (hp : Pick own' rest Nl) (r : R v own') : Ret g s R v { s with heap := h', toks := tk' } := ⟨L', m', own', h', tk', rfl, F, fun p hm => N p (hp.mem p (List.mem_append_left _ hm)), r⟩
theorem sub_none (S : Str) (p : Nat) : sub S p (p + if true = true then 0 else 1) = Str.ofString "" := by
  refine str_ext ?_
  rw [sub_list]; simp
  decide +kernel
noncomputable abbrev meL (x d : Nat) (h1 : Int) (k1 : Tok) (S : Str) (tS : Tok) (h2 : Int) (k2 : Tok) (ex : Nat) (h3 : Int) (k3 : Tok) (p : Nat) (tp : Tok) (h4 : Int) (k4 : Tok) (wa : Nat) : List (Addr × Obj) :=
  [(x, instObj 186 d), (d, dictOf [⟨h1, .str (Str.ofString "source") k1, .str S tS⟩, ⟨h2, .str (Str.ofString "errors") k2, .ref ex⟩, ⟨h3, .str (Str.ofString "place") k3, .int (p : Int) tp⟩, ⟨h4, .str (Str.ofString "words") k4, .ref wa⟩] 4)]
local macro_rules | `(tactic| walk_at "gm") => `(tactic| (intro h9 tk9 F9 N9; (try dsimp only [meL, List.nil_append, List.cons_append] at N9); (try simp only [List.append_nil] at N9); walk_at "sw"))
section
variable (x d : Nat) (h1 : Int) (k1 : Tok) (S : Str) (tS : Tok) (h2 : Int) (k2 : Tok) (ex : Nat) (h3 : Int) (k3 : Tok) (p : Nat) (tp : Tok) (h4 : Int) (k4 : Tok) (wa : Nat) (hS : S.length ≤ 1048576)
include hS
theorem char_sp (a : Nat) (ta : Tok) : Sp 99 1 8 (meL x d h1 k1 S tS h2 k2 ex h3 k3 p tp h4 k4 wa) [.ref x, .int a ta] (fun v o => o = meL x d h1 k1 S tS h2 k2 ex h3 k3 p tp h4 k4 wa ∧ ∃ t, v = .str (sub S (p + a) (p + a + 1)) t) := by
  refine' sp_ofD [(Str.ofString "self", .ref x), (Str.ofString "ahead", .int a ta)] ?k6 ?k7 ?k9 ?kB ?c2 ?c3 ?c4 ?c5 ?_
  (((case k6 => intro P; k_is); (case k7 => intro P; k_is); (case kB => exact rfl); (case c2 => exact rfl); (case c3 => exact rfl); (case c4 => exact rfl); (case c5 => decide)); (case k9 => exact fun P s X => binds_K X rfl (by k_is) rfl rfl rfl); unfold Bd; intros; (try dsimp only); (try k_fold))
  walk_at "steps"
  refine Ret.intro (by assumption) (by assumption) ⟨rfl, sval ?_⟩
  rw [show (((p : Int) + (a : Int))).toNat = p + a by omega, show (((p : Int) + (a : Int) + 1)).toNat = p + a + 1 by omega]
theorem char0_sp : Sp 99 1 8 (meL x d h1 k1 S tS h2 k2 ex h3 k3 p tp h4 k4 wa) [.ref x] (fun v o => o = meL x d h1 k1 S tS h2 k2 ex h3 k3 p tp h4 k4 wa ∧ ∃ t, v = .str (sub S p (p + 1)) t) := by
  refine' sp_ofD [(Str.ofString "self", .ref x), (Str.ofString "ahead", .int 0 292)] ?k6 ?k7 ?k9 ?kB ?c2 ?c3 ?c4 ?c5 ?_
  (((case k6 => intro P; k_is); (case k7 => intro P; k_is); (case kB => exact rfl); (case c2 => exact rfl); (case c3 => exact rfl); (case c4 => exact rfl); (case c5 => decide)); (case k9 => exact fun P s X => binds_K X rfl (by k_is) rfl rfl rfl); unfold Bd; intros; (try dsimp only); (try k_fold))
  walk_at "steps"
  refine Ret.intro (by assumption) (by assumption) ⟨rfl, sval ?_⟩
  rw [show (((p : Int) + 0)).toNat = p by omega, show (((p : Int) + 0 + 1)).toNat = p + 1 by omega]
end
local macro_rules | `(tactic| walk_at "call ref") => `(tactic| ((with_reducible show wpAny _ _ (call (Value.ref 99) [Value.ref _]) _ _ _); refine' callM (char0_sp _ _ _ _ _ _ _ _ _ _ _ _ _ _ _ _ ?kx) ?k1 ?k2 ?k3 ?k4 ?kp ?ka ?k5 ?kK ?kd ?ku ?_; walk_at "useP"; (case kx => assumption); intro t9; walk_at "gm"))
local macro_rules | `(tactic| walk_at "call ref") => `(tactic| ((with_reducible show wpAny _ _ (call (Value.ref 99) [Value.ref _, Value.int _ _]) _ _ _); refine' callM (char_sp _ _ _ _ _ _ _ _ _ _ _ _ _ _ _ _ ?kx _ _) ?k1 ?k2 ?k3 ?k4 ?kp ?ka ?k5 ?kK ?kd ?ku ?_; walk_at "useP"; (case kx => assumption); intro t9; walk_at "gm"))
namespace skip_digits_sp_at
noncomputable def St (x : Nat) (d : Nat) (h1 : Int) (k1 : Tok) (S : Str) (tS : Tok) (h2 : Int) (k2 : Tok) (ex : Nat) (h3 : Int) (k3 : Tok) (p : Nat) (tp : Tok) (h4 : Int) (k4 : Tok) (wa : Nat) : Prop := ∀ (hS : S.length ≤ 1048576) (hxd : x ≠ d), Sp 169 3 24 (meL x d h1 k1 S tS h2 k2 ex h3 k3 p tp h4 k4 wa) [.ref x] (fun v o => v = .none ∧ ∃ tp', o = meL x d h1 k1 S tS h2 k2 ex h3 k3 (p + run digC (suf S p)) tp' h4 k4 wa)
noncomputable def Pz (z : (Nat) × (Nat) × (Int) × (Tok) × (Str) × (Tok) × (Int) × (Tok) × (Nat) × (Int) × (Tok) × (Nat) × (Tok) × (Int) × (Tok) × (Nat)) : Prop := St (z.1) (z.2.1) (z.2.2.1) (z.2.2.2.1) (z.2.2.2.2.1) (z.2.2.2.2.2.1) (z.2.2.2.2.2.2.1) (z.2.2.2.2.2.2.2.1) (z.2.2.2.2.2.2.2.2.1) (z.2.2.2.2.2.2.2.2.2.1) (z.2.2.2.2.2.2.2.2.2.2.1) (z.2.2.2.2.2.2.2.2.2.2.2.1) (z.2.2.2.2.2.2.2.2.2.2.2.2.1) (z.2.2.2.2.2.2.2.2.2.2.2.2.2.1) (z.2.2.2.2.2.2.2.2.2.2.2.2.2.2.1) (z.2.2.2.2.2.2.2.2.2.2.2.2.2.2.2)
theorem ne : Nonempty ((Nat) × (Nat) × (Int) × (Tok) × (Str) × (Tok) × (Int) × (Tok) × (Nat) × (Int) × (Tok) × (Nat) × (Tok) × (Int) × (Tok) × (Nat)) := ⟨(default, default, default, default, default, default, default, default, default, default, default, default, default, default, default, default)⟩
noncomputable def z : (Nat) × (Nat) × (Int) × (Tok) × (Str) × (Tok) × (Int) × (Tok) × (Nat) × (Int) × (Tok) × (Nat) × (Tok) × (Int) × (Tok) × (Nat) := ec ne Pz
@[irreducible] noncomputable def x : Nat := z.1
@[irreducible] noncomputable def d : Nat := z.2.1
@[irreducible] noncomputable def h1 : Int := z.2.2.1
@[irreducible] noncomputable def k1 : Tok := z.2.2.2.1
@[irreducible] noncomputable def S : Str := z.2.2.2.2.1
@[irreducible] noncomputable def tS : Tok := z.2.2.2.2.2.1
@[irreducible] noncomputable def h2 : Int := z.2.2.2.2.2.2.1
@[irreducible] noncomputable def k2 : Tok := z.2.2.2.2.2.2.2.1
@[irreducible] noncomputable def ex : Nat := z.2.2.2.2.2.2.2.2.1
@[irreducible] noncomputable def h3 : Int := z.2.2.2.2.2.2.2.2.2.1
@[irreducible] noncomputable def k3 : Tok := z.2.2.2.2.2.2.2.2.2.2.1
@[irreducible] noncomputable def p : Nat := z.2.2.2.2.2.2.2.2.2.2.2.1
@[irreducible] noncomputable def tp : Tok := z.2.2.2.2.2.2.2.2.2.2.2.2.1
@[irreducible] noncomputable def h4 : Int := z.2.2.2.2.2.2.2.2.2.2.2.2.2.1
@[irreducible] noncomputable def k4 : Tok := z.2.2.2.2.2.2.2.2.2.2.2.2.2.2.1
@[irreducible] noncomputable def wa : Nat := z.2.2.2.2.2.2.2.2.2.2.2.2.2.2.2
@[irreducible] noncomputable def cx : Ctx := fctx 169 3 24 (meL x d h1 k1 S tS h2 k2 ex h3 k3 p tp h4 k4 wa) [.ref x] (fun v o => v = .none ∧ ∃ tp', o = meL x d h1 k1 S tS h2 k2 ex h3 k3 (p + run digC (suf S p)) tp' h4 k4 wa)
theorem main : St x d h1 k1 S tS h2 k2 ex h3 k3 p tp h4 k4 wa := by
  intro hS hxd
  refine' sp_at cx (by with_unfolding_all rfl) [(Str.ofString "self", .ref x)] ?k6 ?k7 ?k9 ?kB ?c2 ?c3 ?c4 ?c5 ?_
  (((case k6 => intro P; k_is); (case k7 => intro P; k_is); (case kB => exact rfl); (case c2 => exact rfl); (case c3 => exact rfl); (case c4 => exact rfl); (case c5 => decide)); (case k9 => exact rfl); unfold BdC; intros; (try dsimp only); (try k_fold))
  walk_at "steps"
  (rename Fr _ _ _ _ => F0)
  (rename News _ _ _ _ => N0)
  refine ksw_while (σ := Nat × Tok) (fun c => meL x d h1 k1 S tS h2 k2 ex h3 k3 c.1 c.2 h4 k4 wa) (fun _ => []) (fun _ => True) [] (fun c => p + run digC (suf S p) = c.1 + run digC (suf S c.1)) (fun c => S.length - c.1) (p, tp) F0 N0 trivial (by kst_all) rfl ?_
  intro c u h tk _ hP F' N'
  (try dsimp only at hP)
  dsimp only [meL] at N'
  (try dsimp only); (try k_fold)
  walk_at "steps"
  · refine Hold.out ?_
    have e := sign_dig.go (x := S) (c := c.1) (fun _ h => h) (by assumption)
    refine ksw_end (c' := ⟨c.1 + 1, _⟩) (by assumption) (by assumption) (fun _ h9 => h9) trivial (fun _ h9 => nomatch h9) (by (intro z9 h8 h9; (simp only [List.forall_mem_cons, List.not_mem_nil, List.contains_cons, List.contains_nil, Bool.or_false, Bool.or_eq_false_iff, beq_eq_false_iff_ne, false_implies, implies_true, and_true, ne_eq] at h8 h9); (simp [kstB, h8, h9]))) ?_ ?_ <;> (try dsimp only) <;> (first | exact om1 (by with_reducible assumption) (by walk_at "cj") | exact om2 (by walk_at "cj") | exact om3 (by with_reducible assumption) (by walk_at "cj") | exact om4 (by with_reducible assumption) (by walk_at "cj") | exact om5 (by walk_at "cj") | exact om6 (by with_reducible assumption) | exact om7 (by with_reducible assumption) | exact om8 | omega)
  · have e := sign_dig.stop (x := S) (c := c.1) (by assumption)
    rw [show p + run digC (suf S p) = c.1 by omega]
    exact Ret.intro (by assumption) (by assumption) ⟨rfl, _, rfl⟩
end skip_digits_sp_at
theorem skip_digits_sp (x d : Nat) (h1 : Int) (k1 : Tok) (S : Str) (tS : Tok) (h2 : Int) (k2 : Tok) (ex : Nat) (h3 : Int) (k3 : Tok) (p : Nat) (tp : Tok) (h4 : Int) (k4 : Tok) (wa : Nat) (hS : S.length ≤ 1048576) (hxd : x ≠ d) : Sp 169 3 24 (meL x d h1 k1 S tS h2 k2 ex h3 k3 p tp h4 k4 wa) [.ref x] (fun v o => v = .none ∧ ∃ tp', o = meL x d h1 k1 S tS h2 k2 ex h3 k3 (p + run digC (suf S p)) tp' h4 k4 wa) := by
  have h9 : skip_digits_sp_at.Pz (ec skip_digits_sp_at.ne skip_digits_sp_at.Pz) := by with_unfolding_all exact skip_digits_sp_at.main
  exact eps skip_digits_sp_at.ne h9 (x, d, h1, k1, S, tS, h2, k2, ex, h3, k3, p, tp, h4, k4, wa) hS hxd
section
local macro_rules | `(tactic| walk_at "binaryOp Add str str") => `(tactic| (refine add_pair ?_; intro t' k'; (try dsimp only); (try k_fold)))
namespace symbol_sp_at
noncomputable def St (x : Nat) (d : Nat) (h1 : Int) (k1 : Tok) (S : Str) (tS : Tok) (h2 : Int) (k2 : Tok) (ex : Nat) (h3 : Int) (k3 : Tok) (p : Nat) (tp : Tok) (h4 : Int) (k4 : Tok) (wa : Nat) : Prop := ∀ (hS : S.length ≤ 1048576) (hp : p < S.length), Sp 183 3 24 (meL x d h1 k1 S tS h2 k2 ex h3 k3 p tp h4 k4 wa) [.ref x] (fun v o => o = meL x d h1 k1 S tS h2 k2 ex h3 k3 p tp h4 k4 wa ∧ ∃ t, v = .str (sub S p (p + signLen (suf S p))) t)
noncomputable def Pz (z : (Nat) × (Nat) × (Int) × (Tok) × (Str) × (Tok) × (Int) × (Tok) × (Nat) × (Int) × (Tok) × (Nat) × (Tok) × (Int) × (Tok) × (Nat)) : Prop := St (z.1) (z.2.1) (z.2.2.1) (z.2.2.2.1) (z.2.2.2.2.1) (z.2.2.2.2.2.1) (z.2.2.2.2.2.2.1) (z.2.2.2.2.2.2.2.1) (z.2.2.2.2.2.2.2.2.1) (z.2.2.2.2.2.2.2.2.2.1) (z.2.2.2.2.2.2.2.2.2.2.1) (z.2.2.2.2.2.2.2.2.2.2.2.1) (z.2.2.2.2.2.2.2.2.2.2.2.2.1) (z.2.2.2.2.2.2.2.2.2.2.2.2.2.1) (z.2.2.2.2.2.2.2.2.2.2.2.2.2.2.1) (z.2.2.2.2.2.2.2.2.2.2.2.2.2.2.2)
theorem ne : Nonempty ((Nat) × (Nat) × (Int) × (Tok) × (Str) × (Tok) × (Int) × (Tok) × (Nat) × (Int) × (Tok) × (Nat) × (Tok) × (Int) × (Tok) × (Nat)) := ⟨(default, default, default, default, default, default, default, default, default, default, default, default, default, default, default, default)⟩
noncomputable def z : (Nat) × (Nat) × (Int) × (Tok) × (Str) × (Tok) × (Int) × (Tok) × (Nat) × (Int) × (Tok) × (Nat) × (Tok) × (Int) × (Tok) × (Nat) := ec ne Pz
@[irreducible] noncomputable def x : Nat := z.1
@[irreducible] noncomputable def d : Nat := z.2.1
@[irreducible] noncomputable def h1 : Int := z.2.2.1
@[irreducible] noncomputable def k1 : Tok := z.2.2.2.1
@[irreducible] noncomputable def S : Str := z.2.2.2.2.1
@[irreducible] noncomputable def tS : Tok := z.2.2.2.2.2.1
@[irreducible] noncomputable def h2 : Int := z.2.2.2.2.2.2.1
@[irreducible] noncomputable def k2 : Tok := z.2.2.2.2.2.2.2.1
@[irreducible] noncomputable def ex : Nat := z.2.2.2.2.2.2.2.2.1
@[irreducible] noncomputable def h3 : Int := z.2.2.2.2.2.2.2.2.2.1
@[irreducible] noncomputable def k3 : Tok := z.2.2.2.2.2.2.2.2.2.2.1
@[irreducible] noncomputable def p : Nat := z.2.2.2.2.2.2.2.2.2.2.2.1
@[irreducible] noncomputable def tp : Tok := z.2.2.2.2.2.2.2.2.2.2.2.2.1
@[irreducible] noncomputable def h4 : Int := z.2.2.2.2.2.2.2.2.2.2.2.2.2.1
@[irreducible] noncomputable def k4 : Tok := z.2.2.2.2.2.2.2.2.2.2.2.2.2.2.1
@[irreducible] noncomputable def wa : Nat := z.2.2.2.2.2.2.2.2.2.2.2.2.2.2.2
@[irreducible] noncomputable def cx : Ctx := fctx 183 3 24 (meL x d h1 k1 S tS h2 k2 ex h3 k3 p tp h4 k4 wa) [.ref x] (fun v o => o = meL x d h1 k1 S tS h2 k2 ex h3 k3 p tp h4 k4 wa ∧ ∃ t, v = .str (sub S p (p + signLen (suf S p))) t)
theorem main : St x d h1 k1 S tS h2 k2 ex h3 k3 p tp h4 k4 wa := by
  intro hS hp
  refine' sp_at cx (by with_unfolding_all rfl) [(Str.ofString "self", .ref x)] ?k6 ?k7 ?k9 ?kB ?c2 ?c3 ?c4 ?c5 ?_
  (((case k6 => intro P; k_is); (case k7 => intro P; k_is); (case kB => exact rfl); (case c2 => exact rfl); (case c3 => exact rfl); (case c4 => exact rfl); (case c5 => decide)); (case k9 => exact rfl); unfold BdC; intros; (try dsimp only); (try k_fold))
  walk_at "steps"
  · have e := sign_2 (x := S) (c := p) (by rw [Int.toNat_natCast, toNat_2]; assumption)
    refine Ret.pick (by assumption) (by assumption) (by walk_at "pick") ⟨rfl, sval ?_⟩
    rw [e]
  · have e := sign_sub hp (by assumption) (by assumption)
    refine Ret.pick (by assumption) (by assumption) (by walk_at "pick") ⟨rfl, sval ?_⟩
    rw [e]
    exact (sub_none S p).symm
  · have e := sign_sub hp (by assumption) (by assumption)
    refine Ret.pick (by assumption) (by assumption) (by walk_at "pick") ⟨rfl, sval ?_⟩
    rw [e]; rfl
end symbol_sp_at
theorem symbol_sp (x d : Nat) (h1 : Int) (k1 : Tok) (S : Str) (tS : Tok) (h2 : Int) (k2 : Tok) (ex : Nat) (h3 : Int) (k3 : Tok) (p : Nat) (tp : Tok) (h4 : Int) (k4 : Tok) (wa : Nat) (hS : S.length ≤ 1048576) (hp : p < S.length) : Sp 183 3 24 (meL x d h1 k1 S tS h2 k2 ex h3 k3 p tp h4 k4 wa) [.ref x] (fun v o => o = meL x d h1 k1 S tS h2 k2 ex h3 k3 p tp h4 k4 wa ∧ ∃ t, v = .str (sub S p (p + signLen (suf S p))) t) := by
  have h9 : symbol_sp_at.Pz (ec symbol_sp_at.ne symbol_sp_at.Pz) := by with_unfolding_all exact symbol_sp_at.main
  exact eps symbol_sp_at.ne h9 (x, d, h1, k1, S, tS, h2, k2, ex, h3, k3, p, tp, h4, k4, wa) hS hp
end
theorem rst_M7 : Hold True := by (w_top off); first | walk1 | exact True.intro
theorem warm_M7 : ∀ P, (Challenge.rw_pb0353_01, hd.heap_1 P) = (Challenge.rw_pb0353_01, hd.heap_1 P) := by k_fill; intro P; rfl
theorem mk_tok_sp (k : Str) (tk : Tok) (val : Value) (n : Int) (tn : Tok) : Sp 38 2 16 [] [.str k tk, val, .int n tn] (fun v o => ∃ x dx h1 k1 h2 k2 h3 k3, v = .ref x ∧ o = [(x, instObj 38 dx), (dx, dictOf [⟨h1, .str (Str.ofString "kind") k1, .str k tk⟩, ⟨h2, .str (Str.ofString "value") k2, val⟩, ⟨h3, .str (Str.ofString "place") k3, .int n tn⟩] 3)]) := by
  refine sp_cls (d := 1) (u := 8) (fI := 35) (fun P => by k_is) (fun P => by k_is) (fun P => by k_is) fun x dx l2 => ?_
  refine' spc_of [(Str.ofString "self", .ref x), (Str.ofString "kind", .str k tk), (Str.ofString "value", val), (Str.ofString "place", .int n tn)] ?k6 ?k7 ?k9 ?kB ?c2 ?c3 ?c4 ?c5 ?_
  (((case k6 => intro P; k_is); (case k7 => intro P; k_is); (case kB => exact rfl); (case c2 => exact rfl); (case c3 => exact rfl); (case c4 => exact rfl); (case c5 => decide)); (case k9 => exact rfl); unfold Bd; intros; (try dsimp only); (try k_fold))
  walk_at "steps"
  exact Ret.intro (by assumption) (by assumption) ⟨rfl, _, _, _, _, _, _, _, _, rfl, rfl⟩
local macro_rules | `(tactic| walk_at "call ref") => `(tactic| ((with_reducible show wpAny _ _ (call (Value.ref 38) _) _ _ _); refine' callT (mk_tok_sp _ _ _ _ _) ?k1 ?k2 ?k3 ?k4 ?k5 ?kK ?kd ?ku ?_; walk_at "use"; intro x9 dx9 p1 q1 p2 q2 p3 q3; intro h9 tk9 F9 N9 A9; (dsimp only [List.nil_append, List.cons_append] at N9); walk_at "sw"))
/-- a scanner as it lies -/
structure Sc where
  x : Nat
  d : Nat
  h1 : Int
  k1 : Tok
  S : Str
  tS : Tok
  h2 : Int
  k2 : Tok
  ex : Nat
  h3 : Int
  k3 : Tok
  h4 : Int
  k4 : Tok
  wa : Nat
  wv : List Value
  ed : Nat
  g1 : Int
  j1 : Tok
  rl : Nat
  g2 : Int
  j2 : Tok
  pl : Nat
theorem sc_ne : Nonempty Sc := ⟨⟨default, default, default, default, default, default, default, default, default, default, default, default, default, default, default, default, default, default, default, default, default, default⟩⟩
structure Sc.Ok (c : Sc) : Prop where
  hS : c.S.length ≤ 1048576
  hw : StrsAre c.wv kwords
  n1 : @Ne Nat c.x c.d
  n2 : @Ne Nat c.x c.wa
  n3 : @Ne Nat c.d c.wa
  n4 : @Ne Nat c.x c.ex
  n5 : @Ne Nat c.d c.ex
  n6 : @Ne Nat c.wa c.ex
  n7 : @Ne Nat c.x c.ed
  n8 : @Ne Nat c.d c.ed
  n9 : @Ne Nat c.wa c.ed
  m4 : @Ne Nat c.x c.rl
  m5 : @Ne Nat c.d c.rl
  m6 : @Ne Nat c.wa c.rl
  m7 : @Ne Nat c.x c.pl
  m8 : @Ne Nat c.d c.pl
  m9 : @Ne Nat c.wa c.pl
  l1 : @Ne Nat c.rl c.ex
  l2 : @Ne Nat c.rl c.ed
  l3 : @Ne Nat c.rl c.pl
  l4 : @Ne Nat c.pl c.ex
  l5 : @Ne Nat c.pl c.ed
noncomputable abbrev full (c : Sc) (p : Nat) (tp : Tok) (rv : List Value) (rn : Nat) (po : Obj) : List (Addr × Obj) :=
  [(c.x, instObj 186 c.d), (c.d, dictOf [⟨c.h1, .str (Str.ofString "source") c.k1, .str c.S c.tS⟩, ⟨c.h2, .str (Str.ofString "errors") c.k2, .ref c.ex⟩, ⟨c.h3, .str (Str.ofString "place") c.k3, .int (p : Int) tp⟩, ⟨c.h4, .str (Str.ofString "words") c.k4, .ref c.wa⟩] 4),
   (c.wa, tupObj c.wv), (c.ex, instObj 339 c.ed), (c.ed, dictOf [⟨c.g1, .str (Str.ofString "rows") c.j1, .ref c.rl⟩, ⟨c.g2, .str (Str.ofString "places") c.j2, .ref c.pl⟩] 2), (c.rl, listOf rv.toArray rn), (c.pl, po)]
/-- where a remark is left -/
noncomputable def remTo (S : Str) (p : Nat) : Nat := match rem 0 (suf S p) with | some k => p + k | none => S.length
noncomputable def remAt (S : Str) (D : Int) (q : Nat) : Nat := if D = 0 then q else match rem D (suf S q) with | some k => q + k | none => S.length
theorem rem_start {S : Str} {p : Nat} (h : suf S p = 40 :: 42 :: suf S (p + 2)) : remAt S 1 (p + 2) = remTo S p := by
  unfold remAt remTo
  rw [if_neg (by decide), h, rem, if_pos ⟨rfl, rfl⟩]
  show (match rem (1 : Int) (suf S (p + 2)) with | some k => p + 2 + k | none => S.length) = _
  rw [show (0 : Int) + 1 = 1 from rfl]
  cases rem 1 (suf S (p + 2)) with
  | none => rfl
  | some k => show p + 2 + k = p + (k + 2); omega
section
variable {S : Str} {D : Int} {q : Nat} (hD : 0 < D)
include hD
theorem remAt_open (h : (sub S q (q + 2) == Str.ofString "(*") = true) : remAt S (D + 1) (q + 2) = remAt S D q ∧ q + 2 ≤ S.length := by
  obtain ⟨e1, e2⟩ := rem_open (x := S) (c := q) (d := D) (by rw [Int.toNat_natCast, toNat_2]; exact h)
  refine ⟨?_, e2⟩
  unfold remAt
  rw [if_neg (by omega), if_neg (by omega), e1]
  cases rem (D + 1) (suf S (q + 2)) with
  | none => rfl
  | some k => show q + 2 + k = q + (k + 2); omega
theorem remAt_close (h : (sub S q (q + 2) == Str.ofString "*)") = true) : remAt S (D - 1) (q + 2) = remAt S D q ∧ q + 2 ≤ S.length := by
  obtain ⟨e1, e2⟩ := rem_close (x := S) (c := q) (d := D) (by rw [Int.toNat_natCast, toNat_2]; exact h)
  refine ⟨?_, e2⟩
  unfold remAt
  rw [if_neg (show ¬ D = 0 by omega), e1]
  by_cases h0 : D - 1 = 0
  · rw [if_pos h0, if_pos h0]
  · rw [if_neg h0, if_neg h0]
    cases rem (D - 1) (suf S (q + 2)) with
    | none => rfl
    | some k => show q + 2 + k = q + (k + 2); omega
theorem remAt_other (h : (sub S q (q + 2) == Str.ofString "(*") = false) (h' : (sub S q (q + 2) == Str.ofString "*)") = false) : remAt S D (q + 1) = remAt S D q := by
  have e1 := rem_other (x := S) (c := q) (d := D) (by rw [Int.toNat_natCast, toNat_2]; exact h) (by rw [Int.toNat_natCast, toNat_2]; exact h')
  unfold remAt
  rw [if_neg (by omega), if_neg (by omega), e1]
  cases rem D (suf S (q + 1)) with
  | none => rfl
  | some k => show q + 1 + k = q + (k + 1); omega
theorem remAt_end (h : S.length ≤ q) : remAt S D q = S.length := by
  unfold remAt
  rw [if_neg (by omega), rem_end (by omega)]
end
theorem l_no : (Str.ofString "").cps.toList = [] := by decide +kernel
theorem sub_emp {S : Str} {q n : Nat} {b : Bool} (h : (sub S q (q + (n + 1)) == Str.ofString "") = b) : decide (S.length ≤ q) = b := by
  rw [str_eq l_no, sub_list, show q + (n + 1) - q = n + 1 by omega] at h
  rw [← h, decide_eq_decide]
  constructor
  · intro e; rw [show S.cps.toList.drop q = [] from suf_none e]; rfl
  · intro e
    cases h1 : suf S q with
    | nil => exact suf_nil h1
    | cons a r => rw [show S.cps.toList.drop q = a :: r from h1] at e; cases e
theorem remTo_le {S : Str} {p : Nat} (h2 : suf S p = 40 :: 42 :: suf S (p + 2)) (h3 : p + 2 ≤ S.length) : p + 2 ≤ remTo S p := by
  unfold remTo
  rw [h2, rem, if_pos ⟨rfl, rfl⟩]
  cases rem (0 + 1) (suf S (p + 2)) with
  | none => exact h3
  | some k => show p + 2 ≤ p + (k + 2); omega
theorem one_is {x : Str} {c : Nat} {s : String} {a : Nat} (hs : (Str.ofString s).cps.toList = [a]) (h : (sub x c (c + 1) == Str.ofString s) = true) : suf x c = a :: suf x (c + 1) ∧ c < x.length := by
  rw [str_eq hs, decide_eq_true_eq, sub_one] at h
  cases h1 : suf x c with
  | nil => rw [h1] at h; cases h
  | cons p r =>
    rw [h1] at h
    simp only [List.take_succ_cons, List.take_zero, List.cons.injEq, and_true] at h
    obtain ⟨h2, h3⟩ := suf_cons h1
    exact ⟨by rw [h, h2], h3⟩
theorem one_not {x : Str} {c : Nat} {s : String} {a : Nat} (hs : (Str.ofString s).cps.toList = [a]) (h : (sub x c (c + 1) == Str.ofString s) = false) : ∀ r, suf x c ≠ a :: r := by
  intro r hr
  rw [str_eq hs, decide_eq_false_iff_not, sub_one, hr] at h
  exact h rfl
theorem l_pa : (Str.ofString "(").cps.toList = [40] := by decide +kernel
theorem l_st : (Str.ofString "*").cps.toList = [42] := by decide +kernel
theorem ne_is {x : Str} {c : Nat} (h : (sub x c (c + 1) == Str.ofString "") = false) : ∃ d, suf x c = d :: suf x (c + 1) ∧ c < x.length ∧ (sub x c (c + 1)).cps.toList = [d] := by
  have h0 := of_decide_eq_false (sub_emp (n := 0) h)
  cases h1 : suf x c with
  | nil => exact absurd (suf_nil h1) h0
  | cons p r =>
    obtain ⟨h2, h3⟩ := suf_cons h1
    exact ⟨p, by rw [h2], h3, by rw [sub_one, h1]; rfl⟩
theorem ne_len {x : Str} {c : Nat} (h : (sub x c (c + 1) == Str.ofString "") = false) : (sub x c (c + 1)).length = 1 := by
  obtain ⟨d, _, _, e⟩ := ne_is h
  show (sub x c (c + 1)).cps.size = 1
  rw [← Array.length_toList, e]; rfl
theorem ne_of_bne {a b : Str} (h : (a != b) = true) : (a == b) = false := by rw [bne_beq, Bool.not_eq_true'] at h; exact h
theorem eq_of_bne {a b : Str} (h : (a != b) = false) : (a == b) = true := by rw [bne_beq, Bool.not_eq_false'] at h; exact h
theorem code_is {x : Str} {c : Nat} (h : (sub x c (c + 1) == Str.ofString "") = false) : suf x c = (sub x c (c + 1)).cps.getD 0 0 :: suf x (c + 1) ∧ c < x.length := by
  obtain ⟨d, e1, e2, e3⟩ := ne_is h
  have e4 : (sub x c (c + 1)).cps = #[d] := Array.toList_inj.mp e3
  rw [e4]
  exact ⟨e1, e2⟩
inductive Skips (S : Str) : Nat → Nat → Prop
  | stop {p : Nat} : (suf S p).take 2 ≠ [40, 42] → (∀ d ∈ (suf S p).head?, 32 < d) → Skips S p p
  | gap {p q d : Nat} : suf S p = d :: suf S (p + 1) → d ≤ 32 → Skips S (p + 1) q → Skips S p q
  | rem {p q : Nat} : (suf S p).take 2 = [40, 42] → Skips S (remTo S p) q → Skips S p q
section
variable {S : Str} {q n : Nat}
theorem skips_rem (h1 : (sub S q (q + 1) == Str.ofString "(") = true) (h2 : (sub S (q + 1) (q + 1 + 1) == Str.ofString "*") = true) (hs : Skips S q n) : Skips S (remTo S q) n ∧ suf S q = 40 :: 42 :: suf S (q + 2) ∧ q + 2 ≤ S.length := by
  obtain ⟨e1, e2⟩ := one_is l_pa h1
  obtain ⟨e3, e4⟩ := one_is l_st h2
  have e : suf S q = 40 :: 42 :: suf S (q + 2) := by rw [e1, e3]
  refine ⟨?_, e, by omega⟩
  cases hs with
  | stop a _ => rw [e] at a; exact absurd rfl a
  | gap a b _ => rw [e] at a; have := (List.cons.inj a).1; omega
  | rem _ b => exact b
theorem skips_gap (h : (sub S q (q + 1) != Str.ofString "") = true) (h2 : ((sub S q (q + 1)).cps.getD 0 0 : Int) ≤ 32) (hs : Skips S q n) : Skips S (q + 1) n ∧ q < S.length := by
  obtain ⟨e1, e2⟩ := code_is (ne_of_bne h)
  refine ⟨?_, e2⟩
  generalize (sub S q (q + 1)).cps.getD 0 0 = d at *
  cases hs with
  | stop _ a => have := a d (by rw [e1]; rfl); omega
  | gap _ _ b => exact b
  | rem a _ =>
    rw [e1] at a
    have : d = 40 := by
      simp only [List.take_succ_cons, List.cons.injEq] at a
      exact a.1
    omega
theorem skips_stop (h1 : (suf S q).take 2 ≠ [40, 42]) (h2 : ∀ d ∈ (suf S q).head?, 32 < d) (hs : Skips S q n) : q = n := by
  cases hs with
  | stop => rfl
  | gap a b _ => have := h2 _ (by rw [a]; rfl); omega
  | rem a _ => exact absurd a h1
theorem not_rem1 (h2 : (sub S (q + 1) (q + 1 + 1) == Str.ofString "*") = false) : (suf S q).take 2 ≠ [40, 42] := by
  intro h
  have h3 := one_not l_st h2
  cases h1 : suf S q with
  | nil => rw [h1] at h; cases h
  | cons a r =>
    rw [h1] at h
    cases r with
    | nil => cases h
    | cons b r =>
      simp only [List.take_succ_cons, List.take_zero, List.cons.injEq, and_true] at h
      exact h3 r (by rw [(suf_cons h1).1, h.2])
theorem not_rem2 (h2 : (sub S q (q + 1) == Str.ofString "(") = false) : (suf S q).take 2 ≠ [40, 42] := by
  intro h
  have h3 := one_not l_pa h2
  cases h1 : suf S q with
  | nil => rw [h1] at h; cases h
  | cons a r =>
    rw [h1] at h
    simp only [List.take_succ_cons, List.cons.injEq] at h
    exact h3 r (by rw [h1, h.1])
theorem head_gt (h : (sub S q (q + 1) != Str.ofString "") = true) (h2 : ¬ ((sub S q (q + 1)).cps.getD 0 0 : Int) ≤ 32) : ∀ d ∈ (suf S q).head?, 32 < d := by
  obtain ⟨e1, e2⟩ := code_is (ne_of_bne h)
  intro d hd
  rw [e1] at hd
  simp only [List.head?_cons, Option.mem_def, Option.some.injEq] at hd
  omega
theorem head_nil (h : (sub S q (q + 1) != Str.ofString "") = false) : ∀ d ∈ (suf S q).head?, 32 < d := by
  intro d hd
  rw [suf_none (of_decide_eq_true (sub_emp (n := 0) (eq_of_bne h)))] at hd
  cases hd
end
/-- a token made, and where the scanner stands then -/
noncomputable def TokR (c : Sc) (k : Str) (b n : Nat) (v : Value) (o : List (Addr × Obj)) : Prop :=
  ∃ t dt val g1 j1 g2 j2 g3 j3 tk tb tp rv rn po, v = .ref t ∧ o = (t, instObj 38 dt) :: (dt, dictOf [⟨g1, .str (Str.ofString "kind") j1, .str k tk⟩, ⟨g2, .str (Str.ofString "value") j2, val⟩, ⟨g3, .str (Str.ofString "place") j3, .int (b : Int) tb⟩] 3) :: full c n tp rv rn po ∧ PlOb po n ∧ rv.length ≤ n
theorem Pick.all' {α : Type} {N : List α} : Pick N [] N := Pick.all
theorem tok_end {g : Heap} {s : Shared} {L' : Addr} {m' : Str → Option Value} {h' : Heap} {tk' : Nat} {c : Sc} {k k' : Str} {b n : Nat} {t dt : Nat} {val : Value} {g1 g2 g3 : Int} {j1 j2 j3 tk tb tp : Tok} {rv : List Value} {rn : Nat} {po : Obj} {Nl rest : List (Addr × Obj)}
    (F : Fr g L' h' m') (N : News g L' h' Nl) (hp : Pick ((t, instObj 38 dt) :: (dt, dictOf [⟨g1, .str (Str.ofString "kind") j1, .str k tk⟩, ⟨g2, .str (Str.ofString "value") j2, val⟩, ⟨g3, .str (Str.ofString "place") j3, .int (b : Int) tb⟩] 3) :: full c n tp rv rn po) rest Nl) (e : k = k') (P : PlOb po n) (hr : rv.length ≤ n) :
    Ret g s (TokR c k' b n) (.ref t) { s with heap := h', toks := tk' } :=
  Ret.pick F N hp (e ▸ ⟨t, dt, val, g1, j1, g2, j2, g3, j3, tk, tb, tp, rv, rn, po, rfl, rfl, P, hr⟩)
noncomputable def NoneR (c : Sc) (n : Nat) (v : Value) (o : List (Addr × Obj)) : Prop := v = .none ∧ ∃ tp rv rn po, o = full c n tp rv rn po ∧ PlOb po n ∧ rv.length ≤ n
theorem NoneR.all {c : Sc} {n : Nat} {v : Value} {o : List (Addr × Obj)} (h : NoneR c n v o) : ∃ tp rv rn po, v = .none ∧ o = full c n tp rv rn po ∧ (PlOb po n ∧ rv.length ≤ n) := by
  obtain ⟨e, tp, rv, rn, po, e2, h⟩ := h
  exact ⟨tp, rv, rn, po, e, e2, h⟩
theorem none_end {g : Heap} {s : Shared} {L' : Addr} {m' : Str → Option Value} {h' : Heap} {tk' : Nat} {c : Sc} {n : Nat} {tp : Tok} {rv : List Value} {rn : Nat} {po : Obj} {Nl rest : List (Addr × Obj)}
    (F : Fr g L' h' m') (N : News g L' h' Nl) (hp : Pick (full c n tp rv rn po) rest Nl) (P : PlOb po n) (hr : rv.length ≤ n) :
    Ret g s (NoneR c n) .none { s with heap := h', toks := tk' } :=
  Ret.pick F N hp ⟨rfl, tp, rv, rn, po, rfl, P, hr⟩
namespace word_sp_at
noncomputable def St (c : Sc) (rv : List Value) (rn : Nat) (po : Obj) (p : Nat) (tp : Tok) (tq : Tok) : Prop := ∀ (ok : c.Ok) (hpo : PlOb po p) (hrv : rv.length ≤ p) (hl : 0 < run wordC (suf c.S p)), Sp 127 5 40 (full c p tp rv rn po) [.ref c.x, .int p tq] (TokR c (if (kwords.any fun z => z == sub c.S p (p + run wordC (suf c.S p))) = true then sub c.S p (p + run wordC (suf c.S p)) else Str.ofString "ident") p (p + run wordC (suf c.S p)))
noncomputable def Pz (z : (Sc) × (List Value) × (Nat) × (Obj) × (Nat) × (Tok) × (Tok)) : Prop := St (z.1) (z.2.1) (z.2.2.1) (z.2.2.2.1) (z.2.2.2.2.1) (z.2.2.2.2.2.1) (z.2.2.2.2.2.2)
theorem ne : Nonempty ((Sc) × (List Value) × (Nat) × (Obj) × (Nat) × (Tok) × (Tok)) := ⟨(Classical.choice sc_ne, default, default, default, default, default, default)⟩
noncomputable def z : (Sc) × (List Value) × (Nat) × (Obj) × (Nat) × (Tok) × (Tok) := ec ne Pz
@[irreducible] noncomputable def c : Sc := z.1
@[irreducible] noncomputable def rv : List Value := z.2.1
@[irreducible] noncomputable def rn : Nat := z.2.2.1
@[irreducible] noncomputable def po : Obj := z.2.2.2.1
@[irreducible] noncomputable def p : Nat := z.2.2.2.2.1
@[irreducible] noncomputable def tp : Tok := z.2.2.2.2.2.1
@[irreducible] noncomputable def tq : Tok := z.2.2.2.2.2.2
@[irreducible] noncomputable def cx : Ctx := fctx 127 5 40 (full c p tp rv rn po) [.ref c.x, .int p tq] (TokR c (if (kwords.any fun z => z == sub c.S p (p + run wordC (suf c.S p))) = true then sub c.S p (p + run wordC (suf c.S p)) else Str.ofString "ident") p (p + run wordC (suf c.S p)))
theorem main : St c rv rn po p tp tq := by
  intro ok hpo hrv hl
  obtain ⟨hS, hw, n1, n2, n3, n4, n5, n6, n7, n8, n9, m4, m5, m6, m7, m8, m9, l1, l2, l3, l4, l5⟩ := ok
  refine' sp_at cx (by with_unfolding_all rfl) [(Str.ofString "self", .ref c.x), (Str.ofString "begun", .int p tq)] ?k6 ?k7 ?k9 ?kB ?c2 ?c3 ?c4 ?c5 ?_
  (((case k6 => intro P; k_is); (case k7 => intro P; k_is); (case kB => exact rfl); (case c2 => exact rfl); (case c3 => exact rfl); (case c4 => exact rfl); (case c5 => decide)); (case k9 => exact rfl); unfold BdC; intros; (try dsimp only); (try k_fold))
  walk_at "steps"
  (rename Fr _ _ _ _ => F0)
  (rename News _ _ _ _ => N0)
  refine ksw_while (σ := Nat × Tok) (fun _ => full c p tp rv rn po) (fun q => [(Str.ofString "end", .int q.1 q.2)]) (fun _ => True) [] (fun q => p + run wordC (suf c.S p) = q.1 + run wordC (suf c.S q.1)) (fun q => c.S.length - q.1) (p, tq) F0 N0 trivial (by kst_all) rfl ?_
  rintro ⟨q, uq⟩ u h tk _ hP F' N'
  dsimp only at hP F' N' ⊢
  clear N0 F0
  (try k_fold)
  walk_at "steps"
  · have e := word_let (x := c.S) (c := q) (by assumption)
    (show KswEnd _ _ _ _ _ _ _ _ _ _ _ _; refine' ksw_end ⟨_, _⟩ (by assumption) (by assumption) ?kn trivial ?kk ?kr ?_ ?_; (case kn => first | exact fun _ h9 => h9 | exact fun _ h9 => absurd h9 List.not_mem_nil); (case kk => kst_all); (case kr => (intro z9 h8 h9; (simp only [List.forall_mem_cons, List.not_mem_nil, false_implies, implies_true, and_true, ne_eq] at h8); (simp [kstB, h8])))) <;> ((try dsimp only at hP ⊢); (first | exact om1 (by with_reducible assumption) (by walk_at "cj") | exact om2 (by walk_at "cj") | exact om3 (by with_reducible assumption) (by walk_at "cj") | exact om4 (by with_reducible assumption) (by walk_at "cj") | exact om5 (by walk_at "cj") | exact om6 (by with_reducible assumption) | exact om7 (by with_reducible assumption) | exact om8 | omega))
  · have e := word_dig (x := c.S) (c := q) (by assumption)
    (show KswEnd _ _ _ _ _ _ _ _ _ _ _ _; refine' ksw_end ⟨_, _⟩ (by assumption) (by assumption) ?kn trivial ?kk ?kr ?_ ?_; (case kn => first | exact fun _ h9 => h9 | exact fun _ h9 => absurd h9 List.not_mem_nil); (case kk => kst_all); (case kr => (intro z9 h8 h9; (simp only [List.forall_mem_cons, List.not_mem_nil, false_implies, implies_true, and_true, ne_eq] at h8); (simp [kstB, h8])))) <;> ((try dsimp only at hP ⊢); (first | exact om1 (by with_reducible assumption) (by walk_at "cj") | exact om2 (by walk_at "cj") | exact om3 (by with_reducible assumption) (by walk_at "cj") | exact om4 (by with_reducible assumption) (by walk_at "cj") | exact om5 (by walk_at "cj") | exact om6 (by with_reducible assumption) | exact om7 (by with_reducible assumption) | exact om8 | omega))
  · (rename News _ _ _ _ => N5)
    have e := word_stop (x := c.S) (c := q) (by assumption) (by assumption)
    obtain rfl : q = p + run wordC (suf c.S p) := by (first | exact om1 (by with_reducible assumption) (by walk_at "cj") | exact om2 (by walk_at "cj") | exact om3 (by with_reducible assumption) (by walk_at "cj") | exact om4 (by with_reducible assumption) (by walk_at "cj") | exact om5 (by walk_at "cj") | exact om6 (by with_reducible assumption) | exact om7 (by with_reducible assumption) | exact om8 | omega)
    refine tok_end (by assumption) N5 Pick.all' (if_pos ?_).symm (hpo.mono (by omega)) (by omega)
    simp only [Int.toNat_natCast] at *; assumption
  · (rename News _ _ _ _ => N5)
    have e := word_stop (x := c.S) (c := q) (by assumption) (by assumption)
    obtain rfl : q = p + run wordC (suf c.S p) := by (first | exact om1 (by with_reducible assumption) (by walk_at "cj") | exact om2 (by walk_at "cj") | exact om3 (by with_reducible assumption) (by walk_at "cj") | exact om4 (by with_reducible assumption) (by walk_at "cj") | exact om5 (by walk_at "cj") | exact om6 (by with_reducible assumption) | exact om7 (by with_reducible assumption) | exact om8 | omega)
    refine tok_end (by assumption) N5 Pick.all' (if_neg ?_).symm (hpo.mono (by omega)) (by omega)
    rw [Bool.not_eq_true]; simp only [Int.toNat_natCast] at *; assumption
end word_sp_at
theorem word_sp (c : Sc) (ok : c.Ok) (rv : List Value) (rn : Nat) (po : Obj) (p : Nat) (tp : Tok) (hpo : PlOb po p) (hrv : rv.length ≤ p) (tq : Tok) (hl : 0 < run wordC (suf c.S p)) : Sp 127 5 40 (full c p tp rv rn po) [.ref c.x, .int p tq] (TokR c (if (kwords.any fun z => z == sub c.S p (p + run wordC (suf c.S p))) = true then sub c.S p (p + run wordC (suf c.S p)) else Str.ofString "ident") p (p + run wordC (suf c.S p))) := by
  have h9 : word_sp_at.Pz (ec word_sp_at.ne word_sp_at.Pz) := by with_unfolding_all exact word_sp_at.main
  exact eps word_sp_at.ne h9 (c, rv, rn, po, p, tp, tq) ok hpo hrv hl
theorem mark_one : True := trivial
local macro_rules | `(tactic| walk_at "call ref") => `(tactic| ((with_reducible show wpAny _ _ (call (Value.ref 322) _) _ _ _); refine' callK (mark_sp _ _ _ _ _ _ _ _ _ _ _ _ ?kx ?ky ?kz ?o1 ?o2 ?o3 ?o4 ?o5 _ _ _ _) ?k1 ?k2 ?k3 ?k4 ?kp ?ka ?k5 ?kK ?kd ?ku ?_; walk_at "useP"; (case kx => assumption); (case ky => assumption); (case kz => omega); (case o1 => assumption); (case o2 => assumption); (case o3 => assumption); (case o4 => assumption); (case o5 => assumption); intro rv9 rn9 po9 h9 tk9 F9 N9 P9 hr9; (try dsimp only [errL, List.nil_append, List.cons_append] at N9); (try simp only [List.append_nil] at N9); walk_at "sw"))
section
local macro_rules | `(tactic| walk_at "binaryOp Add str str") => `(tactic| (refine add_pair ?_; intro t' k'; (try dsimp only); (try k_fold)))
namespace remark_sp_at
noncomputable def St (c : Sc) (rv : List Value) (rn : Nat) (po : Obj) (p : Nat) (tp : Tok) : Prop := ∀ (ok : c.Ok) (hpo : PlOb po p) (hrv : rv.length ≤ p) (h2 : suf c.S p = 40 :: 42 :: suf c.S (p + 2)) (h3 : p + 2 ≤ c.S.length), Sp 120 5 40 (full c p tp rv rn po) [.ref c.x] (NoneR c (remTo c.S p))
noncomputable def Pz (z : (Sc) × (List Value) × (Nat) × (Obj) × (Nat) × (Tok)) : Prop := St (z.1) (z.2.1) (z.2.2.1) (z.2.2.2.1) (z.2.2.2.2.1) (z.2.2.2.2.2)
theorem ne : Nonempty ((Sc) × (List Value) × (Nat) × (Obj) × (Nat) × (Tok)) := ⟨(Classical.choice sc_ne, default, default, default, default, default)⟩
noncomputable def z : (Sc) × (List Value) × (Nat) × (Obj) × (Nat) × (Tok) := ec ne Pz
@[irreducible] noncomputable def c : Sc := z.1
@[irreducible] noncomputable def rv : List Value := z.2.1
@[irreducible] noncomputable def rn : Nat := z.2.2.1
@[irreducible] noncomputable def po : Obj := z.2.2.2.1
@[irreducible] noncomputable def p : Nat := z.2.2.2.2.1
@[irreducible] noncomputable def tp : Tok := z.2.2.2.2.2
@[irreducible] noncomputable def cx : Ctx := fctx 120 5 40 (full c p tp rv rn po) [.ref c.x] (NoneR c (remTo c.S p))
theorem main : St c rv rn po p tp := by
  intro ok hpo hrv h2 h3
  obtain ⟨hS, hw, n1, n2, n3, n4, n5, n6, n7, n8, n9, m4, m5, m6, m7, m8, m9, l1, l2, l3, l4, l5⟩ := ok
  refine' sp_at cx (by with_unfolding_all rfl) [(Str.ofString "self", .ref c.x)] ?k6 ?k7 ?k9 ?kB ?c2 ?c3 ?c4 ?c5 ?_
  (((case k6 => intro P; k_is); (case k7 => intro P; k_is); (case kB => exact rfl); (case c2 => exact rfl); (case c3 => exact rfl); (case c4 => exact rfl); (case c5 => decide)); (case k9 => exact rfl); unfold BdC; intros; (try dsimp only); (try k_fold))
  walk_at "steps"
  (rename Fr _ _ _ _ => F0)
  (rename News _ _ _ _ => N0)
  refine ksw_while (σ := (Nat × Tok) × (Int × Tok)) (fun q => full c q.1.1 q.1.2 rv rn po) (fun q => [(Str.ofString "depth", .int q.2.1 q.2.2)]) (fun _ => True) [Str.ofString "pair"] (fun q => remAt c.S q.2.1 q.1.1 = remTo c.S p ∧ q.1.1 ≤ c.S.length ∧ p + 2 ≤ q.1.1 ∧ 0 ≤ q.2.1) (fun q => c.S.length - q.1.1) ((p + 2, _), (1, _)) F0 N0 trivial (by kst_all) ⟨rem_start h2, h3, Nat.le_refl _, (by decide : (0:Int) ≤ 1)⟩ ?_
  rintro ⟨⟨q, uq⟩, D, uD⟩ u h tk _ ⟨hP1, hP2, hP3, hP4⟩ F' N'
  dsimp only at hP1 hP2 hP3 hP4 F' N' ⊢
  clear N0 F0
  (try k_fold)
  walk_at "steps"
  · have e := of_decide_eq_true (sub_emp (n := 1) (by assumption))
    have e2 := remAt_end (S := c.S) (D := D) (by assumption) e
    obtain rfl : q = remTo c.S p := by omega
    (rename News _ _ _ _ => N5)
    (rename PlOb _ _ => P5)
    (rename _ ≤ p + 1 => H5)
    refine' none_end (by assumption) N5 ?hp (PlOb.mono P5 (by omega)) ?hr
    (case hp => walk_at "pick")
    (case hr => (first | exact om1 (by with_reducible assumption) (by walk_at "cj") | exact om2 (by walk_at "cj") | exact om3 (by with_reducible assumption) (by walk_at "cj") | exact om4 (by with_reducible assumption) (by walk_at "cj") | exact om5 (by walk_at "cj") | exact om6 (by with_reducible assumption) | exact om7 (by with_reducible assumption) | exact om8 | omega))
  · have e := remAt_open (S := c.S) (q := q) (D := D) (by assumption) (by assumption)
    refine Hold.out ?_
    refine ksw_end (c' := ((q + 2, _), (D + 1, _))) (by assumption) (by assumption) (fun _ h9 => h9) trivial (by kst_all) (by (intro z9 h8 h9; (simp only [List.forall_mem_cons, List.not_mem_nil, List.contains_cons, List.contains_nil, Bool.or_false, Bool.or_eq_false_iff, beq_eq_false_iff_ne, false_implies, implies_true, and_true, ne_eq] at h8 h9); (simp [kstB, h8, h9]))) ?_ ?_ <;> (try dsimp only) <;> (try refine ⟨?_, ?_, ?_, ?_⟩) <;> (first | exact om1 (by with_reducible assumption) (by walk_at "cj") | exact om2 (by walk_at "cj") | exact om3 (by with_reducible assumption) (by walk_at "cj") | exact om4 (by with_reducible assumption) (by walk_at "cj") | exact om5 (by walk_at "cj") | exact om6 (by with_reducible assumption) | exact om7 (by with_reducible assumption) | exact om8 | omega)
  · have e := remAt_close (S := c.S) (q := q) (D := D) (by assumption) (by assumption)
    refine Hold.out ?_
    refine ksw_end (c' := ((q + 2, _), (D - 1, _))) (by assumption) (by assumption) (fun _ h9 => h9) trivial (by kst_all) (by (intro z9 h8 h9; (simp only [List.forall_mem_cons, List.not_mem_nil, List.contains_cons, List.contains_nil, Bool.or_false, Bool.or_eq_false_iff, beq_eq_false_iff_ne, false_implies, implies_true, and_true, ne_eq] at h8 h9); (simp [kstB, h8, h9]))) ?_ ?_ <;> (try dsimp only) <;> (try refine ⟨?_, ?_, ?_, ?_⟩) <;> (first | exact om1 (by with_reducible assumption) (by walk_at "cj") | exact om2 (by walk_at "cj") | exact om3 (by with_reducible assumption) (by walk_at "cj") | exact om4 (by with_reducible assumption) (by walk_at "cj") | exact om5 (by walk_at "cj") | exact om6 (by with_reducible assumption) | exact om7 (by with_reducible assumption) | exact om8 | omega)
  · have e := remAt_other (S := c.S) (q := q) (D := D) (by assumption) (by assumption) (by assumption)
    have e1 := of_decide_eq_false (sub_emp (S := c.S) (q := q) (n := 1) (by assumption))
    refine Hold.out ?_
    refine ksw_end (c' := ((q + 1, _), (D, _))) (by assumption) (by assumption) (fun _ h9 => h9) trivial (by kst_all) (by (intro z9 h8 h9; (simp only [List.forall_mem_cons, List.not_mem_nil, List.contains_cons, List.contains_nil, Bool.or_false, Bool.or_eq_false_iff, beq_eq_false_iff_ne, false_implies, implies_true, and_true, ne_eq] at h8 h9); (simp [kstB, h8, h9]))) ?_ ?_ <;> (try dsimp only) <;> (try refine ⟨?_, ?_, ?_, ?_⟩) <;> (first | exact om1 (by with_reducible assumption) (by walk_at "cj") | exact om2 (by walk_at "cj") | exact om3 (by with_reducible assumption) (by walk_at "cj") | exact om4 (by with_reducible assumption) (by walk_at "cj") | exact om5 (by walk_at "cj") | exact om6 (by with_reducible assumption) | exact om7 (by with_reducible assumption) | exact om8 | omega)
  · obtain rfl : D = 0 := by omega
    have e : q = remTo c.S p := by rw [← hP1]; rfl
    subst e
    exact none_end (by assumption) (by assumption) Pick.all' (hpo.mono (by omega)) (by omega)
end remark_sp_at
theorem remark_sp (c : Sc) (ok : c.Ok) (rv : List Value) (rn : Nat) (po : Obj) (p : Nat) (tp : Tok) (hpo : PlOb po p) (hrv : rv.length ≤ p) (h2 : suf c.S p = 40 :: 42 :: suf c.S (p + 2)) (h3 : p + 2 ≤ c.S.length) : Sp 120 5 40 (full c p tp rv rn po) [.ref c.x] (NoneR c (remTo c.S p)) := by
  have h9 : remark_sp_at.Pz (ec remark_sp_at.ne remark_sp_at.Pz) := by with_unfolding_all exact remark_sp_at.main
  exact eps remark_sp_at.ne h9 (c, rv, rn, po, p, tp) ok hpo hrv h2 h3
end
theorem mark_two : True := trivial
local macro_rules | `(tactic| walk_at "call builtin:ord") => `(tactic| ((with_reducible show wpAny _ _ (call (Value.builtin "ord") [Value.str (sub _ _ (_ + 1)) _]) _ _ _); refine ord_of_one (ne_len (by first | assumption | exact ne_of_bne (by assumption))) ?_; (try dsimp only); (try k_fold)))
namespace skip_sp_at
noncomputable def St (c : Sc) (rv : List Value) (rn : Nat) (po : Obj) (p : Nat) (tp : Tok) (n : Nat) : Prop := ∀ (ok : c.Ok) (hpo : PlOb po p) (hrv : rv.length ≤ p) (hn : Skips c.S p n), Sp 113 8 64 (full c p tp rv rn po) [.ref c.x] (NoneR c n)
noncomputable def Pz (z : (Sc) × (List Value) × (Nat) × (Obj) × (Nat) × (Tok) × (Nat)) : Prop := St (z.1) (z.2.1) (z.2.2.1) (z.2.2.2.1) (z.2.2.2.2.1) (z.2.2.2.2.2.1) (z.2.2.2.2.2.2)
theorem ne : Nonempty ((Sc) × (List Value) × (Nat) × (Obj) × (Nat) × (Tok) × (Nat)) := ⟨(Classical.choice sc_ne, default, default, default, default, default, default)⟩
noncomputable def z : (Sc) × (List Value) × (Nat) × (Obj) × (Nat) × (Tok) × (Nat) := ec ne Pz
@[irreducible] noncomputable def c : Sc := z.1
@[irreducible] noncomputable def rv : List Value := z.2.1
@[irreducible] noncomputable def rn : Nat := z.2.2.1
@[irreducible] noncomputable def po : Obj := z.2.2.2.1
@[irreducible] noncomputable def p : Nat := z.2.2.2.2.1
@[irreducible] noncomputable def tp : Tok := z.2.2.2.2.2.1
@[irreducible] noncomputable def n : Nat := z.2.2.2.2.2.2
@[irreducible] noncomputable def cx : Ctx := fctx 113 8 64 (full c p tp rv rn po) [.ref c.x] (NoneR c n)
theorem main : St c rv rn po p tp n := by
  intro ok hpo hrv hn
  have ok' := ok
  obtain ⟨hS, hw, n1, n2, n3, n4, n5, n6, n7, n8, n9, m4, m5, m6, m7, m8, m9, l1, l2, l3, l4, l5⟩ := ok
  refine' sp_at cx (by with_unfolding_all rfl) [(Str.ofString "self", .ref c.x)] ?k6 ?k7 ?k9 ?kB ?c2 ?c3 ?c4 ?c5 ?_
  (((case k6 => intro P; k_is); (case k7 => intro P; k_is); (case kB => exact rfl); (case c2 => exact rfl); (case c3 => exact rfl); (case c4 => exact rfl); (case c5 => decide)); (case k9 => exact rfl); unfold BdC; intros; (try dsimp only); (try k_fold))
  walk_at "steps"
  (rename Fr _ _ _ _ => F0)
  (rename News _ _ _ _ => N0)
  refine ksw_while (σ := (Nat × Tok) × (List Value × Nat × Obj)) (fun q => full c q.1.1 q.1.2 q.2.1 q.2.2.1 q.2.2.2) (fun _ => []) (fun _ => True) [Str.ofString "char"] (fun q => Skips c.S q.1.1 n ∧ PlOb q.2.2.2 q.1.1 ∧ q.2.1.length ≤ q.1.1) (fun q => c.S.length - q.1.1) ((p, _), (rv, rn, po)) F0 N0 trivial (by kst_all) ⟨hn, hpo, hrv⟩ ?_
  rintro ⟨⟨q, uq⟩, rv1, rn1, po1⟩ u h tk _ ⟨hP1, hP2, hP3⟩ F' N'
  dsimp only at hP1 hP2 hP3 F' N' ⊢
  clear N0 F0 hrv hpo
  (try k_fold)
  walk_at "steps"
  · refine Hold.out ?_
    obtain ⟨e1, e2, e3⟩ := skips_rem (by assumption) (by assumption) hP1
    refine' callE4 (remark_sp c ok' _ _ _ _ _ ?kx ?ky e2 e3) (fun _ _ h => h.all) ?k1 ?k2 ?k3 ?k4 ?kp ?ka ?k5 ?kK ?kd ?ku ?_
    walk_at "useP"
    (case kx => exact hP2)
    (case ky => exact hP3)
    (intro tp9 rv9 rn9 po9 h9 tk9 F9 N9 A9 R9; (have P9 := R9.1); (have hr9 := R9.2); clear A9 R9; (try dsimp only [full, List.nil_append, List.cons_append] at N9); (try simp only [List.append_nil] at N9); walk_at "sw")
    walk_at "steps"
    refine Hold.out ?_
    have e5 := remTo_le e2 e3
    refine ksw_end (c' := ((remTo c.S q, _), (_, _, _))) (by assumption) (by assumption) (fun _ h9 => h9) trivial (by kst_all) (by (intro z9 h8 h9; (simp only [List.forall_mem_cons, List.not_mem_nil, List.contains_cons, List.contains_nil, Bool.or_false, Bool.or_eq_false_iff, beq_eq_false_iff_ne, false_implies, implies_true, and_true, ne_eq] at h8 h9); (simp [kstB, h8, h9]))) ⟨e1, by assumption, by assumption⟩ (by (try dsimp only); (first | exact om1 (by with_reducible assumption) (by walk_at "cj") | exact om2 (by walk_at "cj") | exact om3 (by with_reducible assumption) (by walk_at "cj") | exact om4 (by with_reducible assumption) (by walk_at "cj") | exact om5 (by walk_at "cj") | exact om6 (by with_reducible assumption) | exact om7 (by with_reducible assumption) | exact om8 | omega))
  · obtain ⟨e1, e2⟩ := skips_gap (by assumption) (by assumption) hP1
    refine Hold.out ?_
    refine ksw_end (c' := ((q + 1, _), (_, _, _))) (by assumption) (by assumption) (fun _ h9 => h9) trivial (by kst_all) (by (intro z9 h8 h9; (simp only [List.forall_mem_cons, List.not_mem_nil, List.contains_cons, List.contains_nil, Bool.or_false, Bool.or_eq_false_iff, beq_eq_false_iff_ne, false_implies, implies_true, and_true, ne_eq] at h8 h9); (simp [kstB, h8, h9]))) ⟨e1, hP2.mono (Nat.le_succ _), Nat.le_succ_of_le hP3⟩ (by (try dsimp only); (first | exact om1 (by with_reducible assumption) (by walk_at "cj") | exact om2 (by walk_at "cj") | exact om3 (by with_reducible assumption) (by walk_at "cj") | exact om4 (by with_reducible assumption) (by walk_at "cj") | exact om5 (by walk_at "cj") | exact om6 (by with_reducible assumption) | exact om7 (by with_reducible assumption) | exact om8 | omega))
  · obtain rfl := skips_stop (not_rem1 (by assumption)) (head_gt (by assumption) (by assumption)) hP1
    exact none_end (by assumption) (by assumption) Pick.all' hP2 hP3
  · obtain rfl := skips_stop (not_rem1 (by assumption)) (head_nil (by assumption)) hP1
    exact none_end (by assumption) (by assumption) Pick.all' hP2 hP3
  · obtain ⟨e1, e2⟩ := skips_gap (by assumption) (by assumption) hP1
    refine Hold.out ?_
    refine ksw_end (c' := ((q + 1, _), (_, _, _))) (by assumption) (by assumption) (fun _ h9 => h9) trivial (by kst_all) (by (intro z9 h8 h9; (simp only [List.forall_mem_cons, List.not_mem_nil, List.contains_cons, List.contains_nil, Bool.or_false, Bool.or_eq_false_iff, beq_eq_false_iff_ne, false_implies, implies_true, and_true, ne_eq] at h8 h9); (simp [kstB, h8, h9]))) ⟨e1, hP2.mono (Nat.le_succ _), Nat.le_succ_of_le hP3⟩ (by (try dsimp only); (first | exact om1 (by with_reducible assumption) (by walk_at "cj") | exact om2 (by walk_at "cj") | exact om3 (by with_reducible assumption) (by walk_at "cj") | exact om4 (by with_reducible assumption) (by walk_at "cj") | exact om5 (by walk_at "cj") | exact om6 (by with_reducible assumption) | exact om7 (by with_reducible assumption) | exact om8 | omega))
  · obtain rfl := skips_stop (not_rem2 (by assumption)) (head_gt (by assumption) (by assumption)) hP1
    exact none_end (by assumption) (by assumption) Pick.all' hP2 hP3
  · obtain rfl := skips_stop (not_rem2 (by assumption)) (head_nil (by assumption)) hP1
    exact none_end (by assumption) (by assumption) Pick.all' hP2 hP3
end skip_sp_at
theorem skip_sp (c : Sc) (ok : c.Ok) (rv : List Value) (rn : Nat) (po : Obj) (p : Nat) (tp : Tok) (hpo : PlOb po p) (hrv : rv.length ≤ p) (n : Nat) (hn : Skips c.S p n) : Sp 113 8 64 (full c p tp rv rn po) [.ref c.x] (NoneR c n) := by
  have h9 : skip_sp_at.Pz (ec skip_sp_at.ne skip_sp_at.Pz) := by with_unfolding_all exact skip_sp_at.main
  exact eps skip_sp_at.ne h9 (c, rv, rn, po, p, tp, n) ok hpo hrv hn
theorem rst_M8 : Hold True := by (w_top off); first | walk1 | exact True.intro
theorem warm_M8 : ∀ P, (Challenge.rw_pb0353_01, hd.heap_1 P) = (Challenge.rw_pb0353_01, hd.heap_1 P) := by k_fill; intro P; rfl
local macro_rules | `(tactic| walk_at "call ref") => `(tactic| ((with_reducible show wpAny _ _ (call (Value.ref 169) _) _ _ _); refine' callS (skip_digits_sp _ _ _ _ _ _ _ _ _ _ _ _ _ _ _ _ ?kx ?ky) ?k1 ?k2 ?k3 ?k4 ?kp ?ka ?k5 ?kK ?kd ?ku ?_; walk_at "useP"; (case kx => assumption); (case ky => assumption); intro t9; walk_at "gm"))
section
local macro_rules | `(tactic| walk_at "exec For") => `(tactic| refine Hold.out ?_)
local macro_rules | `(tactic| walk_at "pyIter str") => `(tactic| refine Hold.out ?_)
local macro_rules | `(tactic| walk_at "pyIter ref") => `(tactic| refine Hold.out ?_)
local macro_rules | `(tactic| walk_at "GPost") => `(tactic| (dsimp only [GPost]))
local macro_rules | `(tactic| walk_at "GEnd") => `(tactic| refine Hold.out ?_)
theorem find_hex {n : Nat} (h : hexC n = true) : 0 ≤ Txt.find (Str.ofString "0123456789ABCDEF") { cps := #[n] } := by
  have hm : n < 71 := by
    unfold hexC digC at h
    simp only [Bool.or_eq_true, Bool.and_eq_true, decide_eq_true_eq] at h
    rcases h with h | h
    · exact Nat.lt_of_le_of_lt h.2 (by decide)
    · exact Nat.lt_of_le_of_lt h.2 (by decide)
  have hd : ∀ n : Fin 71, hexC n.val = true → 0 ≤ Txt.find (Str.ofString "0123456789ABCDEF") { cps := #[n.val] } := by decide +kernel
  exact hd ⟨n, hm⟩ h
theorem codes_mem {x : Str} {pre post : List Int} {n : Nat} (h : KStt.codes x = pre ++ (n : Int) :: post) : n ∈ x.cps.toList := by
  have hm : (n : Int) ∈ KStt.codes x := by rw [h]; simp
  obtain ⟨c, hc, e⟩ := List.mem_map.mp hm
  have e' : (c : Int) = (n : Int) := e
  have : c = n := by omega
  exact this ▸ hc
namespace digits_value_sp_at
noncomputable def St (x : Str) (t : Tok) (base : Int) (most : Int) (tb : Tok) (tm : Tok) : Prop := ∀ (hx : x.length ≤ 1048576) (hc : ∀ c ∈ x.cps.toList, hexC c = true) (b0 : 0 ≤ base) (b1 : base ≤ 16) (m0 : 0 ≤ most) (m1 : most ≤ 4294967295), Sp 77 1 8 [] [.str x t, .int base tb, .int most tm] (fun v o => o = [] ∧ ∃ n u, v = .int n u ∧ 0 ≤ n ∧ n ≤ most + 1)
noncomputable def Pz (z : (Str) × (Tok) × (Int) × (Int) × (Tok) × (Tok)) : Prop := St (z.1) (z.2.1) (z.2.2.1) (z.2.2.2.1) (z.2.2.2.2.1) (z.2.2.2.2.2)
theorem ne : Nonempty ((Str) × (Tok) × (Int) × (Int) × (Tok) × (Tok)) := ⟨(default, default, default, default, default, default)⟩
noncomputable def z : (Str) × (Tok) × (Int) × (Int) × (Tok) × (Tok) := ec ne Pz
@[irreducible] noncomputable def x : Str := z.1
@[irreducible] noncomputable def t : Tok := z.2.1
@[irreducible] noncomputable def base : Int := z.2.2.1
@[irreducible] noncomputable def most : Int := z.2.2.2.1
@[irreducible] noncomputable def tb : Tok := z.2.2.2.2.1
@[irreducible] noncomputable def tm : Tok := z.2.2.2.2.2
@[irreducible] noncomputable def cx : Ctx := fctx 77 1 8 [] [.str x t, .int base tb, .int most tm] (fun v o => o = [] ∧ ∃ n u, v = .int n u ∧ 0 ≤ n ∧ n ≤ most + 1)
theorem main : St x t base most tb tm := by
  intro hx hc b0 b1 m0 m1
  refine' sp_at cx (by with_unfolding_all rfl) [(Str.ofString "digits", .str x t), (Str.ofString "base", .int base tb), (Str.ofString "most", .int most tm)] ?k6 ?k7 ?k9 ?kB ?c2 ?c3 ?c4 ?c5 ?_
  (((case k6 => intro P; k_is); (case k7 => intro P; k_is); (case kB => exact rfl); (case c2 => exact rfl); (case c3 => exact rfl); (case c4 => exact rfl); (case c5 => decide)); (case k9 => exact rfl); unfold BdC; intros; (try dsimp only); (try k_fold))
  walk_at "steps"
  refine Hold.out ?_
  (rename Fr _ _ _ _ => F0)
  refine For_invVF F0 rfl rfl ?_
  (try k_fold)
  walk_at "steps"
  refine Hold.out ?_
  (rename Fr _ _ _ _ => F1)
  (rename News _ _ _ _ => N1)
  refine KStt.kst_text (σ := Int × Tok) (fun _ => []) (fun c => [(Str.ofString "value", .int c.1 c.2)]) (fun _ => True) [] (fun _ c => 0 ≤ c.1 ∧ c.1 ≤ most) (0, _) rfl F1 N1 trivial (by kst_all) ⟨Int.le_refl _, m0⟩ ?_ ?_
  · rintro ⟨v, tv⟩ pre post n t' u h tk own hx' hoff _ ⟨hv0, hv1⟩ F2 N2
    dsimp only at hv0 hv1 F2 N2 ⊢
    (try k_fold)
    walk_at "steps"
    · exact Ret.intro (by assumption) News.nil ⟨rfl, _, _, rfl, by omega, Int.le_refl _⟩
    · (rename Fr _ _ _ _ => F5)
      (rename News _ _ _ _ => N5)
      have hv : 0 ≤ v * base := Int.mul_nonneg hv0 b0
      have hf : 0 ≤ Txt.find (Str.ofString "0123456789ABCDEF") { cps := #[n] } := find_hex (hc n (codes_mem hx'))
      refine InvEndN.intro F5 N5 ⟨(_, _), rfl, trivial, by kst_all, by (intro z9 g9 h8 h9; (simp only [List.forall_mem_cons, List.not_mem_nil, List.contains_cons, List.contains_nil, Bool.or_false, Bool.or_eq_false_iff, beq_eq_false_iff_ne, false_implies, implies_true, and_true, ne_eq] at h8 h9); (simp [kstB, h8, h9, g9])), ?_, ?_⟩ rfl (fun _ h9 => absurd h9 List.not_mem_nil) (fun _ h9 => h9)
      · show 0 ≤ v * base + _; omega
      · show v * base + _ ≤ most; omega
  · rintro ⟨v, tv⟩ u h tk _ ⟨hv0, hv1⟩ F2 N2
    dsimp only at hv0 hv1 F2 N2 ⊢
    (try k_fold)
    walk_at "steps"
    exact Ret.intro (by assumption) (by assumption) ⟨rfl, _, _, rfl, hv0, by omega⟩
end digits_value_sp_at
theorem digits_value_sp (x : Str) (t : Tok) (base most : Int) (tb tm : Tok) (hx : x.length ≤ 1048576) (hc : ∀ c ∈ x.cps.toList, hexC c = true) (b0 : 0 ≤ base) (b1 : base ≤ 16) (m0 : 0 ≤ most) (m1 : most ≤ 4294967295) : Sp 77 1 8 [] [.str x t, .int base tb, .int most tm] (fun v o => o = [] ∧ ∃ n u, v = .int n u ∧ 0 ≤ n ∧ n ≤ most + 1) := by
  have h9 : digits_value_sp_at.Pz (ec digits_value_sp_at.ne digits_value_sp_at.Pz) := by with_unfolding_all exact digits_value_sp_at.main
  exact eps digits_value_sp_at.ne h9 (x, t, base, most, tb, tm) hx hc b0 b1 m0 m1
noncomputable def TokI (c : Sc) (k : Str) (b n : Nat) (v : Value) (o : List (Addr × Obj)) : Prop :=
  ∃ (t dt : Nat) (z : Int) (u : Tok) (g1 : Int) (j1 : Tok) (g2 : Int) (j2 : Tok) (g3 : Int) (j3 : Tok) (tk tb tp : Tok) (rv : List Value) (rn : Nat) (po : Obj), v = .ref t ∧ o = (t, instObj 38 dt) :: (dt, dictOf [⟨g1, .str (Str.ofString "kind") j1, .str k tk⟩, ⟨g2, .str (Str.ofString "value") j2, .int z u⟩, ⟨g3, .str (Str.ofString "place") j3, .int (b : Int) tb⟩] 3) :: full c n tp rv rn po ∧ PlOb po n ∧ rv.length ≤ n ∧ ∀ q ∈ full c n tp rv rn po, dt ≠ q.1
theorem TokI.all {c : Sc} {k : Str} {b n : Nat} {v : Value} {o : List (Addr × Obj)} (h : TokI c k b n v o) : ∃ t dt z u g1 j1 g2 j2 g3 j3 tk tb tp rv rn po, v = .ref t ∧ o = (t, instObj 38 dt) :: (dt, dictOf [⟨g1, .str (Str.ofString "kind") j1, .str k tk⟩, ⟨g2, .str (Str.ofString "value") j2, .int z u⟩, ⟨g3, .str (Str.ofString "place") j3, .int (b : Int) tb⟩] 3) :: full c n tp rv rn po ∧ (PlOb po n ∧ rv.length ≤ n ∧ ∀ q ∈ full c n tp rv rn po, dt ≠ q.1) := h
theorem TokI.tok {c : Sc} {k : Str} {b n : Nat} {v : Value} {o : List (Addr × Obj)} (h : TokI c k b n v o) : TokR c k b n v o := by
  obtain ⟨t, dt, z, u, g1, j1, g2, j2, g3, j3, tk, tb, tp, rv, rn, po, e, h, P, r, _⟩ := h
  exact ⟨t, dt, _, g1, j1, g2, j2, g3, j3, tk, tb, tp, rv, rn, po, e, h, P, r⟩
theorem Pick.mem' {α : Type} {own rest N : List α} (h : Pick own rest N) : ∀ x ∈ own, x ∈ N := fun x hx => h.mem x (List.mem_append_left _ hx)
theorem tok_endI {g : Heap} {s : Shared} {L' : Addr} {m' : Str → Option Value} {h' : Heap} {tk' : Nat} {c : Sc} {k k' : Str} {b n : Nat} {t dt : Nat} {z : Int} {u : Tok} {g1 g2 g3 : Int} {j1 j2 j3 tk tb tp : Tok} {rv : List Value} {rn : Nat} {po : Obj} {Rl rest : List (Addr × Obj)}
    (F : Fr g L' h' m') (N : News g L' h' ((t, instObj 38 dt) :: (dt, dictOf [⟨g1, .str (Str.ofString "kind") j1, .str k tk⟩, ⟨g2, .str (Str.ofString "value") j2, .int z u⟩, ⟨g3, .str (Str.ofString "place") j3, .int (b : Int) tb⟩] 3) :: Rl)) (A : Apart [(t, instObj 38 dt), (dt, dictOf [⟨g1, .str (Str.ofString "kind") j1, .str k tk⟩, ⟨g2, .str (Str.ofString "value") j2, .int z u⟩, ⟨g3, .str (Str.ofString "place") j3, .int (b : Int) tb⟩] 3)] Rl) (hp : Pick (full c n tp rv rn po) rest Rl) (e : k = k') (P : PlOb po n) (hr : rv.length ≤ n) :
    Ret g s (TokI c k' b n) (.ref t) { s with heap := h', toks := tk' } := by
  subst e
  refine Ret.intro F (news_sub N ?_) ⟨t, dt, z, u, g1, j1, g2, j2, g3, j3, tk, tb, tp, rv, rn, po, rfl, rfl, P, hr, fun q hq => A _ (.tail _ (.head _)) q (hp.mem' q hq)⟩
  intro p hp'
  rcases List.mem_cons.mp hp' with rfl | hp'
  · exact .head _
  · rcases List.mem_cons.mp hp' with rfl | hp'
    · exact .tail _ (.head _)
    · exact .tail _ (.tail _ (hp.mem' _ hp'))
noncomputable def realEnd (x : Str) (d : Nat) : Nat :=
  let e := d + 1 + run digC (suf x (d + 1))
  if tIs "E" x e = false then e else
  let b := if tPM x (e + 1) = true then e + 1 + 1 else e + 1
  if run digC (suf x b) = 0 then e else b + run digC (suf x b)
theorem pm_is (S : Str) (q : Nat) : tPM S q = ((sub S q (q + 1) == Str.ofString "+") || (sub S q (q + 1) == Str.ofString "-")) := by
  unfold tPM
  simp only [List.any_cons, List.any_nil, Bool.or_false]
  rw [beq_comm' _ (sub S q (q + 1)), beq_comm' _ (sub S q (q + 1))]
theorem pm_1 {S : Str} {q : Nat} (h : (sub S q (q + 1) == Str.ofString "+") = true) : tPM S q = true := by rw [pm_is, h]; rfl
theorem pm_2 {S : Str} {q : Nat} (h : (sub S q (q + 1) == Str.ofString "-") = true) : tPM S q = true := by rw [pm_is, h]; exact Bool.or_true _
theorem pm_3 {S : Str} {q : Nat} (h : (sub S q (q + 1) == Str.ofString "+") = false) (h' : (sub S q (q + 1) == Str.ofString "-") = false) : tPM S q = false := by rw [pm_is, h, h']; rfl
theorem dig_go {S : Str} {q : Nat} (h : isDig (sub S q (q + 1)) = true) : run digC (suf S q) = run digC (suf S (q + 1)) + 1 ∧ q < S.length := sign_dig.go (fun _ h => h) (by rw [Int.toNat_natCast, toNat_1]; exact h)
theorem dig_no {S : Str} {q : Nat} (h : isDig (sub S q (q + 1)) = false) : run digC (suf S q) = 0 := sign_dig.stop (by rw [Int.toNat_natCast, toNat_1]; exact h)
end
section
variable {S : Str} {p : Nat}
theorem real_end (h : (sub S (p + 1 + run digC (suf S (p + 1))) (p + 1 + run digC (suf S (p + 1)) + 1) == Str.ofString "E") = false) : realEnd S p = p + 1 + run digC (suf S (p + 1)) := by
  unfold realEnd
  simp only
  rw [if_pos (by unfold tIs; exact h)]
theorem real_k {b : Bool} {k : Nat} (h : (sub S (p + 1 + run digC (suf S (p + 1))) (p + 1 + run digC (suf S (p + 1)) + 1) == Str.ofString "E") = true) (hb : tPM S (p + 1 + run digC (suf S (p + 1)) + 1) = b) (hk : k = if b = true then p + 1 + run digC (suf S (p + 1)) + 1 + 1 else p + 1 + run digC (suf S (p + 1)) + 1) :
    realEnd S p = if run digC (suf S k) = 0 then p + 1 + run digC (suf S (p + 1)) else k + run digC (suf S k) := by
  unfold realEnd
  simp only
  rw [if_neg (by unfold tIs; rw [h]; exact Bool.noConfusion), hb, ← hk]
theorem real_yes {b : Bool} {k : Nat} (h : (sub S (p + 1 + run digC (suf S (p + 1))) (p + 1 + run digC (suf S (p + 1)) + 1) == Str.ofString "E") = true) (hb : tPM S (p + 1 + run digC (suf S (p + 1)) + 1) = b) (hk : k = if b = true then p + 1 + run digC (suf S (p + 1)) + 1 + 1 else p + 1 + run digC (suf S (p + 1)) + 1)
    (hd : isDig (sub S k (k + 1)) = true) : realEnd S p = k + run digC (suf S k) := by
  rw [real_k h hb hk, if_neg (by have := dig_go hd; omega)]
theorem real_no {b : Bool} {k : Nat} (h : (sub S (p + 1 + run digC (suf S (p + 1))) (p + 1 + run digC (suf S (p + 1)) + 1) == Str.ofString "E") = true) (hb : tPM S (p + 1 + run digC (suf S (p + 1)) + 1) = b) (hk : k = if b = true then p + 1 + run digC (suf S (p + 1)) + 1 + 1 else p + 1 + run digC (suf S (p + 1)) + 1)
    (hd : isDig (sub S k (k + 1)) = false) : realEnd S p = p + 1 + run digC (suf S (p + 1)) := by
  rw [real_k h hb hk, if_pos (dig_no hd)]
end
namespace whole_sp_at
noncomputable def St (c : Sc) (rv : List Value) (rn : Nat) (po : Obj) (p : Nat) (tp : Tok) (m : Nat) (b : Nat) (tb : Tok) (v : Int) (most : Int) (tv : Tok) (tm : Tok) : Prop := ∀ (ok : c.Ok) (hpo : PlOb po m) (hrv : rv.length ≤ m) (hm : m + 1 ≤ p) (hp : p ≤ 1048577), Sp 141 4 32 (full c p tp rv rn po) [.ref c.x, .int b tb, .int v tv, .int most tm] (TokI c (Str.ofString "int") b p)
noncomputable def Pz (z : (Sc) × (List Value) × (Nat) × (Obj) × (Nat) × (Tok) × (Nat) × (Nat) × (Tok) × (Int) × (Int) × (Tok) × (Tok)) : Prop := St (z.1) (z.2.1) (z.2.2.1) (z.2.2.2.1) (z.2.2.2.2.1) (z.2.2.2.2.2.1) (z.2.2.2.2.2.2.1) (z.2.2.2.2.2.2.2.1) (z.2.2.2.2.2.2.2.2.1) (z.2.2.2.2.2.2.2.2.2.1) (z.2.2.2.2.2.2.2.2.2.2.1) (z.2.2.2.2.2.2.2.2.2.2.2.1) (z.2.2.2.2.2.2.2.2.2.2.2.2)
theorem ne : Nonempty ((Sc) × (List Value) × (Nat) × (Obj) × (Nat) × (Tok) × (Nat) × (Nat) × (Tok) × (Int) × (Int) × (Tok) × (Tok)) := ⟨(Classical.choice sc_ne, default, default, default, default, default, default, default, default, default, default, default, default)⟩
noncomputable def z : (Sc) × (List Value) × (Nat) × (Obj) × (Nat) × (Tok) × (Nat) × (Nat) × (Tok) × (Int) × (Int) × (Tok) × (Tok) := ec ne Pz
@[irreducible] noncomputable def c : Sc := z.1
@[irreducible] noncomputable def rv : List Value := z.2.1
@[irreducible] noncomputable def rn : Nat := z.2.2.1
@[irreducible] noncomputable def po : Obj := z.2.2.2.1
@[irreducible] noncomputable def p : Nat := z.2.2.2.2.1
@[irreducible] noncomputable def tp : Tok := z.2.2.2.2.2.1
@[irreducible] noncomputable def m : Nat := z.2.2.2.2.2.2.1
@[irreducible] noncomputable def b : Nat := z.2.2.2.2.2.2.2.1
@[irreducible] noncomputable def tb : Tok := z.2.2.2.2.2.2.2.2.1
@[irreducible] noncomputable def v : Int := z.2.2.2.2.2.2.2.2.2.1
@[irreducible] noncomputable def most : Int := z.2.2.2.2.2.2.2.2.2.2.1
@[irreducible] noncomputable def tv : Tok := z.2.2.2.2.2.2.2.2.2.2.2.1
@[irreducible] noncomputable def tm : Tok := z.2.2.2.2.2.2.2.2.2.2.2.2
@[irreducible] noncomputable def cx : Ctx := fctx 141 4 32 (full c p tp rv rn po) [.ref c.x, .int b tb, .int v tv, .int most tm] (TokI c (Str.ofString "int") b p)
theorem main : St c rv rn po p tp m b tb v most tv tm := by
  intro ok hpo hrv hm hp
  obtain ⟨hS, hw, n1, n2, n3, n4, n5, n6, n7, n8, n9, m4, m5, m6, m7, m8, m9, l1, l2, l3, l4, l5⟩ := ok
  refine' sp_at cx (by with_unfolding_all rfl) [(Str.ofString "self", .ref c.x), (Str.ofString "begun", .int b tb), (Str.ofString "value", .int v tv), (Str.ofString "most", .int most tm)] ?k6 ?k7 ?k9 ?kB ?c2 ?c3 ?c4 ?c5 ?_
  (((case k6 => intro P; k_is); (case k7 => intro P; k_is); (case kB => exact rfl); (case c2 => exact rfl); (case c3 => exact rfl); (case c4 => exact rfl); (case c5 => decide)); (case k9 => exact rfl); unfold BdC; intros; (try dsimp only); (try k_fold))
  walk_at "steps"
  · (rename News _ _ _ _ => N5)
    (rename PlOb _ _ => P5)
    refine' tok_endI (by assumption) N5 (by assumption) ?hp rfl (PlOb.mono P5 hm) ?hr
    (case hp => walk_at "pick")
    (case hr => omega)
  · (rename News _ _ _ _ => N5)
    refine' tok_endI (by assumption) N5 (by assumption) ?hp rfl (hpo.mono (by omega)) ?hr
    (case hp => walk_at "pick")
    (case hr => omega)
end whole_sp_at
theorem whole_sp (c : Sc) (ok : c.Ok) (rv : List Value) (rn : Nat) (po : Obj) (p : Nat) (tp : Tok) (m : Nat) (hpo : PlOb po m) (hrv : rv.length ≤ m) (hm : m + 1 ≤ p) (hp : p ≤ 1048577) (b : Nat) (tb : Tok) (v most : Int) (tv tm : Tok) : Sp 141 4 32 (full c p tp rv rn po) [.ref c.x, .int b tb, .int v tv, .int most tm] (TokI c (Str.ofString "int") b p) := by
  have h9 : whole_sp_at.Pz (ec whole_sp_at.ne whole_sp_at.Pz) := by with_unfolding_all exact whole_sp_at.main
  exact eps whole_sp_at.ne h9 (c, rv, rn, po, p, tp, m, b, tb, v, most, tv, tm) ok hpo hrv hm hp
namespace real_sp_at
noncomputable def St (c : Sc) (rv : List Value) (rn : Nat) (po : Obj) (p : Nat) (tp : Tok) (b : Nat) (tb : Tok) : Prop := ∀ (ok : c.Ok) (hpo : PlOb po p) (hrv : rv.length ≤ p) (hp : p ≤ 1048577), Sp 162 5 40 (full c p tp rv rn po) [.ref c.x, .int b tb] (TokI c (Str.ofString "int") b (realEnd c.S p))
noncomputable def Pz (z : (Sc) × (List Value) × (Nat) × (Obj) × (Nat) × (Tok) × (Nat) × (Tok)) : Prop := St (z.1) (z.2.1) (z.2.2.1) (z.2.2.2.1) (z.2.2.2.2.1) (z.2.2.2.2.2.1) (z.2.2.2.2.2.2.1) (z.2.2.2.2.2.2.2)
theorem ne : Nonempty ((Sc) × (List Value) × (Nat) × (Obj) × (Nat) × (Tok) × (Nat) × (Tok)) := ⟨(Classical.choice sc_ne, default, default, default, default, default, default, default)⟩
noncomputable def z : (Sc) × (List Value) × (Nat) × (Obj) × (Nat) × (Tok) × (Nat) × (Tok) := ec ne Pz
@[irreducible] noncomputable def c : Sc := z.1
@[irreducible] noncomputable def rv : List Value := z.2.1
@[irreducible] noncomputable def rn : Nat := z.2.2.1
@[irreducible] noncomputable def po : Obj := z.2.2.2.1
@[irreducible] noncomputable def p : Nat := z.2.2.2.2.1
@[irreducible] noncomputable def tp : Tok := z.2.2.2.2.2.1
@[irreducible] noncomputable def b : Nat := z.2.2.2.2.2.2.1
@[irreducible] noncomputable def tb : Tok := z.2.2.2.2.2.2.2
@[irreducible] noncomputable def cx : Ctx := fctx 162 5 40 (full c p tp rv rn po) [.ref c.x, .int b tb] (TokI c (Str.ofString "int") b (realEnd c.S p))
theorem main : St c rv rn po p tp b tb := by
  intro ok hpo hrv hp
  obtain ⟨hS, hw, n1, n2, n3, n4, n5, n6, n7, n8, n9, m4, m5, m6, m7, m8, m9, l1, l2, l3, l4, l5⟩ := ok
  refine' sp_at cx (by with_unfolding_all rfl) [(Str.ofString "self", .ref c.x), (Str.ofString "begun", .int b tb)] ?k6 ?k7 ?k9 ?kB ?c2 ?c3 ?c4 ?c5 ?_
  (((case k6 => intro P; k_is); (case k7 => intro P; k_is); (case kB => exact rfl); (case c2 => exact rfl); (case c3 => exact rfl); (case c4 => exact rfl); (case c5 => decide)); (case k9 => exact rfl); unfold BdC; intros; (try dsimp only); (try k_fold))
  walk_at "steps"
  · have e1 : realEnd c.S p = p + 1 + run digC (suf c.S (p + 1)) + (1 + 1) + run digC (suf c.S (p + 1 + run digC (suf c.S (p + 1)) + (1 + 1))) := real_yes (b := true) (by assumption) (pm_1 (by assumption)) rfl (by assumption)
    (rename News _ _ _ _ => N5)
    (rename PlOb _ _ => P5)
    rw [e1]
    refine' tok_endI (by assumption) N5 (by assumption) ?hp rfl (PlOb.mono P5 (by omega)) ?hr
    (case hp => walk_at "pick")
    (case hr => omega)
  · have e1 : realEnd c.S p = p + 1 + run digC (suf c.S (p + 1)) := real_no (b := true) (by assumption) (pm_1 (by assumption)) rfl (by assumption)
    (rename News _ _ _ _ => N5)
    (rename PlOb _ _ => P5)
    rw [e1]
    refine' tok_endI (by assumption) N5 (by assumption) ?hp rfl (PlOb.mono P5 (by omega)) ?hr
    (case hp => walk_at "pick")
    (case hr => omega)
  · have e1 : realEnd c.S p = p + 1 + run digC (suf c.S (p + 1)) + (1 + 1) + run digC (suf c.S (p + 1 + run digC (suf c.S (p + 1)) + (1 + 1))) := real_yes (b := true) (by assumption) (pm_2 (by assumption)) rfl (by assumption)
    (rename News _ _ _ _ => N5)
    (rename PlOb _ _ => P5)
    rw [e1]
    refine' tok_endI (by assumption) N5 (by assumption) ?hp rfl (PlOb.mono P5 (by omega)) ?hr
    (case hp => walk_at "pick")
    (case hr => omega)
  · have e1 : realEnd c.S p = p + 1 + run digC (suf c.S (p + 1)) := real_no (b := true) (by assumption) (pm_2 (by assumption)) rfl (by assumption)
    (rename News _ _ _ _ => N5)
    (rename PlOb _ _ => P5)
    rw [e1]
    refine' tok_endI (by assumption) N5 (by assumption) ?hp rfl (PlOb.mono P5 (by omega)) ?hr
    (case hp => walk_at "pick")
    (case hr => omega)
  · have e1 : realEnd c.S p = p + 1 + run digC (suf c.S (p + 1)) + (1 + 0) + run digC (suf c.S (p + 1 + run digC (suf c.S (p + 1)) + (1 + 0))) := real_yes (b := false) (by assumption) (pm_3 (by assumption) (by assumption)) rfl (by assumption)
    (rename News _ _ _ _ => N5)
    (rename PlOb _ _ => P5)
    rw [e1]
    refine' tok_endI (by assumption) N5 (by assumption) ?hp rfl (PlOb.mono P5 (by omega)) ?hr
    (case hp => walk_at "pick")
    (case hr => omega)
  · have e1 : realEnd c.S p = p + 1 + run digC (suf c.S (p + 1)) := real_no (b := false) (by assumption) (pm_3 (by assumption) (by assumption)) rfl (by assumption)
    (rename News _ _ _ _ => N5)
    (rename PlOb _ _ => P5)
    rw [e1]
    refine' tok_endI (by assumption) N5 (by assumption) ?hp rfl (PlOb.mono P5 (by omega)) ?hr
    (case hp => walk_at "pick")
    (case hr => omega)
  · have e1 : realEnd c.S p = p + 1 + run digC (suf c.S (p + 1)) := real_end (by assumption)
    (rename News _ _ _ _ => N5)
    (rename PlOb _ _ => P5)
    rw [e1]
    refine' tok_endI (by assumption) N5 (by assumption) ?hp rfl (PlOb.mono P5 (by omega)) ?hr
    (case hp => walk_at "pick")
    (case hr => omega)
end real_sp_at
theorem real_sp (c : Sc) (ok : c.Ok) (rv : List Value) (rn : Nat) (po : Obj) (p : Nat) (tp : Tok) (hpo : PlOb po p) (hrv : rv.length ≤ p) (hp : p ≤ 1048577) (b : Nat) (tb : Tok) : Sp 162 5 40 (full c p tp rv rn po) [.ref c.x, .int b tb] (TokI c (Str.ofString "int") b (realEnd c.S p)) := by
  have h9 : real_sp_at.Pz (ec real_sp_at.ne real_sp_at.Pz) := by with_unfolding_all exact real_sp_at.main
  exact eps real_sp_at.ne h9 (c, rv, rn, po, p, tp, b, tb) ok hpo hrv hp
theorem rst_M9 : Hold True := by (w_top off); first | walk1 | exact True.intro
theorem warm_M9 : ∀ P, (Challenge.rw_pb0353_01, hd.heap_1 P) = (Challenge.rw_pb0353_01, hd.heap_1 P) := by k_fill; intro P; rfl
local macro_rules | `(tactic| walk_at "call ref") => `(tactic| ((with_reducible show wpAny _ _ (call (Value.ref 77) _) _ _ _); refine' callE2 (digits_value_sp _ _ _ _ _ _ ?y1 ?y2 (by decide) (by decide) (by decide) (by decide)) (fun _ _ ⟨a, x, y, z, w⟩ => ⟨x, y, z, a, w⟩) ?k1 ?k2 ?k3 ?k4 Pick.nil (fun _ h9 => absurd h9 List.not_mem_nil) ?k5 ?kK ?kd ?ku ?_; (case y1 => first | assumption | exact Nat.le_trans (sub_length_le _ _ _) (by assumption)); (case y2 => assumption); walk_at "use"; intro z9 u9 h9 tk9 F9 N9 A9 R9; (have b9 := R9.1); (have c9 := R9.2); clear A9 R9; (dsimp only [List.nil_append] at N9); walk_at "sw"))
theorem run_all (P : Nat → Bool) (l : List Nat) : ∀ c ∈ l.take (run P l), P c = true := by
  induction l with
  | nil => intro c hc; simp at hc
  | cons a r ih =>
    rw [run_cons]
    by_cases h : P a = true
    · rw [if_pos h, List.take_succ_cons]
      intro c hc
      rcases List.mem_cons.mp hc with rfl | hc
      · exact h
      · exact ih c hc
    · rw [if_neg h]; intro c hc; simp at hc
theorem sub_run (P : Nat → Bool) (S : Str) (p : Nat) : ∀ c ∈ (sub S p (p + run P (suf S p))).cps.toList, P c = true := by
  rw [sub_list, show p + run P (suf S p) - p = run P (suf S p) by omega]
  exact run_all P _
theorem dig_hex {c : Nat} (h : digC c = true) : hexC c = true := by unfold hexC; rw [h]; rfl
theorem run_len (P : Nat → Bool) (S : Str) (p : Nat) (h : p ≤ S.length) : p + run P (suf S p) ≤ S.length := by
  have h1 := run_le P (suf S p)
  rw [List.length_drop, Array.length_toList] at h1
  have h2 : S.cps.size = S.length := rfl
  omega
noncomputable def numKind (S : Str) (p : Nat) : Str := if tIs "X" S (p + run hexC (suf S p)) = true then Str.ofString "string" else Str.ofString "int"
theorem hx_is (S : Str) (q : Nat) : tHX S q = ((sub S q (q + 1) == Str.ofString "H") || (sub S q (q + 1) == Str.ofString "X")) := by
  unfold tHX
  simp only [List.any_cons, List.any_nil, Bool.or_false]
  rw [beq_comm' _ (sub S q (q + 1)), beq_comm' _ (sub S q (q + 1))]
section
variable {S : Str} {q p : Nat}
theorem hx_1 (h : (sub S q (q + 1) == Str.ofString "H") = true) : tHX S q = true := by rw [hx_is, h]; rfl
theorem hx_2 (h : (sub S q (q + 1) == Str.ofString "X") = true) : tHX S q = true := by rw [hx_is, h]; exact Bool.or_true _
theorem hx_3 (h : (sub S ((q : Int)).toNat ((q : Int) + 1).toNat == Str.ofString "H") = false) (h' : (sub S ((q : Int)).toNat ((q : Int) + 1).toNat == Str.ofString "X") = false) : tHX S q = false := by
  rw [Int.toNat_natCast, toNat_1] at h h'
  rw [hx_is, h, h']; rfl
theorem num_HX (hq : q = p + run hexC (suf S p)) (h : tHX S q = true) : numEnd S p = q + 1 := by
  unfold numEnd
  rw [← hq, if_pos h]
theorem kind_H (hq : q = p + run hexC (suf S p)) (h : (sub S q (q + 1) == Str.ofString "H") = true) : numKind S p = Str.ofString "int" := by
  unfold numKind tIs
  rw [← hq, if_neg]
  intro h2
  rw [beq_iff_eq] at h h2
  rw [h] at h2
  exact absurd h2 (by decide)
theorem kind_X (hq : q = p + run hexC (suf S p)) (h : (sub S q (q + 1) == Str.ofString "X") = true) : numKind S p = Str.ofString "string" := by
  unfold numKind tIs
  rw [← hq, if_pos h]
theorem kind_3 (hq : q = p + run hexC (suf S p)) (h : (sub S ((q : Int)).toNat ((q : Int) + 1).toNat == Str.ofString "X") = false) : numKind S p = Str.ofString "int" := by
  rw [Int.toNat_natCast, toNat_1] at h
  unfold numKind tIs
  rw [← hq, if_neg (by rw [h]; exact Bool.noConfusion)]
theorem num_real {r : Nat} (hq : q = p + run hexC (suf S p)) (hno : tHX S q = false) (hr : r = p + run digC (suf S p)) (h1 : (sub S r (r + 1) == Str.ofString ".") = true) (h2 : (sub S (r + 1) (r + 1 + 1) != Str.ofString ".") = true) : numEnd S p = realEnd S r := by
  rw [bne_beq, Bool.not_eq_true'] at h2
  unfold numEnd realEnd
  simp only [← hq, ← hr, hno, show tIs "." S r = true from h1, show tIs "." S (r + 1) = false from h2, Bool.false_eq_true, Bool.true_eq_false, if_false]
theorem num_int1 {r : Nat} (hq : q = p + run hexC (suf S p)) (hno : tHX S q = false) (hr : r = p + run digC (suf S p)) (h1 : (sub S r (r + 1) == Str.ofString ".") = true) (h2 : (sub S (r + 1) (r + 1 + 1) != Str.ofString ".") = false) : numEnd S p = r := by
  rw [bne_beq, Bool.not_eq_false'] at h2
  unfold numEnd
  simp only [← hq, ← hr, hno, show tIs "." S r = true from h1, show tIs "." S (r + 1) = true from h2, Bool.false_eq_true, Bool.true_eq_false, if_false, if_true]
theorem num_int2 {r : Nat} (hq : q = p + run hexC (suf S p)) (hno : tHX S q = false) (hr : r = p + run digC (suf S p)) (h1 : (sub S r (r + 1) == Str.ofString ".") = false) : numEnd S p = r := by
  unfold numEnd
  simp only [← hq, ← hr, hno, show tIs "." S r = false from h1, Bool.false_eq_true, if_false, if_true]
theorem hex_dig (h : 0 < run digC (suf S p)) : 0 < run hexC (suf S p) := by
  cases h1 : suf S p with
  | nil => rw [h1] at h; exact h
  | cons a r =>
    rw [h1, run_cons] at h
    rw [run_cons, if_pos]
    · omega
    · refine dig_hex ?_
      cases h2 : digC a with
      | true => rfl
      | false => rw [h2] at h; simp at h
end
namespace hexadecimal_sp_at
noncomputable def St (c : Sc) (rv : List Value) (rn : Nat) (po : Obj) (p : Nat) (tp : Tok) (m : Nat) (b : Nat) (tb : Tok) (x : Str) (tx : Tok) : Prop := ∀ (ok : c.Ok) (hpo : PlOb po m) (hrv : rv.length ≤ m) (hm : m + 1 ≤ p) (hp : p ≤ 1048577) (hx : x.length ≤ 1048576) (hc : ∀ c ∈ x.cps.toList, hexC c = true), Sp 148 6 56 (full c p tp rv rn po) [.ref c.x, .int b tb, .str x tx] (TokR c (Str.ofString "int") b p)
noncomputable def Pz (z : (Sc) × (List Value) × (Nat) × (Obj) × (Nat) × (Tok) × (Nat) × (Nat) × (Tok) × (Str) × (Tok)) : Prop := St (z.1) (z.2.1) (z.2.2.1) (z.2.2.2.1) (z.2.2.2.2.1) (z.2.2.2.2.2.1) (z.2.2.2.2.2.2.1) (z.2.2.2.2.2.2.2.1) (z.2.2.2.2.2.2.2.2.1) (z.2.2.2.2.2.2.2.2.2.1) (z.2.2.2.2.2.2.2.2.2.2)
theorem ne : Nonempty ((Sc) × (List Value) × (Nat) × (Obj) × (Nat) × (Tok) × (Nat) × (Nat) × (Tok) × (Str) × (Tok)) := ⟨(Classical.choice sc_ne, default, default, default, default, default, default, default, default, default, default)⟩
noncomputable def z : (Sc) × (List Value) × (Nat) × (Obj) × (Nat) × (Tok) × (Nat) × (Nat) × (Tok) × (Str) × (Tok) := ec ne Pz
@[irreducible] noncomputable def c : Sc := z.1
@[irreducible] noncomputable def rv : List Value := z.2.1
@[irreducible] noncomputable def rn : Nat := z.2.2.1
@[irreducible] noncomputable def po : Obj := z.2.2.2.1
@[irreducible] noncomputable def p : Nat := z.2.2.2.2.1
@[irreducible] noncomputable def tp : Tok := z.2.2.2.2.2.1
@[irreducible] noncomputable def m : Nat := z.2.2.2.2.2.2.1
@[irreducible] noncomputable def b : Nat := z.2.2.2.2.2.2.2.1
@[irreducible] noncomputable def tb : Tok := z.2.2.2.2.2.2.2.2.1
@[irreducible] noncomputable def x : Str := z.2.2.2.2.2.2.2.2.2.1
@[irreducible] noncomputable def tx : Tok := z.2.2.2.2.2.2.2.2.2.2
@[irreducible] noncomputable def cx : Ctx := fctx 148 6 56 (full c p tp rv rn po) [.ref c.x, .int b tb, .str x tx] (TokR c (Str.ofString "int") b p)
theorem main : St c rv rn po p tp m b tb x tx := by
  intro ok hpo hrv hm hp hx hc
  have ok' := ok
  obtain ⟨hS, hw, n1, n2, n3, n4, n5, n6, n7, n8, n9, m4, m5, m6, m7, m8, m9, l1, l2, l3, l4, l5⟩ := ok
  refine' sp_at cx (by with_unfolding_all rfl) [(Str.ofString "self", .ref c.x), (Str.ofString "begun", .int b tb), (Str.ofString "digits", .str x tx)] ?k6 ?k7 ?k9 ?kB ?c2 ?c3 ?c4 ?c5 ?_
  (((case k6 => intro P; k_is); (case k7 => intro P; k_is); (case kB => exact rfl); (case c2 => exact rfl); (case c3 => exact rfl); (case c4 => exact rfl); (case c5 => decide)); (case k9 => exact rfl); unfold BdC; intros; (try dsimp only); (try k_fold))
  walk_at "steps"
  refine Hold.out ?_
  refine' callE16 (whole_sp c ok' rv rn po p tp m hpo hrv hm hp b tb _ _ _ _) (fun _ _ h => h.all) ?k1 ?k2 ?k3 ?k4 ?kp ?ka ?k5 ?kK ?kd ?ku ?_
  walk_at "useP"
  intro t dt z u g1 j1 g2 j2 g3 j3 tk tb' tp' rv' rn' po' h9 tk9 F9 N9 A9 hS9
  have hP := hS9.1
  have hr := hS9.2.1
  have hd := hS9.2.2
  have q1 : @Ne Nat dt c.x := hd _ (.head _)
  have q2 : @Ne Nat dt c.d := hd _ (.tail _ (.head _))
  have q3 : @Ne Nat dt c.wa := hd _ (.tail _ (.tail _ (.head _)))
  have q4 : @Ne Nat dt c.ex := hd _ (.tail _ (.tail _ (.tail _ (.head _))))
  have q5 : @Ne Nat dt c.ed := hd _ (.tail _ (.tail _ (.tail _ (.tail _ (.head _)))))
  have q6 : @Ne Nat dt c.rl := hd _ (.tail _ (.tail _ (.tail _ (.tail _ (.tail _ (.head _))))))
  have q7 : @Ne Nat dt c.pl := hd _ (.tail _ (.tail _ (.tail _ (.tail _ (.tail _ (.tail _ (.head _)))))))
  have q8 : @Ne Nat t dt := news_ne N9 (.head _) (.tail _ (.head _)) (fun e => by cases e)
  simp only [full, List.append_nil, List.cons_append, List.nil_append] at N9
  (try k_sweep); (try dsimp only); (try k_fold)
  walk_at "steps"
  all_goals ((rename News _ _ _ _ => N5); exact tok_end (by assumption) N5 Pick.all' rfl hP hr)
end hexadecimal_sp_at
theorem hexadecimal_sp (c : Sc) (ok : c.Ok) (rv : List Value) (rn : Nat) (po : Obj) (p : Nat) (tp : Tok) (m : Nat) (hpo : PlOb po m) (hrv : rv.length ≤ m) (hm : m + 1 ≤ p) (hp : p ≤ 1048577) (b : Nat) (tb : Tok) (x : Str) (tx : Tok) (hx : x.length ≤ 1048576) (hc : ∀ c ∈ x.cps.toList, hexC c = true) : Sp 148 6 56 (full c p tp rv rn po) [.ref c.x, .int b tb, .str x tx] (TokR c (Str.ofString "int") b p) := by
  have h9 : hexadecimal_sp_at.Pz (ec hexadecimal_sp_at.ne hexadecimal_sp_at.Pz) := by with_unfolding_all exact hexadecimal_sp_at.main
  exact eps hexadecimal_sp_at.ne h9 (c, rv, rn, po, p, tp, m, b, tb, x, tx) ok hpo hrv hm hp hx hc
namespace character_sp_at
noncomputable def St (c : Sc) (rv : List Value) (rn : Nat) (po : Obj) (p : Nat) (tp : Tok) (m : Nat) (b : Nat) (tb : Tok) (x : Str) (tx : Tok) : Prop := ∀ (ok : c.Ok) (hpo : PlOb po m) (hrv : rv.length ≤ m) (hm : m + 1 ≤ p) (hp : p ≤ 1048577) (hx : x.length ≤ 1048576) (hc : ∀ c ∈ x.cps.toList, hexC c = true), Sp 155 6 56 (full c p tp rv rn po) [.ref c.x, .int b tb, .str x tx] (TokR c (Str.ofString "string") b p)
noncomputable def Pz (z : (Sc) × (List Value) × (Nat) × (Obj) × (Nat) × (Tok) × (Nat) × (Nat) × (Tok) × (Str) × (Tok)) : Prop := St (z.1) (z.2.1) (z.2.2.1) (z.2.2.2.1) (z.2.2.2.2.1) (z.2.2.2.2.2.1) (z.2.2.2.2.2.2.1) (z.2.2.2.2.2.2.2.1) (z.2.2.2.2.2.2.2.2.1) (z.2.2.2.2.2.2.2.2.2.1) (z.2.2.2.2.2.2.2.2.2.2)
theorem ne : Nonempty ((Sc) × (List Value) × (Nat) × (Obj) × (Nat) × (Tok) × (Nat) × (Nat) × (Tok) × (Str) × (Tok)) := ⟨(Classical.choice sc_ne, default, default, default, default, default, default, default, default, default, default)⟩
noncomputable def z : (Sc) × (List Value) × (Nat) × (Obj) × (Nat) × (Tok) × (Nat) × (Nat) × (Tok) × (Str) × (Tok) := ec ne Pz
@[irreducible] noncomputable def c : Sc := z.1
@[irreducible] noncomputable def rv : List Value := z.2.1
@[irreducible] noncomputable def rn : Nat := z.2.2.1
@[irreducible] noncomputable def po : Obj := z.2.2.2.1
@[irreducible] noncomputable def p : Nat := z.2.2.2.2.1
@[irreducible] noncomputable def tp : Tok := z.2.2.2.2.2.1
@[irreducible] noncomputable def m : Nat := z.2.2.2.2.2.2.1
@[irreducible] noncomputable def b : Nat := z.2.2.2.2.2.2.2.1
@[irreducible] noncomputable def tb : Tok := z.2.2.2.2.2.2.2.2.1
@[irreducible] noncomputable def x : Str := z.2.2.2.2.2.2.2.2.2.1
@[irreducible] noncomputable def tx : Tok := z.2.2.2.2.2.2.2.2.2.2
@[irreducible] noncomputable def cx : Ctx := fctx 155 6 56 (full c p tp rv rn po) [.ref c.x, .int b tb, .str x tx] (TokR c (Str.ofString "string") b p)
theorem main : St c rv rn po p tp m b tb x tx := by
  intro ok hpo hrv hm hp hx hc
  obtain ⟨hS, hw, n1, n2, n3, n4, n5, n6, n7, n8, n9, m4, m5, m6, m7, m8, m9, l1, l2, l3, l4, l5⟩ := ok
  refine' sp_at cx (by with_unfolding_all rfl) [(Str.ofString "self", .ref c.x), (Str.ofString "begun", .int b tb), (Str.ofString "digits", .str x tx)] ?k6 ?k7 ?k9 ?kB ?c2 ?c3 ?c4 ?c5 ?_
  (((case k6 => intro P; k_is); (case k7 => intro P; k_is); (case kB => exact rfl); (case c2 => exact rfl); (case c3 => exact rfl); (case c4 => exact rfl); (case c5 => decide)); (case k9 => exact rfl); unfold BdC; intros; (try dsimp only); (try k_fold))
  walk_at "steps"
  · (rename News _ _ _ _ => N5)
    (rename PlOb _ _ => P5)
    refine' tok_end (by assumption) N5 ?hp rfl (PlOb.mono P5 hm) ?hr
    (case hp => walk_at "pick")
    (case hr => omega)
  · (rename News _ _ _ _ => N5)
    refine' tok_end (by assumption) N5 ?hp rfl (hpo.mono (by omega)) ?hr
    (case hp => walk_at "pick")
    (case hr => omega)
end character_sp_at
theorem character_sp (c : Sc) (ok : c.Ok) (rv : List Value) (rn : Nat) (po : Obj) (p : Nat) (tp : Tok) (m : Nat) (hpo : PlOb po m) (hrv : rv.length ≤ m) (hm : m + 1 ≤ p) (hp : p ≤ 1048577) (b : Nat) (tb : Tok) (x : Str) (tx : Tok) (hx : x.length ≤ 1048576) (hc : ∀ c ∈ x.cps.toList, hexC c = true) : Sp 155 6 56 (full c p tp rv rn po) [.ref c.x, .int b tb, .str x tx] (TokR c (Str.ofString "string") b p) := by
  have h9 : character_sp_at.Pz (ec character_sp_at.ne character_sp_at.Pz) := by with_unfolding_all exact character_sp_at.main
  exact eps character_sp_at.ne h9 (c, rv, rn, po, p, tp, m, b, tb, x, tx) ok hpo hrv hm hp hx hc
namespace numeral_sp_at
noncomputable def St (c : Sc) (rv : List Value) (rn : Nat) (po : Obj) (p : Nat) (tp : Tok) (tq : Tok) : Prop := ∀ (ok : c.Ok) (hpo : PlOb po p) (hrv : rv.length ≤ p) (hp : p < c.S.length) (hdg : 0 < run digC (suf c.S p)), Sp 134 8 72 (full c p tp rv rn po) [.ref c.x, .int p tq] (TokR c (numKind c.S p) p (numEnd c.S p))
noncomputable def Pz (z : (Sc) × (List Value) × (Nat) × (Obj) × (Nat) × (Tok) × (Tok)) : Prop := St (z.1) (z.2.1) (z.2.2.1) (z.2.2.2.1) (z.2.2.2.2.1) (z.2.2.2.2.2.1) (z.2.2.2.2.2.2)
theorem ne : Nonempty ((Sc) × (List Value) × (Nat) × (Obj) × (Nat) × (Tok) × (Tok)) := ⟨(Classical.choice sc_ne, default, default, default, default, default, default)⟩
noncomputable def z : (Sc) × (List Value) × (Nat) × (Obj) × (Nat) × (Tok) × (Tok) := ec ne Pz
@[irreducible] noncomputable def c : Sc := z.1
@[irreducible] noncomputable def rv : List Value := z.2.1
@[irreducible] noncomputable def rn : Nat := z.2.2.1
@[irreducible] noncomputable def po : Obj := z.2.2.2.1
@[irreducible] noncomputable def p : Nat := z.2.2.2.2.1
@[irreducible] noncomputable def tp : Tok := z.2.2.2.2.2.1
@[irreducible] noncomputable def tq : Tok := z.2.2.2.2.2.2
@[irreducible] noncomputable def cx : Ctx := fctx 134 8 72 (full c p tp rv rn po) [.ref c.x, .int p tq] (TokR c (numKind c.S p) p (numEnd c.S p))
theorem main : St c rv rn po p tp tq := by
  intro ok hpo hrv hp hdg
  have ok' := ok
  obtain ⟨hS, hw, n1, n2, n3, n4, n5, n6, n7, n8, n9, m4, m5, m6, m7, m8, m9, l1, l2, l3, l4, l5⟩ := ok
  refine' sp_at cx (by with_unfolding_all rfl) [(Str.ofString "self", .ref c.x), (Str.ofString "begun", .int p tq)] ?k6 ?k7 ?k9 ?kB ?c2 ?c3 ?c4 ?c5 ?_
  (((case k6 => intro P; k_is); (case k7 => intro P; k_is); (case kB => exact rfl); (case c2 => exact rfl); (case c3 => exact rfl); (case c4 => exact rfl); (case c5 => decide)); (case k9 => exact rfl); unfold BdC; intros; (try dsimp only); (try k_fold))
  walk_at "steps"
  (rename Fr _ _ _ _ => F0)
  (rename News _ _ _ _ => N0)
  refine ksw_while (σ := Nat × Tok) (fun _ => full c p tp rv rn po) (fun q => [(Str.ofString "end", .int q.1 q.2)]) (fun _ => True) [] (fun q => p + run hexC (suf c.S p) = q.1 + run hexC (suf c.S q.1)) (fun q => c.S.length - q.1) (p, tq) F0 N0 trivial (by kst_all) rfl ?_
  rintro ⟨q, uq⟩ u h tk _ hP F' N'
  dsimp only at hP F' N' ⊢
  clear N0 F0
  (try k_fold)
  walk_at "steps"
  · have e := sign_hex.go (x := c.S) (c := q) (fun _ h => h) (by assumption)
    (show KswEnd _ _ _ _ _ _ _ _ _ _ _ _; refine' ksw_end ⟨_, _⟩ (by assumption) (by assumption) ?kn trivial ?kk ?kr ?_ ?_; (case kn => first | exact fun _ h9 => h9 | exact fun _ h9 => absurd h9 List.not_mem_nil); (case kk => kst_all); (case kr => (intro z9 h8 h9; (simp only [List.forall_mem_cons, List.not_mem_nil, false_implies, implies_true, and_true, ne_eq] at h8); (simp [kstB, h8])))) <;> ((try dsimp only at hP ⊢); (first | exact om1 (by with_reducible assumption) (by walk_at "cj") | exact om2 (by walk_at "cj") | exact om3 (by with_reducible assumption) (by walk_at "cj") | exact om4 (by with_reducible assumption) (by walk_at "cj") | exact om5 (by walk_at "cj") | exact om6 (by with_reducible assumption) | exact om7 (by with_reducible assumption) | exact om8 | omega))
  · have e := sign_hex.stop (x := c.S) (c := q) (by assumption)
    have hq : q = p + run hexC (suf c.S p) := by (first | exact om1 (by with_reducible assumption) (by walk_at "cj") | exact om2 (by walk_at "cj") | exact om3 (by with_reducible assumption) (by walk_at "cj") | exact om4 (by with_reducible assumption) (by walk_at "cj") | exact om5 (by walk_at "cj") | exact om6 (by with_reducible assumption) | exact om7 (by with_reducible assumption) | exact om8 | omega)
    have hle := run_len hexC c.S p (by omega)
    have hpos := hex_dig hdg
    rw [Int.toNat_natCast, toNat_1] at *
    have hx := sub_run hexC c.S p
    rw [← hq] at hx
    have e1 : numEnd c.S p = q + 1 := num_HX hq (hx_1 (by assumption))
    have e2 : Str.ofString "int" = numKind c.S p := (kind_H hq (by assumption)).symm
    refine Hold.out ?_
    refine' Sp.call (hexadecimal_sp c ok' rv rn po (q + 1) _ p hpo hrv (by omega) (by omega) p _ _ _ ?kx ?ky) ?k1 ?k2 ?k3 ?k4 ?kp ?ka ?k5 ?kK ?kd ?ku ?_
    (case kx => exact Nat.le_trans (sub_length_le _ _ _) hS)
    (case ky => simp only [Int.toNat_natCast]; exact hx)
    walk_at "useP"
    intro v9 o9 h9 tk9 F9 N9 A9 R9
    (simp only [List.append_nil] at N9); (try k_sweep); (try dsimp only); (try k_fold)
    walk_at "steps"
    rw [e1, ← e2]
    exact Ret.intro (by assumption) N9 R9
  · have e := sign_hex.stop (x := c.S) (c := q) (by assumption)
    have hq : q = p + run hexC (suf c.S p) := by (first | exact om1 (by with_reducible assumption) (by walk_at "cj") | exact om2 (by walk_at "cj") | exact om3 (by with_reducible assumption) (by walk_at "cj") | exact om4 (by with_reducible assumption) (by walk_at "cj") | exact om5 (by walk_at "cj") | exact om6 (by with_reducible assumption) | exact om7 (by with_reducible assumption) | exact om8 | omega)
    have hle := run_len hexC c.S p (by omega)
    have hpos := hex_dig hdg
    rw [Int.toNat_natCast, toNat_1] at *
    have hx := sub_run hexC c.S p
    rw [← hq] at hx
    have e1 : numEnd c.S p = q + 1 := num_HX hq (hx_2 (by assumption))
    have e2 : Str.ofString "string" = numKind c.S p := (kind_X hq (by assumption)).symm
    refine Hold.out ?_
    refine' Sp.call (character_sp c ok' rv rn po (q + 1) _ p hpo hrv (by omega) (by omega) p _ _ _ ?kx ?ky) ?k1 ?k2 ?k3 ?k4 ?kp ?ka ?k5 ?kK ?kd ?ku ?_
    (case kx => exact Nat.le_trans (sub_length_le _ _ _) hS)
    (case ky => simp only [Int.toNat_natCast]; exact hx)
    walk_at "useP"
    intro v9 o9 h9 tk9 F9 N9 A9 R9
    (simp only [List.append_nil] at N9); (try k_sweep); (try dsimp only); (try k_fold)
    walk_at "steps"
    rw [e1, ← e2]
    exact Ret.intro (by assumption) N9 R9
  · have e := sign_hex.stop (x := c.S) (c := q) (by assumption)
    have hq : q = p + run hexC (suf c.S p) := by (first | exact om1 (by with_reducible assumption) (by walk_at "cj") | exact om2 (by walk_at "cj") | exact om3 (by with_reducible assumption) (by walk_at "cj") | exact om4 (by with_reducible assumption) (by walk_at "cj") | exact om5 (by walk_at "cj") | exact om6 (by with_reducible assumption) | exact om7 (by with_reducible assumption) | exact om8 | omega)
    have hno := hx_3 (S := c.S) (q := q) (by assumption) (by assumption)
    have hk : numKind c.S p = Str.ofString "int" := kind_3 hq (by assumption)
    clear hP e
    refine Hold.out ?_
    (rename Fr _ _ _ _ => F0)
    (rename News _ _ _ _ => N0)
    refine ksw_while (σ := Nat × Tok) (fun _ => full c p tp rv rn po) (fun q => [(Str.ofString "end", .int q.1 q.2)]) (fun _ => True) [] (fun q => p + run digC (suf c.S p) = q.1 + run digC (suf c.S q.1)) (fun q => c.S.length - q.1) (p, tq) F0 N0 trivial (by kst_all) rfl ?_
    rintro ⟨r, ur⟩ u h tk _ hP F' N'
    dsimp only at hP F' N' ⊢
    clear N0 F0
    (try k_fold)
    walk_at "steps"
    · have e := sign_dig.go (x := c.S) (c := r) (fun _ h => h) (by assumption)
      (show KswEnd _ _ _ _ _ _ _ _ _ _ _ _; refine' ksw_end ⟨_, _⟩ (by assumption) (by assumption) ?kn trivial ?kk ?kr ?_ ?_; (case kn => first | exact fun _ h9 => h9 | exact fun _ h9 => absurd h9 List.not_mem_nil); (case kk => kst_all); (case kr => (intro z9 h8 h9; (simp only [List.forall_mem_cons, List.not_mem_nil, false_implies, implies_true, and_true, ne_eq] at h8); (simp [kstB, h8])))) <;> ((try dsimp only at hP ⊢); (first | exact om1 (by with_reducible assumption) (by walk_at "cj") | exact om2 (by walk_at "cj") | exact om3 (by with_reducible assumption) (by walk_at "cj") | exact om4 (by with_reducible assumption) (by walk_at "cj") | exact om5 (by walk_at "cj") | exact om6 (by with_reducible assumption) | exact om7 (by with_reducible assumption) | exact om8 | omega))
    · refine Hold.out ?_
      have e := sign_dig.stop (x := c.S) (c := r) (by assumption)
      have hr : r = p + run digC (suf c.S p) := by (first | exact om1 (by with_reducible assumption) (by walk_at "cj") | exact om2 (by walk_at "cj") | exact om3 (by with_reducible assumption) (by walk_at "cj") | exact om4 (by with_reducible assumption) (by walk_at "cj") | exact om5 (by walk_at "cj") | exact om6 (by with_reducible assumption) | exact om7 (by with_reducible assumption) | exact om8 | omega)
      have hle := run_len digC c.S p (by omega)
      have e1 : numEnd c.S p = realEnd c.S r := num_real hq hno hr (by assumption) (by assumption)
      refine' Sp.call (real_sp c ok' rv rn po r _ (hpo.mono (by omega)) (by omega) (by omega) p _) ?k1 ?k2 ?k3 ?k4 ?kp ?ka ?k5 ?kK ?kd ?ku ?_
      walk_at "useP"
      intro v9 o9 h9 tk9 F9 N9 A9 R9
      (simp only [List.append_nil] at N9); (try k_sweep); (try dsimp only); (try k_fold)
      walk_at "steps"
      rw [hk, e1]
      exact Ret.intro (by assumption) N9 R9.tok
    · skip
      have e := sign_dig.stop (x := c.S) (c := r) (by assumption)
      have hr : r = p + run digC (suf c.S p) := by (first | exact om1 (by with_reducible assumption) (by walk_at "cj") | exact om2 (by walk_at "cj") | exact om3 (by with_reducible assumption) (by walk_at "cj") | exact om4 (by with_reducible assumption) (by walk_at "cj") | exact om5 (by walk_at "cj") | exact om6 (by with_reducible assumption) | exact om7 (by with_reducible assumption) | exact om8 | omega)
      have hle := run_len digC c.S p (by omega)
      have e1 : numEnd c.S p = r := num_int1 hq hno hr (by assumption) (by assumption)
      have hxd : ∀ c' ∈ (sub c.S ((p : Int)).toNat ((r : Int)).toNat).cps.toList, hexC c' = true := by
        rw [Int.toNat_natCast, Int.toNat_natCast, hr]
        exact fun c' h' => dig_hex (sub_run digC c.S p c' h')
      walk_at "steps"
      refine Hold.out ?_
      refine' Sp.call (whole_sp c ok' rv rn po r _ p hpo hrv (by omega) (by omega) p _ _ _ _ _) ?k1 ?k2 ?k3 ?k4 ?kp ?ka ?k5 ?kK ?kd ?ku ?_
      walk_at "useP"
      intro v9 o9 h9 tk9 F9 N9 A9 R9
      (simp only [List.append_nil] at N9); (try k_sweep); (try dsimp only); (try k_fold)
      walk_at "steps"
      rw [hk, e1]
      exact Ret.intro (by assumption) N9 R9.tok
    · skip
      have e := sign_dig.stop (x := c.S) (c := r) (by assumption)
      have hr : r = p + run digC (suf c.S p) := by (first | exact om1 (by with_reducible assumption) (by walk_at "cj") | exact om2 (by walk_at "cj") | exact om3 (by with_reducible assumption) (by walk_at "cj") | exact om4 (by with_reducible assumption) (by walk_at "cj") | exact om5 (by walk_at "cj") | exact om6 (by with_reducible assumption) | exact om7 (by with_reducible assumption) | exact om8 | omega)
      have hle := run_len digC c.S p (by omega)
      have e1 : numEnd c.S p = r := num_int2 hq hno hr (by assumption)
      have hxd : ∀ c' ∈ (sub c.S ((p : Int)).toNat ((r : Int)).toNat).cps.toList, hexC c' = true := by
        rw [Int.toNat_natCast, Int.toNat_natCast, hr]
        exact fun c' h' => dig_hex (sub_run digC c.S p c' h')
      walk_at "steps"
      refine Hold.out ?_
      refine' Sp.call (whole_sp c ok' rv rn po r _ p hpo hrv (by omega) (by omega) p _ _ _ _ _) ?k1 ?k2 ?k3 ?k4 ?kp ?ka ?k5 ?kK ?kd ?ku ?_
      walk_at "useP"
      intro v9 o9 h9 tk9 F9 N9 A9 R9
      (simp only [List.append_nil] at N9); (try k_sweep); (try dsimp only); (try k_fold)
      walk_at "steps"
      rw [hk, e1]
      exact Ret.intro (by assumption) N9 R9.tok
end numeral_sp_at
theorem numeral_sp (c : Sc) (ok : c.Ok) (rv : List Value) (rn : Nat) (po : Obj) (p : Nat) (tp : Tok) (hpo : PlOb po p) (hrv : rv.length ≤ p) (hp : p < c.S.length) (hdg : 0 < run digC (suf c.S p)) (tq : Tok) : Sp 134 8 72 (full c p tp rv rn po) [.ref c.x, .int p tq] (TokR c (numKind c.S p) p (numEnd c.S p)) := by
  have h9 : numeral_sp_at.Pz (ec numeral_sp_at.ne numeral_sp_at.Pz) := by with_unfolding_all exact numeral_sp_at.main
  exact eps numeral_sp_at.ne h9 (c, rv, rn, po, p, tp, tq) ok hpo hrv hp hdg
theorem rst_M10 : Hold True := by (w_top off); first | walk1 | exact True.intro
theorem warm_M10 : ∀ P, (Challenge.rw_pb0353_01, hd.heap_1 P) = (Challenge.rw_pb0353_01, hd.heap_1 P) := by k_fill; intro P; rfl
theorem sub_one_len (S : Str) (q : Nat) : (sub S q (q + 1)).length ≤ 1 := by
  show (sub S q (q + 1)).cps.size ≤ 1
  rw [← Array.length_toList, sub_one, List.length_take]; omega
noncomputable def strAt (S : Str) (q : Nat) : Nat := match strGo (suf S q) with | some k => q + k | none => q + run rowC (suf S q)
section
variable {S : Str} {q : Nat}
theorem strAt_nil (h : (sub S q (q + 1) == Str.ofString "") = true) : strAt S q = q := by
  unfold strAt
  rw [suf_none (of_decide_eq_true (sub_emp (n := 0) h))]; rfl
theorem strAt_nl (h : (sub S q (q + 1) == Str.ofString "\n") = true) : strAt S q = q := by
  obtain ⟨e1, e2⟩ := one_is l_nl h
  unfold strAt
  rw [e1, strGo, if_pos rfl, run_cons, if_neg (by decide)]; rfl
theorem strAt_qu (h : (sub S q (q + 1) != Str.ofString "\"") = false) : strAt S q = q + 1 ∧ q < S.length := by
  obtain ⟨e1, e2⟩ := one_is l_qu (eq_of_bne h)
  refine ⟨?_, e2⟩
  unfold strAt
  rw [e1, strGo, if_neg (by decide), if_pos rfl]
theorem strAt_go (h : (sub S q (q + 1) != Str.ofString "\"") = true) (h1 : (sub S q (q + 1) == Str.ofString "") = false) (h2 : (sub S q (q + 1) == Str.ofString "\n") = false) : strAt S (q + 1) = strAt S q ∧ q < S.length := by
  obtain ⟨d, e1, e2, _⟩ := ne_is h1
  have h3 := one_not l_qu (ne_of_bne h)
  have h4 := one_not l_nl h2
  have d1 : ¬ d = 10 := fun e => h4 _ (by rw [e1, e])
  have d2 : ¬ d = 34 := fun e => h3 _ (by rw [e1, e])
  refine ⟨?_, e2⟩
  unfold strAt
  rw [e1, strGo, if_neg d1, if_neg d2, run_cons, if_pos (by unfold rowC; rw [decide_eq_false d1]; rfl)]
  cases strGo (suf S (q + 1)) with
  | none => show q + 1 + _ = q + (_ + 1); omega
  | some k => show q + 1 + k = q + (k + 1); omega
end
theorem rem_len (d : Int) (l : List Nat) (k : Nat) (h : rem d l = some k) : k ≤ l.length := by
  induction d, l using rem.induct generalizing k with
  | case1 => cases ‹Int› <;> cases h
  | case2 => cases ‹Int› <;> cases h
  | case3 d a b r hab ih =>
    rw [rem, if_pos hab] at h
    cases h1 : rem (d + 1) r with
    | none => rw [h1] at h; cases h
    | some j => rw [h1] at h; have := ih j h1; simp only [Option.map_some, Option.some.injEq] at h; simp only [List.length_cons]; omega
  | case4 d a b r hab hcd hd =>
    rw [rem, if_neg hab, if_pos hcd, if_pos hd] at h
    simp only [Option.some.injEq] at h; simp only [List.length_cons]; omega
  | case5 d a b r hab hcd hd ih =>
    rw [rem, if_neg hab, if_pos hcd, if_neg hd] at h
    cases h1 : rem (d - 1) r with
    | none => rw [h1] at h; cases h
    | some j => rw [h1] at h; have := ih j h1; simp only [Option.map_some, Option.some.injEq] at h; simp only [List.length_cons]; omega
  | case6 d a b r hab hcd ih =>
    rw [rem, if_neg hab, if_neg hcd] at h
    cases h1 : rem d (b :: r) with
    | none => rw [h1] at h; cases h
    | some j => rw [h1] at h; have := ih j h1; simp only [Option.map_some, Option.some.injEq] at h; simp only [List.length_cons] at *; omega
/-- the token at a place that is no gap and no remark: its kind, its place, the place behind it -/
inductive TakeAt (S : Str) (q : Nat) : Str → Nat → Nat → Prop
  | eof : S.length ≤ q → TakeAt S q (Str.ofString "eof") q q
  | word : isLet (sub S q (q + 1)) = true → TakeAt S q (if (kwords.any fun z => z == sub S q (q + run wordC (suf S q))) = true then sub S q (q + run wordC (suf S q)) else Str.ofString "ident") q (q + run wordC (suf S q))
  | num : isLet (sub S q (q + 1)) = false → isDig (sub S q (q + 1)) = true → TakeAt S q (numKind S q) q (numEnd S q)
  | str : isLet (sub S q (q + 1)) = false → isDig (sub S q (q + 1)) = false → (sub S q (q + 1) == Str.ofString "\"") = true → TakeAt S q (Str.ofString "string") q (strAt S (q + 1))
  | sign : isLet (sub S q (q + 1)) = false → isDig (sub S q (q + 1)) = false → (sub S q (q + 1) == Str.ofString "\"") = false → 0 < signLen (suf S q) → TakeAt S q (sub S q (q + signLen (suf S q))) q (q + signLen (suf S q))
inductive Takes (S : Str) : Nat → Str → Nat → Nat → Prop
  | tok {p q n b : Nat} {k : Str} : Skips S p q → TakeAt S q k b n → Takes S p k b n
  | bad {p q n b : Nat} {k : Str} : Skips S p q → q < S.length → isLet (sub S q (q + 1)) = false → isDig (sub S q (q + 1)) = false → (sub S q (q + 1) == Str.ofString "\"") = false → signLen (suf S q) = 0 → Takes S (q + 1) k b n → Takes S p k b n
theorem Takes.skips {S : Str} {p n b : Nat} {k : Str} (h : Takes S p k b n) : ∃ q, Skips S p q ∧ (TakeAt S q k b n ∨ q < S.length ∧ isLet (sub S q (q + 1)) = false ∧ isDig (sub S q (q + 1)) = false ∧ (sub S q (q + 1) == Str.ofString "\"") = false ∧ signLen (suf S q) = 0 ∧ Takes S (q + 1) k b n) := by
  cases h with
  | tok a b => exact ⟨_, a, .inl b⟩
  | bad a b c d e f g => exact ⟨_, a, .inr ⟨b, c, d, e, f, g⟩⟩
theorem Skips.le {S : Str} {p q : Nat} (h : Skips S p q) (hp : p ≤ S.length) : p ≤ q ∧ q ≤ S.length := by
  induction h with
  | stop => exact ⟨Nat.le_refl _, hp⟩
  | gap a _ _ ih =>
    have h1 := (suf_cons a).2
    have := ih h1
    omega
  | @rem p q a _ ih =>
    have h1 : suf S p = 40 :: 42 :: suf S (p + 2) ∧ p + 2 ≤ S.length := by
      cases h1 : suf S p with
      | nil => rw [h1] at a; cases a
      | cons x r =>
        rw [h1] at a
        cases r with
        | nil => cases a
        | cons y r =>
          simp only [List.take_succ_cons, List.take_zero, List.cons.injEq, and_true] at a
          obtain ⟨h2, h3⟩ := suf_cons h1
          obtain ⟨h4, h5⟩ := suf_cons h2
          rw [a.1, a.2, ← h4]
          exact ⟨rfl, h5⟩
    have h2 := remTo_le h1.1 h1.2
    have h3 : remTo S p ≤ S.length := by
      unfold remTo
      cases h4 : Mine.rem 0 (suf S p) with
      | none => exact Nat.le_refl _
      | some k =>
        have := rem_len 0 _ _ h4
        rw [List.length_drop, Array.length_toList] at this
        have h5 : S.cps.size = S.length := rfl
        show p + k ≤ S.length
        omega
    have := ih h3
    omega
section
variable {S : Str} {e b n : Nat} {k : Str}
theorem take_eof (h : (sub S e (e + 1) == Str.ofString "") = true) (hat : TakeAt S e k b n ∨ e < S.length ∧ isLet (sub S e (e + 1)) = false ∧ isDig (sub S e (e + 1)) = false ∧ (sub S e (e + 1) == Str.ofString "\"") = false ∧ signLen (suf S e) = 0 ∧ Takes S (e + 1) k b n) : k = Str.ofString "eof" ∧ b = e ∧ n = e := by
  have h1 := of_decide_eq_true (sub_emp (n := 0) h)
  have h2 : (sub S e (e + 1)).cps.toList = [] := by rw [sub_one, suf_none h1]; rfl
  rcases hat with hat | hat
  · cases hat with
    | eof _ => exact ⟨rfl, rfl, rfl⟩
    | word a => rw [isLet_nil h2] at a; cases a
    | num _ a => rw [isDig_nil h2] at a; cases a
    | str _ _ a => rw [str_eq l_qu, h2] at a; cases a
    | sign _ _ _ a => rw [suf_none h1] at a; exact absurd a (by decide)
  · omega
section
variable (h0 : (sub S e (e + 1) == Str.ofString "") = false)
include h0
theorem take_word (h : isLet (sub S e (e + 1)) = true) (hat : TakeAt S e k b n ∨ e < S.length ∧ isLet (sub S e (e + 1)) = false ∧ isDig (sub S e (e + 1)) = false ∧ (sub S e (e + 1) == Str.ofString "\"") = false ∧ signLen (suf S e) = 0 ∧ Takes S (e + 1) k b n) : k = (if (kwords.any fun z => z == sub S e (e + run wordC (suf S e))) = true then sub S e (e + run wordC (suf S e)) else Str.ofString "ident") ∧ b = e ∧ n = e + run wordC (suf S e) := by
  have h1 := of_decide_eq_false (sub_emp (n := 0) h0)
  rcases hat with hat | ⟨_, a, _⟩
  · cases hat with
    | eof a => exact absurd a h1
    | word => exact ⟨rfl, rfl, rfl⟩
    | num a _ => rw [h] at a; cases a
    | str a _ _ => rw [h] at a; cases a
    | sign a _ _ _ => rw [h] at a; cases a
  · rw [h] at a; cases a
variable (hl : isLet (sub S e (e + 1)) = false)
include hl
theorem take_num (h : isDig (sub S e (e + 1)) = true) (hat : TakeAt S e k b n ∨ e < S.length ∧ isLet (sub S e (e + 1)) = false ∧ isDig (sub S e (e + 1)) = false ∧ (sub S e (e + 1) == Str.ofString "\"") = false ∧ signLen (suf S e) = 0 ∧ Takes S (e + 1) k b n) : k = numKind S e ∧ b = e ∧ n = numEnd S e := by
  have h1 := of_decide_eq_false (sub_emp (n := 0) h0)
  rcases hat with hat | ⟨_, _, a, _⟩
  · cases hat with
    | eof a => exact absurd a h1
    | word a => rw [hl] at a; cases a
    | num a _ => exact ⟨rfl, rfl, rfl⟩
    | str _ a _ => rw [h] at a; cases a
    | sign _ a _ _ => rw [h] at a; cases a
  · rw [h] at a; cases a
variable (hd : isDig (sub S e (e + 1)) = false)
include hd
theorem take_str (h : (sub S e (e + 1) == Str.ofString "\"") = true) (hat : TakeAt S e k b n ∨ e < S.length ∧ isLet (sub S e (e + 1)) = false ∧ isDig (sub S e (e + 1)) = false ∧ (sub S e (e + 1) == Str.ofString "\"") = false ∧ signLen (suf S e) = 0 ∧ Takes S (e + 1) k b n) : k = Str.ofString "string" ∧ b = e ∧ n = strAt S (e + 1) := by
  have h1 := of_decide_eq_false (sub_emp (n := 0) h0)
  rcases hat with hat | ⟨_, _, _, a, _⟩
  · cases hat with
    | eof a => exact absurd a h1
    | word a => rw [hl] at a; cases a
    | num _ a => rw [hd] at a; cases a
    | str _ _ _ => exact ⟨rfl, rfl, rfl⟩
    | sign _ _ a _ => rw [h] at a; cases a
  · rw [h] at a; cases a
theorem take_rest (h : (sub S e (e + 1) == Str.ofString "\"") = false) (hat : TakeAt S e k b n ∨ e < S.length ∧ isLet (sub S e (e + 1)) = false ∧ isDig (sub S e (e + 1)) = false ∧ (sub S e (e + 1) == Str.ofString "\"") = false ∧ signLen (suf S e) = 0 ∧ Takes S (e + 1) k b n) : (0 < signLen (suf S e) ∧ k = sub S e (e + signLen (suf S e)) ∧ b = e ∧ n = e + signLen (suf S e)) ∨ (signLen (suf S e) = 0 ∧ Takes S (e + 1) k b n) := by
  have h1 := of_decide_eq_false (sub_emp (n := 0) h0)
  rcases hat with hat | ⟨_, _, _, _, a, c⟩
  · cases hat with
    | eof a => exact absurd a h1
    | word a => rw [hl] at a; cases a
    | num _ a => rw [hd] at a; cases a
    | str _ _ a => rw [h] at a; cases a
    | sign _ _ _ a => exact .inl ⟨a, rfl, rfl, rfl⟩
  · exact .inr ⟨a, c⟩
end
theorem let_run (h : isLet (sub S e (e + 1)) = true) : 0 < run wordC (suf S e) := by
  have := (word_let (x := S) (c := e) (by rw [Int.toNat_natCast, toNat_1]; exact h)).1
  omega
theorem sign_fit (l : List Nat) : signLen l ≤ l.length := by
  unfold signLen
  split
  · rename_i h
    cases l with
    | nil => exact absurd h (by decide)
    | cons a r =>
      cases r with
      | nil => unfold pairB at h; simp at h
      | cons b r => simp only [List.length_cons]; omega
  · split
    · rename_i h
      cases l with
      | nil => exact absurd h (by decide)
      | cons a r => simp only [List.length_cons]; omega
    · omega
theorem sign_len : (sub S e (e + signLen (suf S e))).length = signLen (suf S e) := by
  have h := sign_fit (suf S e)
  show (sub S e (e + signLen (suf S e))).cps.size = _
  rw [← Array.length_toList, sub_list, List.length_take, show e + signLen (suf S e) - e = signLen (suf S e) by omega]
  exact Nat.min_eq_left h
end
inductive OnesAre : List Value → Prop
  | nil : OnesAre []
  | cons {x : Str} {t : Tok} {vs : List Value} : x.length ≤ 1 → OnesAre vs → OnesAre (.str x t :: vs)
theorem OnesAre.snoc {vs : List Value} (h : OnesAre vs) {x : Str} {t : Tok} (hx : x.length ≤ 1) : OnesAre (vs ++ [.str x t]) := by
  induction h with
  | nil => exact .cons hx .nil
  | cons a _ ih => exact .cons a ih
theorem OnesAre.strs {vs : List Value} (h : OnesAre vs) : ∃ xs, StrsAre vs xs ∧ (xs.map (·.length)).sum ≤ vs.length ∧ xs.length = vs.length := by
  induction h with
  | nil => exact ⟨[], .nil, Nat.le_refl _, rfl⟩
  | @cons x t vs a _ ih =>
    obtain ⟨xs, e1, e2, e3⟩ := ih
    refine ⟨x :: xs, .cons _ _ e1, ?_, by simp [e3]⟩
    simp only [List.map_cons, List.sum_cons, List.length_cons]
    omega
namespace string_sp_at
noncomputable def St (c : Sc) (rv : List Value) (rn : Nat) (po : Obj) (p : Nat) (tp : Tok) (tq : Tok) : Prop := ∀ (ok : c.Ok) (hS2 : c.S.length ≤ 200000) (hpo : PlOb po p) (hrv : rv.length ≤ p) (hp : p < c.S.length), Sp 176 8 72 (full c p tp rv rn po) [.ref c.x, .int p tq] (TokR c (Str.ofString "string") p (strAt c.S (p + 1)))
noncomputable def Pz (z : (Sc) × (List Value) × (Nat) × (Obj) × (Nat) × (Tok) × (Tok)) : Prop := St (z.1) (z.2.1) (z.2.2.1) (z.2.2.2.1) (z.2.2.2.2.1) (z.2.2.2.2.2.1) (z.2.2.2.2.2.2)
theorem ne : Nonempty ((Sc) × (List Value) × (Nat) × (Obj) × (Nat) × (Tok) × (Tok)) := ⟨(Classical.choice sc_ne, default, default, default, default, default, default)⟩
noncomputable def z : (Sc) × (List Value) × (Nat) × (Obj) × (Nat) × (Tok) × (Tok) := ec ne Pz
@[irreducible] noncomputable def c : Sc := z.1
@[irreducible] noncomputable def rv : List Value := z.2.1
@[irreducible] noncomputable def rn : Nat := z.2.2.1
@[irreducible] noncomputable def po : Obj := z.2.2.2.1
@[irreducible] noncomputable def p : Nat := z.2.2.2.2.1
@[irreducible] noncomputable def tp : Tok := z.2.2.2.2.2.1
@[irreducible] noncomputable def tq : Tok := z.2.2.2.2.2.2
@[irreducible] noncomputable def cx : Ctx := fctx 176 8 72 (full c p tp rv rn po) [.ref c.x, .int p tq] (TokR c (Str.ofString "string") p (strAt c.S (p + 1)))
theorem main : St c rv rn po p tp tq := by
  intro ok hS2 hpo hrv hp
  obtain ⟨hS, hw, n1, n2, n3, n4, n5, n6, n7, n8, n9, m4, m5, m6, m7, m8, m9, l1, l2, l3, l4, l5⟩ := ok
  refine' sp_at cx (by with_unfolding_all rfl) [(Str.ofString "self", .ref c.x), (Str.ofString "begun", .int p tq)] ?k6 ?k7 ?k9 ?kB ?c2 ?c3 ?c4 ?c5 ?_
  (((case k6 => intro P; k_is); (case k7 => intro P; k_is); (case kB => exact rfl); (case c2 => exact rfl); (case c3 => exact rfl); (case c4 => exact rfl); (case c5 => decide)); (case k9 => exact rfl); unfold BdC; intros; (try dsimp only); (try k_fold))
  walk_at "steps"
  refine Hold.out ?_
  (rename Fr _ _ _ _ => F0)
  (rename News _ _ _ _ => N0)
  rename_i l9 _ hl _ _
  refine ksw_while (σ := (Nat × Tok) × (List Value × Nat) × (List Value × Nat × Obj)) (fun q => (l9, listOf q.2.1.1.toArray q.2.1.2) :: full c q.1.1 q.1.2 q.2.2.1 q.2.2.2.1 q.2.2.2.2) (fun _ => []) (fun _ => True) [Str.ofString "char"] (fun q => strAt c.S q.1.1 = strAt c.S (p + 1) ∧ p + 1 ≤ q.1.1 ∧ q.1.1 ≤ c.S.length ∧ OnesAre q.2.1.1 ∧ q.2.1.1.length ≤ q.1.1 ∧ PlOb q.2.2.2.2 (q.1.1 - 1) ∧ q.2.2.1.length ≤ q.1.1 - 1) (fun q => c.S.length - q.1.1) ((p + 1, _), ([], 0), (rv, rn, po)) F0 N0 trivial (by kst_all) ⟨rfl, Nat.le_refl _, hp, .nil, Nat.zero_le _, hpo, hrv⟩ ?_
  rintro ⟨⟨q, uq⟩, ⟨vs, ep⟩, rv1, rn1, po1⟩ u h tk _ ⟨hP1, hP2, hP3, hP4, hP5, hP6, hP7⟩ F' N'
  dsimp only at hP1 hP2 hP3 hP4 hP5 hP6 hP7 F' N' ⊢
  clear N0 F0 hrv hpo
  have hsz : vs.toArray.size ≤ sizeLine := by rw [List.size_toArray, sizeLine_eq]; omega
  (try k_fold)
  walk_at "steps"
  · have e1 : strAt c.S q = q := strAt_nil (by assumption)
    obtain ⟨xs, hxs, hsum, hlen⟩ := hP4.strs
    (rename News _ _ _ _ => N5)
    refine join_listC ((ListOb.of vs ep).isList (N5 (l9, listOf vs.toArray ep) (by simp)).1) hxs (by decide) (by omega) ?_
    intro t' k
    (try dsimp only); (try k_fold)
    walk_at "steps"
    (rename News _ _ _ _ => N6)
    (rename PlOb _ _ => P5)
    (rename _ ≤ q - 1 + 1 => H5)
    rw [← hP1, e1]
    refine' tok_end (by assumption) N6 ?hp rfl (PlOb.mono P5 (by omega)) ?hr
    (case hp => walk_at "pick")
    (case hr => (first | exact om1 (by with_reducible assumption) (by walk_at "cj") | exact om2 (by walk_at "cj") | exact om3 (by with_reducible assumption) (by walk_at "cj") | exact om4 (by with_reducible assumption) (by walk_at "cj") | exact om5 (by walk_at "cj") | exact om6 (by with_reducible assumption) | exact om7 (by with_reducible assumption) | exact om8 | omega))
  · have e1 : strAt c.S q = q := strAt_nl (by assumption)
    obtain ⟨xs, hxs, hsum, hlen⟩ := hP4.strs
    (rename News _ _ _ _ => N5)
    refine join_listC ((ListOb.of vs ep).isList (N5 (l9, listOf vs.toArray ep) (by simp)).1) hxs (by decide) (by omega) ?_
    intro t' k
    (try dsimp only); (try k_fold)
    walk_at "steps"
    (rename News _ _ _ _ => N6)
    (rename PlOb _ _ => P5)
    (rename _ ≤ q - 1 + 1 => H5)
    rw [← hP1, e1]
    refine' tok_end (by assumption) N6 ?hp rfl (PlOb.mono P5 (by omega)) ?hr
    (case hp => walk_at "pick")
    (case hr => (first | exact om1 (by with_reducible assumption) (by walk_at "cj") | exact om2 (by walk_at "cj") | exact om3 (by with_reducible assumption) (by walk_at "cj") | exact om4 (by with_reducible assumption) (by walk_at "cj") | exact om5 (by walk_at "cj") | exact om6 (by with_reducible assumption) | exact om7 (by with_reducible assumption) | exact om8 | omega))
  · obtain ⟨e1, e2⟩ := strAt_go (S := c.S) (q := q) (by assumption) (by assumption) (by assumption)
    refine Hold.out ?_
    (rename News _ _ _ _ => N5)
    (rename PlOb _ _ => P5)
    (rename _ ≤ q - 1 + 1 => H5)
    refine' ksw_end (c' := ((q + 1, _), (vs, ep), (_, _, _))) (by assumption) N5 (Pick.mem' ?hp) trivial (by kst_all) (by (intro z9 h8 h9; (simp only [List.forall_mem_cons, List.not_mem_nil, List.contains_cons, List.contains_nil, Bool.or_false, Bool.or_eq_false_iff, beq_eq_false_iff_ne, false_implies, implies_true, and_true, ne_eq] at h8 h9); (simp [kstB, h8, h9]))) ⟨by rw [← hP1, ← e1], Nat.le_succ_of_le hP2, e2, hP4, Nat.le_succ_of_le hP5, PlOb.mono P5 (by (try dsimp only); (first | exact om1 (by with_reducible assumption) (by walk_at "cj") | exact om2 (by walk_at "cj") | exact om3 (by with_reducible assumption) (by walk_at "cj") | exact om4 (by with_reducible assumption) (by walk_at "cj") | exact om5 (by walk_at "cj") | exact om6 (by with_reducible assumption) | exact om7 (by with_reducible assumption) | exact om8 | omega)), ?hr⟩ (by (try dsimp only); (first | exact om1 (by with_reducible assumption) (by walk_at "cj") | exact om2 (by walk_at "cj") | exact om3 (by with_reducible assumption) (by walk_at "cj") | exact om4 (by with_reducible assumption) (by walk_at "cj") | exact om5 (by walk_at "cj") | exact om6 (by with_reducible assumption) | exact om7 (by with_reducible assumption) | exact om8 | omega))
    (case hp => walk_at "pick")
    (case hr => (try dsimp only); (first | exact om1 (by with_reducible assumption) (by walk_at "cj") | exact om2 (by walk_at "cj") | exact om3 (by with_reducible assumption) (by walk_at "cj") | exact om4 (by with_reducible assumption) (by walk_at "cj") | exact om5 (by walk_at "cj") | exact om6 (by with_reducible assumption) | exact om7 (by with_reducible assumption) | exact om8 | omega))
  · obtain ⟨e1, e2⟩ := strAt_go (S := c.S) (q := q) (by assumption) (by assumption) (by assumption)
    refine Hold.out ?_
    (rename News _ _ _ _ => N5)
    rw [List.push_toArray] at N5
    refine' ksw_end (c' := ((q + 1, _), (vs ++ [.str (sub c.S q (q + 1)) _], ep + 1), (rv1, rn1, po1))) (by assumption) N5 (Pick.mem' ?hp) trivial (by kst_all) (by (intro z9 h8 h9; (simp only [List.forall_mem_cons, List.not_mem_nil, List.contains_cons, List.contains_nil, Bool.or_false, Bool.or_eq_false_iff, beq_eq_false_iff_ne, false_implies, implies_true, and_true, ne_eq] at h8 h9); (simp [kstB, h8, h9]))) ?hQ ?hm
    (case hp => walk_at "pick")
    (case hQ => exact ⟨by rw [← hP1, ← e1], Nat.le_succ_of_le hP2, e2, hP4.snoc (sub_one_len _ _), by (try dsimp only); rw [List.length_append, List.length_singleton]; omega, hP6.mono (by (try dsimp only); omega), by (try dsimp only); omega⟩)
    (case hm => (try dsimp only); (first | exact om1 (by with_reducible assumption) (by walk_at "cj") | exact om2 (by walk_at "cj") | exact om3 (by with_reducible assumption) (by walk_at "cj") | exact om4 (by with_reducible assumption) (by walk_at "cj") | exact om5 (by walk_at "cj") | exact om6 (by with_reducible assumption) | exact om7 (by with_reducible assumption) | exact om8 | omega))
  · obtain ⟨e1, e2⟩ := strAt_qu (S := c.S) (q := q) (by assumption)
    obtain ⟨xs, hxs, hsum, hlen⟩ := hP4.strs
    (rename News _ _ _ _ => N5)
    refine join_listC ((ListOb.of vs ep).isList (N5 (l9, listOf vs.toArray ep) (by simp)).1) hxs (by decide) (by omega) ?_
    intro t' k
    (try dsimp only); (try k_fold)
    walk_at "steps"
    (rename News _ _ _ _ => N6)
    rw [← hP1, e1]
    refine' tok_end (by assumption) N6 ?hp rfl (hP6.mono (by omega)) ?hr
    (case hp => walk_at "pick")
    (case hr => (first | exact om1 (by with_reducible assumption) (by walk_at "cj") | exact om2 (by walk_at "cj") | exact om3 (by with_reducible assumption) (by walk_at "cj") | exact om4 (by with_reducible assumption) (by walk_at "cj") | exact om5 (by walk_at "cj") | exact om6 (by with_reducible assumption) | exact om7 (by with_reducible assumption) | exact om8 | omega))
end string_sp_at
theorem string_sp (c : Sc) (ok : c.Ok) (rv : List Value) (rn : Nat) (po : Obj) (p : Nat) (tp : Tok) (hS2 : c.S.length ≤ 200000) (hpo : PlOb po p) (hrv : rv.length ≤ p) (hp : p < c.S.length) (tq : Tok) : Sp 176 8 72 (full c p tp rv rn po) [.ref c.x, .int p tq] (TokR c (Str.ofString "string") p (strAt c.S (p + 1))) := by
  have h9 : string_sp_at.Pz (ec string_sp_at.ne string_sp_at.Pz) := by with_unfolding_all exact string_sp_at.main
  exact eps string_sp_at.ne h9 (c, rv, rn, po, p, tp, tq) ok hS2 hpo hrv hp
namespace take_sp_at
noncomputable def St (c : Sc) (rv : List Value) (rn : Nat) (po : Obj) (p : Nat) (tp : Tok) (k : Str) (b : Nat) (n : Nat) : Prop := ∀ (ok : c.Ok) (hS2 : c.S.length ≤ 200000) (hpo : PlOb po p) (hrv : rv.length ≤ p) (hp : p ≤ c.S.length) (hT : Takes c.S p k b n), Sp 106 20 160 (full c p tp rv rn po) [.ref c.x] (TokR c k b n)
noncomputable def Pz (z : (Sc) × (List Value) × (Nat) × (Obj) × (Nat) × (Tok) × (Str) × (Nat) × (Nat)) : Prop := St (z.1) (z.2.1) (z.2.2.1) (z.2.2.2.1) (z.2.2.2.2.1) (z.2.2.2.2.2.1) (z.2.2.2.2.2.2.1) (z.2.2.2.2.2.2.2.1) (z.2.2.2.2.2.2.2.2)
theorem ne : Nonempty ((Sc) × (List Value) × (Nat) × (Obj) × (Nat) × (Tok) × (Str) × (Nat) × (Nat)) := ⟨(Classical.choice sc_ne, default, default, default, default, default, default, default, default)⟩
noncomputable def z : (Sc) × (List Value) × (Nat) × (Obj) × (Nat) × (Tok) × (Str) × (Nat) × (Nat) := ec ne Pz
@[irreducible] noncomputable def c : Sc := z.1
@[irreducible] noncomputable def rv : List Value := z.2.1
@[irreducible] noncomputable def rn : Nat := z.2.2.1
@[irreducible] noncomputable def po : Obj := z.2.2.2.1
@[irreducible] noncomputable def p : Nat := z.2.2.2.2.1
@[irreducible] noncomputable def tp : Tok := z.2.2.2.2.2.1
@[irreducible] noncomputable def k : Str := z.2.2.2.2.2.2.1
@[irreducible] noncomputable def b : Nat := z.2.2.2.2.2.2.2.1
@[irreducible] noncomputable def n : Nat := z.2.2.2.2.2.2.2.2
@[irreducible] noncomputable def cx : Ctx := fctx 106 20 160 (full c p tp rv rn po) [.ref c.x] (TokR c k b n)
theorem main : St c rv rn po p tp k b n := by
  intro ok hS2 hpo hrv hp hT
  have ok' := ok
  obtain ⟨hS, hw, n1, n2, n3, n4, n5, n6, n7, n8, n9, m4, m5, m6, m7, m8, m9, l1, l2, l3, l4, l5⟩ := ok
  refine' sp_at cx (by with_unfolding_all rfl) [(Str.ofString "self", .ref c.x)] ?k6 ?k7 ?k9 ?kB ?c2 ?c3 ?c4 ?c5 ?_
  (((case k6 => intro P; k_is); (case k7 => intro P; k_is); (case kB => exact rfl); (case c2 => exact rfl); (case c3 => exact rfl); (case c4 => exact rfl); (case c5 => decide)); (case k9 => exact rfl); unfold BdC; intros; (try dsimp only); (try k_fold))
  walk_at "steps"
  refine Hold.out ?_
  (rename Fr _ _ _ _ => F0)
  (rename News _ _ _ _ => N0)
  refine ksw_while (σ := (Nat × Tok) × (List Value × Nat × Obj)) (fun q => full c q.1.1 q.1.2 q.2.1 q.2.2.1 q.2.2.2) (fun _ => []) (fun _ => True) [Str.ofString "begun", Str.ofString "char", Str.ofString "symbol"] (fun q => Takes c.S q.1.1 k b n ∧ q.1.1 ≤ c.S.length ∧ PlOb q.2.2.2 q.1.1 ∧ q.2.1.length ≤ q.1.1) (fun q => c.S.length - q.1.1) ((p, tp), (rv, rn, po)) F0 N0 trivial (by kst_all) ⟨hT, hp, hpo, hrv⟩ ?_
  rintro ⟨⟨q, uq⟩, rv1, rn1, po1⟩ u h tk _ ⟨hP1, hP2, hP3, hP4⟩ F' N'
  dsimp only at hP1 hP2 hP3 hP4 F' N' ⊢
  clear N0 F0 hrv hpo
  obtain ⟨e, hsk, hat⟩ := hP1.skips
  obtain ⟨le1, le2⟩ := hsk.le hP2
  (try k_fold)
  walk_at "steps"
  refine Hold.out ?_
  refine' callE4 (skip_sp c ok' rv1 rn1 po1 q uq hP3 hP4 e hsk) (fun _ _ h => h.all) ?k1 ?k2 ?k3 ?k4 ?kp ?ka ?k5 ?kK ?kd ?ku ?_
  walk_at "useP"
  intro tp2 rv2 rn2 po2 h9 tk9 F9 N9 A9 R9
  have hP5 := R9.1
  have hP6 := R9.2
  clear A9 R9
  (dsimp only [full, List.cons_append, List.nil_append] at N9); (try k_sweep); (try dsimp only); (try k_fold)
  walk_at "steps"
  · obtain ⟨eK, eB, eN⟩ := take_eof (by assumption) hat
    (rename News _ _ _ _ => N6)
    rw [eK, eB, eN]
    refine' tok_end (by assumption) N6 ?hp rfl hP5 hP6
    (case hp => walk_at "pick")
  · obtain ⟨eK, eB, eN⟩ := take_word (by assumption) (by assumption) hat
    refine Hold.out ?_
    refine' Sp.call (word_sp c ok' rv2 rn2 po2 e tp2 hP5 hP6 _ (let_run (by assumption))) ?k1 ?k2 ?k3 ?k4 ?kp ?ka ?k5 ?kK ?kd ?ku ?_
    walk_at "useP"
    intro v9 o9 h9 tk9 F9 N9 A9 R9
    (simp only [List.append_nil] at N9); (try k_sweep); (try dsimp only); (try k_fold)
    walk_at "steps"
    rw [eK, eB, eN]
    exact Ret.intro (by assumption) N9 R9
  · obtain ⟨eK, eB, eN⟩ := take_num (by assumption) (by assumption) (by assumption) hat
    refine Hold.out ?_
    have e9 := dig_go (S := c.S) (q := e) (by assumption)
    refine' Sp.call (numeral_sp c ok' rv2 rn2 po2 e tp2 hP5 hP6 e9.2 (by omega) _) ?k1 ?k2 ?k3 ?k4 ?kp ?ka ?k5 ?kK ?kd ?ku ?_
    walk_at "useP"
    intro v9 o9 h9 tk9 F9 N9 A9 R9
    (simp only [List.append_nil] at N9); (try k_sweep); (try dsimp only); (try k_fold)
    walk_at "steps"
    rw [eK, eB, eN]
    exact Ret.intro (by assumption) N9 R9
  · obtain ⟨eK, eB, eN⟩ := take_str (by assumption) (by assumption) (by assumption) (by assumption) hat
    refine Hold.out ?_
    have e9 := (one_is (x := c.S) (c := e) l_qu (by assumption)).2
    refine' Sp.call (string_sp c ok' rv2 rn2 po2 e tp2 hS2 hP5 hP6 e9 _) ?k1 ?k2 ?k3 ?k4 ?kp ?ka ?k5 ?kK ?kd ?ku ?_
    walk_at "useP"
    intro v9 o9 h9 tk9 F9 N9 A9 R9
    (simp only [List.append_nil] at N9); (try k_sweep); (try dsimp only); (try k_fold)
    walk_at "steps"
    rw [eK, eB, eN]
    exact Ret.intro (by assumption) N9 R9
  · have e8 := (code_is (x := c.S) (c := e) (by assumption)).2
    have hlen := sign_len (S := c.S) (e := e)
    have hsl : (sub c.S e (e + signLen (suf c.S e))).length ≤ 1048576 := Nat.le_trans (sub_length_le _ _ _) hS
    have hat2 := take_rest (by assumption) (by assumption) (by assumption) (by assumption) hat
    refine Hold.out ?_
    refine' callM (symbol_sp _ _ _ _ _ _ _ _ _ _ _ _ _ _ _ _ hS e8) ?k1 ?k2 ?k3 ?k4 ?kp ?ka ?k5 ?kK ?kd ?ku ?_
    walk_at "useP"
    intro t9
    walk_at "gm"
    walk_at "steps"
    · rcases hat2 with ⟨hpos, hk, hb, hn⟩ | ⟨h0, _⟩
      · rw [hk, hb, hn]
        (rename News _ _ _ _ => N6)
        rw [hlen] at N6
        refine' tok_end (by assumption) N6 ?hp rfl (hP5.mono (Nat.le_add_right _ _)) ?hr
        (case hp => walk_at "pick")
        (case hr => (first | exact om1 (by with_reducible assumption) (by walk_at "cj") | exact om2 (by walk_at "cj") | exact om3 (by with_reducible assumption) (by walk_at "cj") | exact om4 (by with_reducible assumption) (by walk_at "cj") | exact om5 (by walk_at "cj") | exact om6 (by with_reducible assumption) | exact om7 (by with_reducible assumption) | exact om8 | omega))
      · exfalso
        have hne : (sub c.S e (e + signLen (suf c.S e)) != Str.ofString "") = true := by assumption
        rw [h0] at hne
        rw [show sub c.S e (e + 0) = Str.ofString "" from sub_none c.S e] at hne
        simp at hne
    · rcases hat2 with ⟨hpos, hk, hb, hn⟩ | ⟨h0, hT2⟩
      · exfalso
        have hne : (sub c.S e (e + signLen (suf c.S e)) != Str.ofString "") = false := by assumption
        rw [show signLen (suf c.S e) = (signLen (suf c.S e) - 1) + 1 by omega] at hne
        exact absurd (of_decide_eq_true (sub_emp (eq_of_bne hne))) (by omega)
      · refine Hold.out ?_
        (rename News _ _ _ _ => N5)
        (rename PlOb _ _ => P5)
        (rename _ ≤ e + 1 => H5)
        refine' ksw_end (c' := ((e + 1, _), (_, _, _))) (by assumption) N5 (Pick.mem' ?hp) trivial (by kst_all) (by (intro z9 h8 h9; (simp only [List.forall_mem_cons, List.not_mem_nil, List.contains_cons, List.contains_nil, Bool.or_false, Bool.or_eq_false_iff, beq_eq_false_iff_ne, false_implies, implies_true, and_true, ne_eq] at h8 h9); (simp [kstB, h8, h9]))) ?hQ ?hm
        (case hp => walk_at "pick")
        (case hQ => exact ⟨hT2, e8, P5, H5⟩)
        (case hm => (try dsimp only); (first | exact om1 (by with_reducible assumption) (by walk_at "cj") | exact om2 (by walk_at "cj") | exact om3 (by with_reducible assumption) (by walk_at "cj") | exact om4 (by with_reducible assumption) (by walk_at "cj") | exact om5 (by walk_at "cj") | exact om6 (by with_reducible assumption) | exact om7 (by with_reducible assumption) | exact om8 | omega))
end take_sp_at
theorem take_sp (c : Sc) (ok : c.Ok) (rv : List Value) (rn : Nat) (po : Obj) (p : Nat) (tp : Tok) (hS2 : c.S.length ≤ 200000) (hpo : PlOb po p) (hrv : rv.length ≤ p) (hp : p ≤ c.S.length) (k : Str) (b n : Nat) (hT : Takes c.S p k b n) : Sp 106 20 160 (full c p tp rv rn po) [.ref c.x] (TokR c k b n) := by
  have h9 : take_sp_at.Pz (ec take_sp_at.ne take_sp_at.Pz) := by with_unfolding_all exact take_sp_at.main
  exact eps take_sp_at.ne h9 (c, rv, rn, po, p, tp, k, b, n) ok hS2 hpo hrv hp hT
theorem rst_M11 : Hold True := by (w_top off); first | walk1 | exact True.intro
theorem warm_M11 : ∀ P, (Challenge.rw_pb0353_01, hd.heap_1 P) = (Challenge.rw_pb0353_01, hd.heap_1 P) := by k_fill; intro P; rfl
theorem plob_of {prog : Program} {w : World} {o : Obj} (h : Obj.IsDictOf (intKind prog w) o []) : PlOb o 0 := by
  obtain ⟨es, ep, hx, hd, _, hp, _⟩ := h
  have he : es = #[] := by
    have : es.toList = [] := by cases h1 : es.toList with
      | nil => rfl
      | cons a r => rw [h1] at hp; cases hp
    exact Array.toList_inj.mp this
  subst he
  refine ⟨fun _ => none, fun h' a e => ⟨⟨o, #[], ep, e, hx.1, hd, fun _ he => by simp at he, fun _ => rfl⟩, fun o2 es2 ep2 e2 d2 => ?_⟩⟩
  rw [e] at e2; cases e2
  rw [hd] at d2; cases d2
  exact Nat.le_refl _
theorem mk_err_sp : Sp 339 2 16 [] [] (fun v o => ∃ ex ed g1 j1 rl g2 j2 pl po, v = .ref ex ∧ o = errL ex ed g1 j1 rl g2 j2 pl [] 0 po ∧ PlOb po 0 ∧ @Ne Nat rl ex ∧ @Ne Nat rl ed ∧ @Ne Nat rl pl ∧ @Ne Nat pl ex ∧ @Ne Nat pl ed) := by
  refine sp_cls (d := 1) (u := 8) (fI := 315) (fun P => by k_is) (fun P => by k_is) (fun P => by k_is) fun x dx l2 => ?_
  refine' spc_of [(Str.ofString "self", .ref x)] ?k6 ?k7 ?k9 ?kB ?c2 ?c3 ?c4 ?c5 ?_
  (((case k6 => intro P; k_is); (case k7 => intro P; k_is); (case kB => exact rfl); (case c2 => exact rfl); (case c3 => exact rfl); (case c4 => exact rfl); (case c5 => decide)); (case k9 => exact rfl); unfold Bd; intros; (try dsimp only); (try k_fold))
  walk_at "steps"
  (rename Obj.IsDictOf (intKind _ _) _ _ => hi5)
  (rename News _ _ _ _ => N5)
  refine' Ret.pick (by assumption) N5 ?hp ⟨rfl, x, dx, _, _, _, _, _, _, _, rfl, rfl, plob_of hi5, ?h1, ?h2, ?h3, ?h4, ?h5⟩
  (case hp => walk_at "pick")
  all_goals omega
theorem mk_scan_sp (S : Str) (tS : Tok) (ex ed : Nat) (g1 : Int) (j1 : Tok) (rl : Nat) (g2 : Int) (j2 : Tok) (pl : Nat) (po : Obj) (hpo : PlOb po 0) (l1 : @Ne Nat rl ex) (l2 : @Ne Nat rl ed) (l3 : @Ne Nat rl pl) (l4 : @Ne Nat pl ex) (l5 : @Ne Nat pl ed) (hS : S.length ≤ 1048576) :
    Sp 186 4 40 [] [.str S tS, .ref ex] (fun v o => ∃ x d h1 k1 h2 k2 h3 k3 tp h4 k4 wa wv, v = .ref x ∧ o = meL x d h1 k1 S tS h2 k2 ex h3 k3 0 tp h4 k4 wa ++ [(wa, tupObj wv)] ∧ StrsAre wv kwords ∧ @Ne Nat x d ∧ @Ne Nat x wa ∧ @Ne Nat d wa) := by
  refine sp_cls (d := 3) (u := 32) (fI := 91) (fun P => by k_is) (fun P => by k_is) (fun P => by k_is) fun x dx l2 => ?_
  refine' spc_of [(Str.ofString "self", .ref x), (Str.ofString "source", .str S tS), (Str.ofString "errors", .ref ex)] ?k6 ?k7 ?k9 ?kB ?c2 ?c3 ?c4 ?c5 ?_
  (((case k6 => intro P; k_is); (case k7 => intro P; k_is); (case kB => exact rfl); (case c2 => exact rfl); (case c3 => exact rfl); (case c4 => exact rfl); (case c5 => decide)); (case k9 => exact rfl); unfold Bd; intros; (try dsimp only); (try k_fold))
  walk_at "steps"
  (rename Apart _ _ => A5)
  have w1 : @Ne Nat _ dx := A5 _ (.head _) _ (.tail _ (.head _))
  have w2 : @Ne Nat _ x := A5 _ (.head _) _ (.head _)
  have w3 : @Ne Nat x dx := Nat.ne_of_gt (by assumption)
  walk_at "steps"

  (rename News _ _ _ _ => N5)
  refine' Ret.pick (by assumption) N5 ?hp ⟨rfl, x, dx, _, _, _, _, _, _, _, _, _, _, _, rfl, rfl, by assumption, w3, w2.symm, w1.symm⟩
  (case hp => walk_at "pick")
theorem rst_M12 : Hold True := by (w_top off); first | walk1 | exact True.intro
theorem warm_M12 : ∀ P, (Challenge.rw_pb0353_01, hd.heap_1 P) = (Challenge.rw_pb0353_01, hd.heap_1 P) := by k_fill; intro P; rfl
local macro_rules | `(tactic| walk_at "compareOp NotEq ref ref") => `(tactic| refine Hold.out ?_)
theorem ints_last {ws : List Value} {ns : List Int} (h : IntsAre ws ns) : (ws = [] ∧ ns = []) ∨ ∃ ws' n t ns', ws = ws' ++ [.int n t] ∧ ns = ns' ++ [n] ∧ IntsAre ws' ns' := by
  induction h with
  | nil => exact .inl ⟨rfl, rfl⟩
  | @cons n t ws ns r ih =>
    right
    rcases ih with ⟨rfl, rfl⟩ | ⟨ws', m, u, ns', rfl, rfl, r'⟩
    · exact ⟨[], n, t, [], rfl, rfl, .nil⟩
    · exact ⟨.int n t :: ws', m, u, n :: ns', rfl, rfl, .cons n t r'⟩
theorem datAll_ints {news : List (Addr × Obj)} {ws : List Value} {ns : List Int} (h : IntsAre ws ns) : DatAll news ws (ns.map Dat.int) := by
  induction h with
  | nil => exact .nil
  | cons n t _ ih => exact .cons (.int n t) ih
noncomputable def PoolOk (ws : List Value) (t : Int) : Prop := ∃ ns, IntsAre ws ns ∧ (∀ n ∈ ns, 0 ≤ n) ∧ ws.length ≤ 1000 ∧ 0 ≤ t ∧ t ≤ 1000
noncomputable abbrev poolL (pa wl : Nat) (ws : List Value) (we : Nat) (t : Int) (tt : Tok) (ep : Nat) : List (Addr × Obj) := [(pa, listOf #[.ref wl, .int t tt] ep), (wl, listOf ws.toArray we)]
namespace pick_sp_at
noncomputable def St (pa : Nat) (wl : Nat) (ws : List Value) (we : Nat) (t : Int) (tt : Tok) (ep : Nat) (ways : Int) (tw : Tok) : Prop := ∀ (hne : @Ne Nat pa wl) (hok : PoolOk ws t) (h0 : 0 < ways) (h1 : ways ≤ 1000), Sp 357 2 100 (poolL pa wl ws we t tt ep) [.ref pa, .int ways tw] (fun v o => ∃ r u ws' we' t' tt' ep', v = .int r u ∧ 0 ≤ r ∧ r < ways ∧ o = poolL pa wl ws' we' t' tt' ep' ∧ PoolOk ws' t')
noncomputable def Pz (z : (Nat) × (Nat) × (List Value) × (Nat) × (Int) × (Tok) × (Nat) × (Int) × (Tok)) : Prop := St (z.1) (z.2.1) (z.2.2.1) (z.2.2.2.1) (z.2.2.2.2.1) (z.2.2.2.2.2.1) (z.2.2.2.2.2.2.1) (z.2.2.2.2.2.2.2.1) (z.2.2.2.2.2.2.2.2)
theorem ne : Nonempty ((Nat) × (Nat) × (List Value) × (Nat) × (Int) × (Tok) × (Nat) × (Int) × (Tok)) := ⟨(default, default, default, default, default, default, default, default, default)⟩
noncomputable def z : (Nat) × (Nat) × (List Value) × (Nat) × (Int) × (Tok) × (Nat) × (Int) × (Tok) := ec ne Pz
@[irreducible] noncomputable def pa : Nat := z.1
@[irreducible] noncomputable def wl : Nat := z.2.1
@[irreducible] noncomputable def ws : List Value := z.2.2.1
@[irreducible] noncomputable def we : Nat := z.2.2.2.1
@[irreducible] noncomputable def t : Int := z.2.2.2.2.1
@[irreducible] noncomputable def tt : Tok := z.2.2.2.2.2.1
@[irreducible] noncomputable def ep : Nat := z.2.2.2.2.2.2.1
@[irreducible] noncomputable def ways : Int := z.2.2.2.2.2.2.2.1
@[irreducible] noncomputable def tw : Tok := z.2.2.2.2.2.2.2.2
@[irreducible] noncomputable def cx : Ctx := fctx 357 2 100 (poolL pa wl ws we t tt ep) [.ref pa, .int ways tw] (fun v o => ∃ r u ws' we' t' tt' ep', v = .int r u ∧ 0 ≤ r ∧ r < ways ∧ o = poolL pa wl ws' we' t' tt' ep' ∧ PoolOk ws' t')
theorem main : St pa wl ws we t tt ep ways tw := by
  intro hne hok h0 h1
  obtain ⟨ns, hns, hn0, hl, ht0, ht1⟩ := hok
  by_cases hz : ws.length = 0
  · have hws : ws = [] := List.length_eq_zero_iff.mp hz
    have hns' : IntsAre [] ns := hws ▸ hns
    have hl' : ([] : List Value).length ≤ 1000 := by decide
    refine' sp_at cx (by with_unfolding_all rfl) [(Str.ofString "pool", .ref pa), (Str.ofString "ways", .int ways tw)] ?k6 ?k7 ?k9 ?kB ?c2 ?c3 ?c4 ?c5 ?_
    (((case k6 => intro P; k_is); (case k7 => intro P; k_is); (case kB => exact rfl); (case c2 => exact rfl); (case c3 => exact rfl); (case c4 => exact rfl); (case c5 => decide)); (case k9 => exact rfl); unfold BdC; intros; (try dsimp only); (try k_fold))
    walk_at "steps"
    refine Hold.out ?_
    (rename News _ _ _ _ => N5)
    rw [hws] at N5
    refine kqd_ne N5 (.tail _ (.tail _ (.head _))) rfl rfl .nil (fun _ h => h) (.head _) rfl rfl .nil (fun _ h => h) (fun _ h => nomatch h) (fun _ h => nomatch h) (by dsimp only [ktrTop, Around.deeper]; omega) ?_
    rw [show (!decide (([] : List Dat) = [])) = false from rfl]
    (try dsimp only); (try k_fold)
    walk_at "steps"
    · (rename News _ _ _ _ => N6)
      refine' Ret.pick (by assumption) N6 ?hp ⟨_, _, _, _, _, _, _, rfl, Int.fmod_nonneg_of_pos _ h0, Int.fmod_lt_of_pos _ h0, rfl, ns, hns', hn0, hl', ?h2, ?h3⟩
      (case hp => walk_at "pick")
      · have := Int.fmod_nonneg_of_pos (t * 29 + 7) (show (0 : Int) < 997 by decide)
        split <;> omega
      · have := Int.fmod_lt_of_pos (t * 29 + 7) (show (0 : Int) < 997 by decide)
        split <;> omega
    · (rename News _ _ _ _ => N6)
      refine' Ret.pick (by assumption) N6 ?hp ⟨_, _, _, _, _, _, _, rfl, Int.fmod_nonneg_of_pos _ h0, Int.fmod_lt_of_pos _ h0, rfl, ns, hns', hn0, hl', ht0, ht1⟩
      (case hp => walk_at "pick")
  · have hz' : 0 < ws.length := by omega
    have hsz : ws.toArray.size ≤ sizeLine := by rw [List.size_toArray, sizeLine_eq]; omega
    refine' sp_at cx (by with_unfolding_all rfl) [(Str.ofString "pool", .ref pa), (Str.ofString "ways", .int ways tw)] ?k6 ?k7 ?k9 ?kB ?c2 ?c3 ?c4 ?c5 ?_
    (((case k6 => intro P; k_is); (case k7 => intro P; k_is); (case kB => exact rfl); (case c2 => exact rfl); (case c3 => exact rfl); (case c4 => exact rfl); (case c5 => decide)); (case k9 => exact rfl); unfold BdC; intros; (try dsimp only); (try k_fold))
    walk_at "steps"
    refine Hold.out ?_
    (rename News _ _ _ _ => N5)
    refine kqd_ne N5 (.tail _ (.tail _ (.head _))) rfl rfl (datAll_ints hns) (fun _ h => h) (.head _) rfl rfl .nil (fun _ h => h) (fun d h => ?_) (fun _ h => nomatch h) (by dsimp only [ktrTop, Around.deeper]; omega) ?_
    · obtain ⟨i, _, rfl⟩ := List.mem_map.mp h
      rfl
    rw [show (!decide (ns.map Dat.int = [])) = true from by
      rw [decide_eq_false]; rfl
      intro h
      have := hns.length
      rw [List.map_eq_nil_iff.mp h] at this
      exact hz this]
    (try dsimp only); (try k_fold)
    walk_at "steps"
    (rename News _ _ _ _ => N6)
    (rename IntsAre _ _ => I6)
    refine' Ret.pick (by assumption) N6 ?hp ⟨_, _, _, _, _, _, _, rfl, Int.fmod_nonneg_of_pos _ h0, Int.fmod_lt_of_pos _ h0, rfl, _, I6, fun n hn => hn0 n (List.dropLast_subset _ hn), ?hl, ht0, ht1⟩
    (case hp => walk_at "pick")
    rw [List.length_dropLast]; omega
end pick_sp_at
theorem pick_sp (pa wl : Nat) (ws : List Value) (we : Nat) (t : Int) (tt : Tok) (ep : Nat) (hne : @Ne Nat pa wl) (hok : PoolOk ws t) (ways : Int) (tw : Tok) (h0 : 0 < ways) (h1 : ways ≤ 1000) : Sp 357 2 100 (poolL pa wl ws we t tt ep) [.ref pa, .int ways tw] (fun v o => ∃ r u ws' we' t' tt' ep', v = .int r u ∧ 0 ≤ r ∧ r < ways ∧ o = poolL pa wl ws' we' t' tt' ep' ∧ PoolOk ws' t') := by
  have h9 : pick_sp_at.Pz (ec pick_sp_at.ne pick_sp_at.Pz) := by with_unfolding_all exact pick_sp_at.main
  exact eps pick_sp_at.ne h9 (pa, wl, ws, we, t, tt, ep, ways, tw) hne hok h0 h1
/-- a number drawn -/
theorem callPick {own rest Nl : List (Addr × Obj)} {vs : List Value} {pa wl : Nat} {ways : Int} {d u : Nat} {w : World} {mean : ExcName → Option Value} {mg mb : Str → Option Value} {dp un : Nat} {gd : Option (List Code)} {cn : Str} {cs : Scope} {a : Addr} {ccd : Value} {cl : List (Str × Addr)} {outer : List Env} {A₀ : Around} {base h₀ : Heap} {L : Addr} {m : Str → Option Value} {s : Shared} {Q E : Value → Shared → Prop}
    (C : Sp 357 d u own vs (fun v o => ∃ r u ws' we' t' tt' ep', v = .int r u ∧ 0 ≤ r ∧ r < ways ∧ o = poolL pa wl ws' we' t' tt' ep' ∧ PoolOk ws' t'))
    (B : Below A₀ base outer h₀) (F : Fr h₀ L s.heap m) (X : (hd.heap_1 w.params).In h₀) (N : News h₀ L s.heap Nl) (hp : Pick own rest Nl) (hap : Apart own rest) (T : Top q0 (looseW q0 []) mean mg mb h₀)
    (hk : cs.kind = .function) (hd' : dp + d < recursionLimit) (hu : un + u < cLine)
    (ret : ∀ r, 0 ≤ r → r < ways → ∀ u ws' we' t' tt' ep' h' tk', Fr h₀ L h' m → News h₀ L h' (poolL pa wl ws' we' t' tt' ep' ++ rest) → PoolOk ws' t' → Q (.int r u) { s with heap := h', toks := tk' }) :
      wpAny (model Challenge.rw_pb0353_01.row.prog w) (ktrTop dp un gd cn cs L a ccd cl outer) (PySem.call (.ref 357) vs) Q E s :=
  Sp.call C B F X N hp hap T hk hd' hu fun v o h' tk' F' N' _ R => by
    obtain ⟨r, u, ws', we', t', tt', ep', rfl, r0, r1, rfl, p⟩ := R
    exact ret r r0 r1 u ws' we' t' tt' ep' h' tk' F' N' p
theorem cases2 {P : Int → Prop} (h0 : P 0) (h1 : P 1) (r : Int) (r0 : 0 ≤ r) (r1 : r < 2) : P r := by
  have e : (r.toNat : Int) = r := Int.toNat_of_nonneg r0
  have l : r.toNat < 2 := by omega
  rw [← e]
  match r.toNat, l with
  | 0, _ => exact h0
  | 1, _ => exact h1
theorem cases5 {P : Int → Prop} (h0 : P 0) (h1 : P 1) (h2 : P 2) (h3 : P 3) (h4 : P 4) (r : Int) (r0 : 0 ≤ r) (r1 : r < 5) : P r := by
  have e : (r.toNat : Int) = r := Int.toNat_of_nonneg r0
  have l : r.toNat < 5 := by omega
  rw [← e]
  match r.toNat, l with
  | 0, _ => exact h0
  | 1, _ => exact h1
  | 2, _ => exact h2
  | 3, _ => exact h3
  | 4, _ => exact h4
theorem cases6 {P : Int → Prop} (h0 : P 0) (h1 : P 1) (h2 : P 2) (h3 : P 3) (h4 : P 4) (h5 : P 5) (r : Int) (r0 : 0 ≤ r) (r1 : r < 6) : P r := by
  have e : (r.toNat : Int) = r := Int.toNat_of_nonneg r0
  have l : r.toNat < 6 := by omega
  rw [← e]
  match r.toNat, l with
  | 0, _ => exact h0
  | 1, _ => exact h1
  | 2, _ => exact h2
  | 3, _ => exact h3
  | 4, _ => exact h4
  | 5, _ => exact h5
theorem cases7 {P : Int → Prop} (h0 : P 0) (h1 : P 1) (h2 : P 2) (h3 : P 3) (h4 : P 4) (h5 : P 5) (h6 : P 6) (r : Int) (r0 : 0 ≤ r) (r1 : r < 7) : P r := by
  have e : (r.toNat : Int) = r := Int.toNat_of_nonneg r0
  have l : r.toNat < 7 := by omega
  rw [← e]
  match r.toNat, l with
  | 0, _ => exact h0
  | 1, _ => exact h1
  | 2, _ => exact h2
  | 3, _ => exact h3
  | 4, _ => exact h4
  | 5, _ => exact h5
  | 6, _ => exact h6
theorem rst_M13 : Hold True := by (w_top off); first | walk1 | exact True.intro
theorem warm_M13 : ∀ P, (Challenge.rw_pb0353_01, hd.heap_1 P) = (Challenge.rw_pb0353_01, hd.heap_1 P) := by k_fill; intro P; rfl
noncomputable def PoolR (pa wl : Nat) (o : List (Addr × Obj)) : Prop := ∃ ws we t tt ep, o = poolL pa wl ws we t tt ep ∧ PoolOk ws t
/-- the tails, and the token of each -/
noncomputable def tails : List (Str × Str) := [(Str.ofString "", Str.ofString ""), (Str.ofString "$", Str.ofString ""), (Str.ofString "\"ab", Str.ofString "string"), (Str.ofString "(* x", Str.ofString ""), (Str.ofString "(*(**)", Str.ofString ""), (Str.ofString "\"", Str.ofString "string"), (Str.ofString "_", Str.ofString "")]
local macro_rules | `(tactic| walk_at "mm") => `(tactic| first | (with_reducible exact List.mem_cons_self) | (with_reducible refine List.mem_cons_of_mem _ ?_; walk_at "mm"))
namespace gap_sp_at
noncomputable def St (pa : Nat) (wl : Nat) (ws : List Value) (we : Nat) (t : Int) (tt : Tok) (ep : Nat) : Prop := ∀ (hne : @Ne Nat pa wl) (hok : PoolOk ws t), Sp 371 4 140 (poolL pa wl ws we t tt ep) [.ref pa] (fun v o => PoolR pa wl o ∧ ∃ x t, v = .str x t ∧ x ∈ [Str.ofString " ", Str.ofString "\n", Str.ofString "\t \r\n", ⟨#[12]⟩, Str.ofString "  "])
noncomputable def Pz (z : (Nat) × (Nat) × (List Value) × (Nat) × (Int) × (Tok) × (Nat)) : Prop := St (z.1) (z.2.1) (z.2.2.1) (z.2.2.2.1) (z.2.2.2.2.1) (z.2.2.2.2.2.1) (z.2.2.2.2.2.2)
theorem ne : Nonempty ((Nat) × (Nat) × (List Value) × (Nat) × (Int) × (Tok) × (Nat)) := ⟨(default, default, default, default, default, default, default)⟩
noncomputable def z : (Nat) × (Nat) × (List Value) × (Nat) × (Int) × (Tok) × (Nat) := ec ne Pz
@[irreducible] noncomputable def pa : Nat := z.1
@[irreducible] noncomputable def wl : Nat := z.2.1
@[irreducible] noncomputable def ws : List Value := z.2.2.1
@[irreducible] noncomputable def we : Nat := z.2.2.2.1
@[irreducible] noncomputable def t : Int := z.2.2.2.2.1
@[irreducible] noncomputable def tt : Tok := z.2.2.2.2.2.1
@[irreducible] noncomputable def ep : Nat := z.2.2.2.2.2.2
@[irreducible] noncomputable def cx : Ctx := fctx 371 4 140 (poolL pa wl ws we t tt ep) [.ref pa] (fun v o => PoolR pa wl o ∧ ∃ x t, v = .str x t ∧ x ∈ [Str.ofString " ", Str.ofString "\n", Str.ofString "\t \r\n", ⟨#[12]⟩, Str.ofString "  "])
theorem main : St pa wl ws we t tt ep := by
  intro hne hok
  refine' sp_at cx (by with_unfolding_all rfl) [(Str.ofString "pool", .ref pa)] ?k6 ?k7 ?k9 ?kB ?c2 ?c3 ?c4 ?c5 ?_
  (((case k6 => intro P; k_is); (case k7 => intro P; k_is); (case kB => exact rfl); (case c2 => exact rfl); (case c3 => exact rfl); (case c4 => exact rfl); (case c5 => decide)); (case k9 => exact rfl); unfold BdC; intros; (try dsimp only); (try k_fold))
  walk_at "steps"
  (refine Hold.out ?_; refine' callPick (pick_sp _ _ _ _ _ _ _ ?kn ?ko _ _ ?ka0 ?ka1) ?k1 ?k2 ?k3 ?k4 ?kp ?ka ?k5 ?kK ?kd ?ku ?_; walk_at "useP"; (case kn => assumption); (case ko => assumption); (case ka0 => decide); (case ka1 => decide))
  refine cases5 ?_ ?_ ?_ ?_ ?_
  all_goals intro u ws' we' t' tt' ep' h9 tk9 F9 N9 P9
  all_goals (dsimp only [List.cons_append, List.nil_append] at N9; (try k_sweep); (try dsimp only); (try k_fold))
  all_goals walk_at "steps"
  all_goals ((rename News _ _ _ _ => N6); (refine Ret.pick (own' := poolL pa wl ws' we' t' tt' ep') (by assumption) N6 (by walk_at "pick") ⟨⟨ws', we', t', tt', ep', rfl, P9⟩, _, _, rfl, ?_⟩))
  · exact .head _
  · exact .tail _ (.head _)
  · exact .tail _ (.tail _ (.head _))
  · exact .tail _ (.tail _ (.tail _ (.head _)))
  · exact .tail _ (.tail _ (.tail _ (.tail _ (.head _))))
end gap_sp_at
theorem gap_sp (pa wl : Nat) (ws : List Value) (we : Nat) (t : Int) (tt : Tok) (ep : Nat) (hne : @Ne Nat pa wl) (hok : PoolOk ws t) : Sp 371 4 140 (poolL pa wl ws we t tt ep) [.ref pa] (fun v o => PoolR pa wl o ∧ ∃ x t, v = .str x t ∧ x ∈ [Str.ofString " ", Str.ofString "\n", Str.ofString "\t \r\n", ⟨#[12]⟩, Str.ofString "  "]) := by
  have h9 : gap_sp_at.Pz (ec gap_sp_at.ne gap_sp_at.Pz) := by with_unfolding_all exact gap_sp_at.main
  exact eps gap_sp_at.ne h9 (pa, wl, ws, we, t, tt, ep) hne hok
namespace rmk_sp_at
noncomputable def St (pa : Nat) (wl : Nat) (ws : List Value) (we : Nat) (t : Int) (tt : Tok) (ep : Nat) : Prop := ∀ (hne : @Ne Nat pa wl) (hok : PoolOk ws t), Sp 378 4 140 (poolL pa wl ws we t tt ep) [.ref pa] (fun v o => PoolR pa wl o ∧ ∃ x t, v = .str x t ∧ x ∈ [Str.ofString "(**)", Str.ofString "(* a *)", Str.ofString "(* (* x *) \n*)", Str.ofString "(*\"*)", Str.ofString "(***)"])
noncomputable def Pz (z : (Nat) × (Nat) × (List Value) × (Nat) × (Int) × (Tok) × (Nat)) : Prop := St (z.1) (z.2.1) (z.2.2.1) (z.2.2.2.1) (z.2.2.2.2.1) (z.2.2.2.2.2.1) (z.2.2.2.2.2.2)
theorem ne : Nonempty ((Nat) × (Nat) × (List Value) × (Nat) × (Int) × (Tok) × (Nat)) := ⟨(default, default, default, default, default, default, default)⟩
noncomputable def z : (Nat) × (Nat) × (List Value) × (Nat) × (Int) × (Tok) × (Nat) := ec ne Pz
@[irreducible] noncomputable def pa : Nat := z.1
@[irreducible] noncomputable def wl : Nat := z.2.1
@[irreducible] noncomputable def ws : List Value := z.2.2.1
@[irreducible] noncomputable def we : Nat := z.2.2.2.1
@[irreducible] noncomputable def t : Int := z.2.2.2.2.1
@[irreducible] noncomputable def tt : Tok := z.2.2.2.2.2.1
@[irreducible] noncomputable def ep : Nat := z.2.2.2.2.2.2
@[irreducible] noncomputable def cx : Ctx := fctx 378 4 140 (poolL pa wl ws we t tt ep) [.ref pa] (fun v o => PoolR pa wl o ∧ ∃ x t, v = .str x t ∧ x ∈ [Str.ofString "(**)", Str.ofString "(* a *)", Str.ofString "(* (* x *) \n*)", Str.ofString "(*\"*)", Str.ofString "(***)"])
theorem main : St pa wl ws we t tt ep := by
  intro hne hok
  refine' sp_at cx (by with_unfolding_all rfl) [(Str.ofString "pool", .ref pa)] ?k6 ?k7 ?k9 ?kB ?c2 ?c3 ?c4 ?c5 ?_
  (((case k6 => intro P; k_is); (case k7 => intro P; k_is); (case kB => exact rfl); (case c2 => exact rfl); (case c3 => exact rfl); (case c4 => exact rfl); (case c5 => decide)); (case k9 => exact rfl); unfold BdC; intros; (try dsimp only); (try k_fold))
  walk_at "steps"
  (refine Hold.out ?_; refine' callPick (pick_sp _ _ _ _ _ _ _ ?kn ?ko _ _ ?ka0 ?ka1) ?k1 ?k2 ?k3 ?k4 ?kp ?ka ?k5 ?kK ?kd ?ku ?_; walk_at "useP"; (case kn => assumption); (case ko => assumption); (case ka0 => decide); (case ka1 => decide))
  refine cases5 ?_ ?_ ?_ ?_ ?_
  all_goals intro u ws' we' t' tt' ep' h9 tk9 F9 N9 P9
  all_goals (dsimp only [List.cons_append, List.nil_append] at N9; (try k_sweep); (try dsimp only); (try k_fold))
  all_goals walk_at "steps"
  all_goals ((rename News _ _ _ _ => N6); (refine Ret.pick (own' := poolL pa wl ws' we' t' tt' ep') (by assumption) N6 (by walk_at "pick") ⟨⟨ws', we', t', tt', ep', rfl, P9⟩, _, _, rfl, ?_⟩))
  · exact .head _
  · exact .tail _ (.head _)
  · exact .tail _ (.tail _ (.head _))
  · exact .tail _ (.tail _ (.tail _ (.head _)))
  · exact .tail _ (.tail _ (.tail _ (.tail _ (.head _))))
end rmk_sp_at
theorem rmk_sp (pa wl : Nat) (ws : List Value) (we : Nat) (t : Int) (tt : Tok) (ep : Nat) (hne : @Ne Nat pa wl) (hok : PoolOk ws t) : Sp 378 4 140 (poolL pa wl ws we t tt ep) [.ref pa] (fun v o => PoolR pa wl o ∧ ∃ x t, v = .str x t ∧ x ∈ [Str.ofString "(**)", Str.ofString "(* a *)", Str.ofString "(* (* x *) \n*)", Str.ofString "(*\"*)", Str.ofString "(***)"]) := by
  have h9 : rmk_sp_at.Pz (ec rmk_sp_at.ne rmk_sp_at.Pz) := by with_unfolding_all exact rmk_sp_at.main
  exact eps rmk_sp_at.ne h9 (pa, wl, ws, we, t, tt, ep) hne hok
namespace tail_sp_at
noncomputable def St (pa : Nat) (wl : Nat) (ws : List Value) (we : Nat) (t : Int) (tt : Tok) (ep : Nat) : Prop := ∀ (hne : @Ne Nat pa wl) (hok : PoolOk ws t), Sp 385 4 140 (poolL pa wl ws we t tt ep) [.ref pa] (fun v o => ∃ a x tx y ty oi, v = .ref a ∧ o = (a, tupObj [.str x tx, .str y ty]) :: oi ∧ PoolR pa wl oi ∧ (x, y) ∈ tails)
noncomputable def Pz (z : (Nat) × (Nat) × (List Value) × (Nat) × (Int) × (Tok) × (Nat)) : Prop := St (z.1) (z.2.1) (z.2.2.1) (z.2.2.2.1) (z.2.2.2.2.1) (z.2.2.2.2.2.1) (z.2.2.2.2.2.2)
theorem ne : Nonempty ((Nat) × (Nat) × (List Value) × (Nat) × (Int) × (Tok) × (Nat)) := ⟨(default, default, default, default, default, default, default)⟩
noncomputable def z : (Nat) × (Nat) × (List Value) × (Nat) × (Int) × (Tok) × (Nat) := ec ne Pz
@[irreducible] noncomputable def pa : Nat := z.1
@[irreducible] noncomputable def wl : Nat := z.2.1
@[irreducible] noncomputable def ws : List Value := z.2.2.1
@[irreducible] noncomputable def we : Nat := z.2.2.2.1
@[irreducible] noncomputable def t : Int := z.2.2.2.2.1
@[irreducible] noncomputable def tt : Tok := z.2.2.2.2.2.1
@[irreducible] noncomputable def ep : Nat := z.2.2.2.2.2.2
@[irreducible] noncomputable def cx : Ctx := fctx 385 4 140 (poolL pa wl ws we t tt ep) [.ref pa] (fun v o => ∃ a x tx y ty oi, v = .ref a ∧ o = (a, tupObj [.str x tx, .str y ty]) :: oi ∧ PoolR pa wl oi ∧ (x, y) ∈ tails)
theorem main : St pa wl ws we t tt ep := by
  intro hne hok
  refine' sp_at cx (by with_unfolding_all rfl) [(Str.ofString "pool", .ref pa)] ?k6 ?k7 ?k9 ?kB ?c2 ?c3 ?c4 ?c5 ?_
  (((case k6 => intro P; k_is); (case k7 => intro P; k_is); (case kB => exact rfl); (case c2 => exact rfl); (case c3 => exact rfl); (case c4 => exact rfl); (case c5 => decide)); (case k9 => exact rfl); unfold BdC; intros; (try dsimp only); (try k_fold))
  walk_at "steps"
  (refine Hold.out ?_; refine' callPick (pick_sp _ _ _ _ _ _ _ ?kn ?ko _ _ ?ka0 ?ka1) ?k1 ?k2 ?k3 ?k4 ?kp ?ka ?k5 ?kK ?kd ?ku ?_; walk_at "useP"; (case kn => assumption); (case ko => assumption); (case ka0 => decide); (case ka1 => decide))
  refine cases2 ?_ ?_
  all_goals intro u ws' we' t' tt' ep' h9 tk9 F9 N9 P9
  all_goals (dsimp only [List.cons_append, List.nil_append] at N9; (try k_sweep); (try dsimp only); (try k_fold))
  all_goals (walk_at "steps"; (refine Hold.out ?_; refine' callPick (pick_sp _ _ _ _ _ _ _ ?kn ?ko _ _ ?ka0 ?ka1) ?k1 ?k2 ?k3 ?k4 ?kp ?ka ?k5 ?kK ?kd ?ku ?_; walk_at "useP"; (case kn => assumption); (case ko => assumption); (case ka0 => decide); (case ka1 => decide)))
  all_goals refine cases7 ?_ ?_ ?_ ?_ ?_ ?_ ?_
  all_goals intro u' ws2 we2 t2 tt2 ep2 h8 tk8 F8 N8 P8
  all_goals (dsimp only [List.cons_append, List.nil_append] at N8; (try k_sweep); (try dsimp only); (try k_fold))
  all_goals walk_at "steps"
  all_goals ((rename News _ _ _ _ => N6); refine' Ret.pick (by assumption) N6 ?hp ⟨_, _, _, _, _, _, rfl, rfl, ⟨_, _, _, _, _, rfl, by assumption⟩, ?hm⟩; (case hp => walk_at "pick"); (case hm => (unfold tails; walk_at "mm")))
end tail_sp_at
theorem tail_sp (pa wl : Nat) (ws : List Value) (we : Nat) (t : Int) (tt : Tok) (ep : Nat) (hne : @Ne Nat pa wl) (hok : PoolOk ws t) : Sp 385 4 140 (poolL pa wl ws we t tt ep) [.ref pa] (fun v o => ∃ a x tx y ty oi, v = .ref a ∧ o = (a, tupObj [.str x tx, .str y ty]) :: oi ∧ PoolR pa wl oi ∧ (x, y) ∈ tails) := by
  have h9 : tail_sp_at.Pz (ec tail_sp_at.ne tail_sp_at.Pz) := by with_unfolding_all exact tail_sp_at.main
  exact eps tail_sp_at.ne h9 (pa, wl, ws, we, t, tt, ep) hne hok
theorem gap_E (pa wl : Nat) (ws : List Value) (we : Nat) (t : Int) (tt : Tok) (ep : Nat) (hne : @Ne Nat pa wl) (hok : PoolOk ws t) : Sp 371 4 140 (poolL pa wl ws we t tt ep) [.ref pa] (fun v o => ∃ x u ws we t tt ep, v = .str x u ∧ o = poolL pa wl ws we t tt ep ∧ (PoolOk ws t ∧ x ∈ [Str.ofString " ", Str.ofString "\n", Str.ofString "\t \r\n", ⟨#[12]⟩, Str.ofString "  "])) :=
  (gap_sp pa wl ws we t tt ep hne hok).mono fun _ _ => by
    rintro ⟨⟨a, b, c, d, e, h, p⟩, x, u, k, q⟩
    exact ⟨x, u, a, b, c, d, e, k, h, p, q⟩
theorem rmk_E (pa wl : Nat) (ws : List Value) (we : Nat) (t : Int) (tt : Tok) (ep : Nat) (hne : @Ne Nat pa wl) (hok : PoolOk ws t) : Sp 378 4 140 (poolL pa wl ws we t tt ep) [.ref pa] (fun v o => ∃ x u ws we t tt ep, v = .str x u ∧ o = poolL pa wl ws we t tt ep ∧ (PoolOk ws t ∧ x ∈ [Str.ofString "(**)", Str.ofString "(* a *)", Str.ofString "(* (* x *) \n*)", Str.ofString "(*\"*)", Str.ofString "(***)"])) :=
  (rmk_sp pa wl ws we t tt ep hne hok).mono fun _ _ => by
    rintro ⟨⟨a, b, c, d, e, h, p⟩, x, u, k, q⟩
    exact ⟨x, u, a, b, c, d, e, k, h, p, q⟩
theorem tail_E (pa wl : Nat) (ws : List Value) (we : Nat) (t : Int) (tt : Tok) (ep : Nat) (hne : @Ne Nat pa wl) (hok : PoolOk ws t) : Sp 385 4 140 (poolL pa wl ws we t tt ep) [.ref pa] (fun v o => ∃ a x tx y ty ws we t tt ep, v = .ref a ∧ o = (a, tupObj [.str x tx, .str y ty]) :: poolL pa wl ws we t tt ep ∧ (PoolOk ws t ∧ (x, y) ∈ tails)) :=
  (tail_sp pa wl ws we t tt ep hne hok).mono fun _ _ => by
    rintro ⟨a, x, tx, y, ty, _, e1, e2, ⟨b, c, d, e, f, rfl, p⟩, q⟩
    exact ⟨a, x, tx, y, ty, b, c, d, e, f, e1, e2, p, q⟩
theorem rst_M14 : Hold True := by (w_top off); first | walk1 | exact True.intro
theorem warm_M14 : ∀ P, (Challenge.rw_pb0353_01, hd.heap_1 P) = (Challenge.rw_pb0353_01, hd.heap_1 P) := by k_fill; intro P; rfl
noncomputable def words5 : List Str := [Str.ofString "IF", Str.ofString "END", Str.ofString "MODULE", Str.ofString "NIL", Str.ofString "OR"]
noncomputable def names6 : List Str := [Str.ofString "a", Str.ofString "If", Str.ofString "x2y", Str.ofString "TRUE", Str.ofString "E", Str.ofString "H1"]
noncomputable def nums7 : List (Str × Str) := [(Str.ofString "5", Str.ofString "int"), (Str.ofString "0FFH", Str.ofString "int"), (Str.ofString "41X", Str.ofString "string"), (Str.ofString "2.5E-3", Str.ofString "int"), (Str.ofString "7.", Str.ofString "int"), (Str.ofString "12", Str.ofString "int"), (Str.ofString "0AX", Str.ofString "string")]
noncomputable def texts5 : List Str := [Str.ofString "\"\"", Str.ofString "\"a b\"", Str.ofString "\"(*\"", Str.ofString "\"'\"", Str.ofString "\"*)\""]
noncomputable def signs26 : List Str := [Str.ofString ":=", Str.ofString "<=", Str.ofString ">=", Str.ofString "..", Str.ofString "+", Str.ofString "-", Str.ofString "*", Str.ofString "/", Str.ofString "~", Str.ofString "&", Str.ofString ".", Str.ofString ",", Str.ofString ";", Str.ofString "|", Str.ofString "(", Str.ofString "[", Str.ofString "{", Str.ofString "^", Str.ofString "=", Str.ofString "#", Str.ofString "<", Str.ofString ">", Str.ofString ":", Str.ofString ")", Str.ofString "]", Str.ofString "}"]
/-- the pieces: kind, text, token -/
noncomputable def pieces : List (Str × Str × Str) := words5.map (fun x => (Str.ofString "word", x, x)) ++ (names6.map (fun x => (Str.ofString "name", x, Str.ofString "ident")) ++ (nums7.map (fun x => (Str.ofString "number", x.1, x.2)) ++ (texts5.map (fun x => (Str.ofString "text", x, Str.ofString "string")) ++ signs26.map (fun x => (Str.ofString "sign", x, x)))))
theorem ite_go {b : Bool} {A B : Prop} (hb : b = true) (h : A) : if b = true then A else B := by rw [if_pos hb]; exact h
theorem pc_0 {x : Str} (h : x ∈ words5) : (Str.ofString "word", x, x) ∈ pieces := List.mem_append_left _ (List.mem_map.mpr ⟨x, h, rfl⟩)
theorem pc_1 {x : Str} (h : x ∈ names6) : (Str.ofString "name", x, Str.ofString "ident") ∈ pieces := List.mem_append_right _ (List.mem_append_left _ (List.mem_map.mpr ⟨x, h, rfl⟩))
theorem pc_2 {x y : Str} (h : (x, y) ∈ nums7) : (Str.ofString "number", x, y) ∈ pieces := List.mem_append_right _ (List.mem_append_right _ (List.mem_append_left _ (List.mem_map.mpr ⟨(x, y), h, rfl⟩)))
theorem pc_3 {x : Str} (h : x ∈ texts5) : (Str.ofString "text", x, Str.ofString "string") ∈ pieces := List.mem_append_right _ (List.mem_append_right _ (List.mem_append_right _ (List.mem_append_left _ (List.mem_map.mpr ⟨x, h, rfl⟩))))
theorem pc_4 {x : Str} (h : x ∈ signs26) : (Str.ofString "sign", x, x) ∈ pieces := List.mem_append_right _ (List.mem_append_right _ (List.mem_append_right _ (List.mem_append_right _ (List.mem_map.mpr ⟨x, h, rfl⟩))))
theorem split26 : Txt.split (Str.ofString ":= <= >= .. + - * / ~ & . , ; | ( [ { ^ = # < > : ) ] }") (Str.ofString " ") = signs26 := by decide +kernel
theorem getD_mem {l : List Str} {i : Nat} (h : i < l.length) : l.getD i PySem.Str.empty ∈ l := by
  rw [List.getD_eq_getElem?_getD, List.getElem?_eq_getElem h]
  exact List.getElem_mem h
theorem ite_no {b : Bool} {A B : Prop} (hb : b = false) (h : B) : if b = true then A else B := by rw [hb, if_neg Bool.false_ne_true]; exact h
section
local macro_rules | `(tactic| walk_at "subscriptTail Name Call ref int") => `(tactic| refine Hold.out ?_)
local macro_rules | `(tactic| walk_at "ite") => `(tactic| first | (refine' ite_no ?hb ?_; (case hb => decide)) | (refine' ite_go ?hb ?_; (case hb => decide)))
namespace piece_sp_at
noncomputable def St (pa : Nat) (wl : Nat) (ws : List Value) (we : Nat) (t : Int) (tt : Tok) (ep : Nat) : Prop := ∀ (hne : @Ne Nat pa wl) (hok : PoolOk ws t), Sp 364 4 140 (poolL pa wl ws we t tt ep) [.ref pa] (fun v o => ∃ a k tk x tx y ty oi, v = .ref a ∧ o = (a, tupObj [.str k tk, .str x tx, .str y ty]) :: oi ∧ PoolR pa wl oi ∧ (k, x, y) ∈ pieces)
noncomputable def Pz (z : (Nat) × (Nat) × (List Value) × (Nat) × (Int) × (Tok) × (Nat)) : Prop := St (z.1) (z.2.1) (z.2.2.1) (z.2.2.2.1) (z.2.2.2.2.1) (z.2.2.2.2.2.1) (z.2.2.2.2.2.2)
theorem ne : Nonempty ((Nat) × (Nat) × (List Value) × (Nat) × (Int) × (Tok) × (Nat)) := ⟨(default, default, default, default, default, default, default)⟩
noncomputable def z : (Nat) × (Nat) × (List Value) × (Nat) × (Int) × (Tok) × (Nat) := ec ne Pz
@[irreducible] noncomputable def pa : Nat := z.1
@[irreducible] noncomputable def wl : Nat := z.2.1
@[irreducible] noncomputable def ws : List Value := z.2.2.1
@[irreducible] noncomputable def we : Nat := z.2.2.2.1
@[irreducible] noncomputable def t : Int := z.2.2.2.2.1
@[irreducible] noncomputable def tt : Tok := z.2.2.2.2.2.1
@[irreducible] noncomputable def ep : Nat := z.2.2.2.2.2.2
@[irreducible] noncomputable def cx : Ctx := fctx 364 4 140 (poolL pa wl ws we t tt ep) [.ref pa] (fun v o => ∃ a k tk x tx y ty oi, v = .ref a ∧ o = (a, tupObj [.str k tk, .str x tx, .str y ty]) :: oi ∧ PoolR pa wl oi ∧ (k, x, y) ∈ pieces)
theorem main : St pa wl ws we t tt ep := by
  intro hne hok
  refine' sp_at cx (by with_unfolding_all rfl) [(Str.ofString "pool", .ref pa)] ?k6 ?k7 ?k9 ?kB ?c2 ?c3 ?c4 ?c5 ?_
  (((case k6 => intro P; k_is); (case k7 => intro P; k_is); (case kB => exact rfl); (case c2 => exact rfl); (case c3 => exact rfl); (case c4 => exact rfl); (case c5 => decide)); (case k9 => exact rfl); unfold BdC; intros; (try dsimp only); (try k_fold))
  walk_at "steps"
  (refine Hold.out ?_; refine' callPick (pick_sp _ _ _ _ _ _ _ ?kn ?ko _ _ ?ka0 ?ka1) ?k1 ?k2 ?k3 ?k4 ?kp ?ka ?k5 ?kK ?kd ?ku ?_; walk_at "useP"; (case kn => assumption); (case ko => assumption); (case ka0 => decide); (case ka1 => decide))
  refine cases6 ?_ ?_ ?_ ?_ ?_ ?_
  all_goals intro u ws' we' t' tt' ep' h9 tk9 F9 N9 P9
  all_goals (dsimp only [List.cons_append, List.nil_append] at N9; (try k_sweep); (try dsimp only); (try k_fold))
  · skip
    walk_at "steps"
    (refine Hold.out ?_; refine' callPick (pick_sp _ _ _ _ _ _ _ ?kn ?ko _ _ ?ka0 ?ka1) ?k1 ?k2 ?k3 ?k4 ?kp ?ka ?k5 ?kK ?kd ?ku ?_; walk_at "useP"; (case kn => assumption); (case ko => assumption); (case ka0 => decide); (case ka1 => decide))
    refine cases5 ?_ ?_ ?_ ?_ ?_
    all_goals intro u' ws2 we2 t2 tt2 ep2 h8 tk8 F8 N8 P8
    all_goals (dsimp only [List.cons_append, List.nil_append] at N8; (try k_sweep); (try dsimp only); (try k_fold))
    all_goals walk_at "steps"
    all_goals ((show Ret _ _ _ _ _); (rename News _ _ _ _ => N6); refine' Ret.pick (by assumption) N6 ?hp ⟨_, _, _, _, _, _, _, _, rfl, rfl, ⟨_, _, _, _, _, rfl, by assumption⟩, ?hm⟩; (case hp => walk_at "pick"); (case hm => (first | (with_reducible refine pc_0 ?_; unfold words5; walk_at "mm") | (with_reducible refine pc_1 ?_; unfold names6; walk_at "mm") | (with_reducible refine pc_2 ?_; unfold nums7; walk_at "mm") | (with_reducible refine pc_3 ?_; unfold texts5; walk_at "mm") | (with_reducible refine pc_4 ?_; unfold signs26; walk_at "mm"))))
  · skip
    walk_at "steps"
    (refine Hold.out ?_; refine' callPick (pick_sp _ _ _ _ _ _ _ ?kn ?ko _ _ ?ka0 ?ka1) ?k1 ?k2 ?k3 ?k4 ?kp ?ka ?k5 ?kK ?kd ?ku ?_; walk_at "useP"; (case kn => assumption); (case ko => assumption); (case ka0 => decide); (case ka1 => decide))
    refine cases6 ?_ ?_ ?_ ?_ ?_ ?_
    all_goals intro u' ws2 we2 t2 tt2 ep2 h8 tk8 F8 N8 P8
    all_goals (dsimp only [List.cons_append, List.nil_append] at N8; (try k_sweep); (try dsimp only); (try k_fold))
    all_goals walk_at "steps"
    all_goals ((show Ret _ _ _ _ _); (rename News _ _ _ _ => N6); refine' Ret.pick (by assumption) N6 ?hp ⟨_, _, _, _, _, _, _, _, rfl, rfl, ⟨_, _, _, _, _, rfl, by assumption⟩, ?hm⟩; (case hp => walk_at "pick"); (case hm => (first | (with_reducible refine pc_0 ?_; unfold words5; walk_at "mm") | (with_reducible refine pc_1 ?_; unfold names6; walk_at "mm") | (with_reducible refine pc_2 ?_; unfold nums7; walk_at "mm") | (with_reducible refine pc_3 ?_; unfold texts5; walk_at "mm") | (with_reducible refine pc_4 ?_; unfold signs26; walk_at "mm"))))
  · skip
    iterate 30 (first | (k_unfold; (try dsimp only)) | walk1 | (dsimp only; walk1) | (dsimp only; k_unfold; (try dsimp only)))
    refine' ite_go ?hb ?_
    (case hb => rfl)
    refine wpAny_execs_cons ?_
    refine Assign_Tuple ?_
    walk_at "steps"
    (refine Hold.out ?_; refine' callPick (pick_sp _ _ _ _ _ _ _ ?kn ?ko _ _ ?ka0 ?ka1) ?k1 ?k2 ?k3 ?k4 ?kp ?ka ?k5 ?kK ?kd ?ku ?_; walk_at "useP"; (case kn => assumption); (case ko => assumption); (case ka0 => decide); (case ka1 => decide))
    refine cases7 ?_ ?_ ?_ ?_ ?_ ?_ ?_
    all_goals intro u' ws2 we2 t2 tt2 ep2 h8 tk8 F8 N8 P8
    all_goals (dsimp only [List.cons_append, List.nil_append] at N8; (try k_sweep); (try dsimp only); (try k_fold))
    all_goals walk_at "steps"
    all_goals ((show Ret _ _ _ _ _); (rename News _ _ _ _ => N6); refine' Ret.pick (by assumption) N6 ?hp ⟨_, _, _, _, _, _, _, _, rfl, rfl, ⟨_, _, _, _, _, rfl, by assumption⟩, ?hm⟩; (case hp => walk_at "pick"); (case hm => (first | (with_reducible refine pc_0 ?_; unfold words5; walk_at "mm") | (with_reducible refine pc_1 ?_; unfold names6; walk_at "mm") | (with_reducible refine pc_2 ?_; unfold nums7; walk_at "mm") | (with_reducible refine pc_3 ?_; unfold texts5; walk_at "mm") | (with_reducible refine pc_4 ?_; unfold signs26; walk_at "mm"))))
  · skip
    walk_at "steps"
    (refine Hold.out ?_; refine' callPick (pick_sp _ _ _ _ _ _ _ ?kn ?ko _ _ ?ka0 ?ka1) ?k1 ?k2 ?k3 ?k4 ?kp ?ka ?k5 ?kK ?kd ?ku ?_; walk_at "useP"; (case kn => assumption); (case ko => assumption); (case ka0 => decide); (case ka1 => decide))
    refine cases5 ?_ ?_ ?_ ?_ ?_
    all_goals intro u' ws2 we2 t2 tt2 ep2 h8 tk8 F8 N8 P8
    all_goals (dsimp only [List.cons_append, List.nil_append] at N8; (try k_sweep); (try dsimp only); (try k_fold))
    all_goals walk_at "steps"
    all_goals ((show Ret _ _ _ _ _); (rename News _ _ _ _ => N6); refine' Ret.pick (by assumption) N6 ?hp ⟨_, _, _, _, _, _, _, _, rfl, rfl, ⟨_, _, _, _, _, rfl, by assumption⟩, ?hm⟩; (case hp => walk_at "pick"); (case hm => (first | (with_reducible refine pc_0 ?_; unfold words5; walk_at "mm") | (with_reducible refine pc_1 ?_; unfold names6; walk_at "mm") | (with_reducible refine pc_2 ?_; unfold nums7; walk_at "mm") | (with_reducible refine pc_3 ?_; unfold texts5; walk_at "mm") | (with_reducible refine pc_4 ?_; unfold signs26; walk_at "mm"))))
  · walk_at "steps"
    (refine Hold.out ?_; refine' callPick (pick_sp _ _ _ _ _ _ _ ?kn ?ko _ _ ?ka0 ?ka1) ?k1 ?k2 ?k3 ?k4 ?kp ?ka ?k5 ?kK ?kd ?ku ?_; walk_at "useP"; (case kn => assumption); (case ko => assumption); (case ka0 => decide); (case ka1 => decide))
    intro r' r2 r3 u' ws2 we2 t2 tt2 ep2 h8 tk8 F8 N8 P8
    dsimp only [List.cons_append, List.nil_append] at N8
    (try k_sweep); (try dsimp only); (try k_fold)
    walk_at "steps"
    (rename StrsAre (strValues _) _ => hs5)
    (rename List.map _ _ = Txt.split _ _ => e5)
    rw [e5, split26] at hs5
    refine Hold.out ?_
    refine KTb.item_list ((ListOb.of _ _).isList (N8 _ (.tail _ (.tail _ (.head _)))).1) hs5 r2 r3 (by omega) ?_
    intro t' hlt
    have hm5 := getD_mem hlt
    generalize signs26.getD r'.toNat PySem.Str.empty = x5 at hm5 ⊢
    (try dsimp only); (try k_fold)
    walk_at "steps"
    show Ret _ _ _ _ _
    (rename News _ _ _ _ => N6)
    refine' Ret.pick (by assumption) N6 ?hp ⟨_, _, _, _, _, _, _, _, rfl, rfl, ⟨_, _, _, _, _, rfl, P8⟩, pc_4 hm5⟩
    (case hp => walk_at "pick")
  · walk_at "steps"
    (refine Hold.out ?_; refine' callPick (pick_sp _ _ _ _ _ _ _ ?kn ?ko _ _ ?ka0 ?ka1) ?k1 ?k2 ?k3 ?k4 ?kp ?ka ?k5 ?kK ?kd ?ku ?_; walk_at "useP"; (case kn => assumption); (case ko => assumption); (case ka0 => decide); (case ka1 => decide))
    intro r' r2 r3 u' ws2 we2 t2 tt2 ep2 h8 tk8 F8 N8 P8
    dsimp only [List.cons_append, List.nil_append] at N8
    (try k_sweep); (try dsimp only); (try k_fold)
    walk_at "steps"
    (rename StrsAre (strValues _) _ => hs5)
    (rename List.map _ _ = Txt.split _ _ => e5)
    rw [e5, split26] at hs5
    refine Hold.out ?_
    refine KTb.item_list ((ListOb.of _ _).isList (N8 _ (.tail _ (.tail _ (.head _)))).1) hs5 r2 r3 (by omega) ?_
    intro t' hlt
    have hm5 := getD_mem hlt
    generalize signs26.getD r'.toNat PySem.Str.empty = x5 at hm5 ⊢
    (try dsimp only); (try k_fold)
    walk_at "steps"
    show Ret _ _ _ _ _
    (rename News _ _ _ _ => N6)
    refine' Ret.pick (by assumption) N6 ?hp ⟨_, _, _, _, _, _, _, _, rfl, rfl, ⟨_, _, _, _, _, rfl, P8⟩, pc_4 hm5⟩
    (case hp => walk_at "pick")
end piece_sp_at
theorem piece_sp (pa wl : Nat) (ws : List Value) (we : Nat) (t : Int) (tt : Tok) (ep : Nat) (hne : @Ne Nat pa wl) (hok : PoolOk ws t) : Sp 364 4 140 (poolL pa wl ws we t tt ep) [.ref pa] (fun v o => ∃ a k tk x tx y ty oi, v = .ref a ∧ o = (a, tupObj [.str k tk, .str x tx, .str y ty]) :: oi ∧ PoolR pa wl oi ∧ (k, x, y) ∈ pieces) := by
  have h9 : piece_sp_at.Pz (ec piece_sp_at.ne piece_sp_at.Pz) := by with_unfolding_all exact piece_sp_at.main
  exact eps piece_sp_at.ne h9 (pa, wl, ws, we, t, tt, ep) hne hok
end
theorem piece_E (pa wl : Nat) (ws : List Value) (we : Nat) (t : Int) (tt : Tok) (ep : Nat) (hne : @Ne Nat pa wl) (hok : PoolOk ws t) : Sp 364 4 140 (poolL pa wl ws we t tt ep) [.ref pa] (fun v o => ∃ a k tk x tx y ty ws we t tt ep, v = .ref a ∧ o = (a, tupObj [.str k tk, .str x tx, .str y ty]) :: poolL pa wl ws we t tt ep ∧ (PoolOk ws t ∧ (k, x, y) ∈ pieces)) :=
  (piece_sp pa wl ws we t tt ep hne hok).mono fun _ _ => by
    rintro ⟨a, k, tk, x, tx, y, ty, _, e1, e2, ⟨b, c, d, e, f, rfl, p⟩, q⟩
    exact ⟨a, k, tk, x, tx, y, ty, b, c, d, e, f, e1, e2, p, q⟩
theorem rst_M15 : Hold True := by (w_top off); first | walk1 | exact True.intro
theorem warm_M15 : ∀ P, (Challenge.rw_pb0353_01, hd.heap_1 P) = (Challenge.rw_pb0353_01, hd.heap_1 P) := by k_fill; intro P; rfl
section
local macro_rules | `(tactic| walk_at "exec For") => `(tactic| refine Hold.out ?_)
local macro_rules | `(tactic| walk_at "pyIter str") => `(tactic| refine Hold.out ?_)
local macro_rules | `(tactic| walk_at "pyIter ref") => `(tactic| refine Hold.out ?_)
local macro_rules | `(tactic| walk_at "GPost") => `(tactic| (dsimp only [GPost]))
local macro_rules | `(tactic| walk_at "GEnd") => `(tactic| refine Hold.out ?_)
local macro_rules | `(tactic| walk_at "call builtin:len") => `(tactic| ((with_reducible show wpAny _ _ (call (Value.builtin "len") [Value.ref _]) _ _ _); refine' kst_len ?k1 ?k2 ?k3 ?k4 ?_; (case k1 => k_asm); (case k2 => walk_at "mem"); (case k3 => exact rfl); (case k4 => omega); (try dsimp only); (try k_fold)))
local macro_rules | `(tactic| walk_at "mem") => `(tactic| first | (with_reducible exact List.mem_cons_self) | (with_reducible refine List.mem_cons_of_mem _ ?_; walk_at "mem"))
theorem intsAre_at {ws : List Value} {ns : List Int} (h : IntsAre ws ns) : ∀ {i : Nat} {v : Value}, ws[i]? = some v → ∃ n t, v = .int n t ∧ n ∈ ns := by
  induction h with
  | nil => intro i v hv; cases hv
  | @cons n t ws ns r ih =>
    intro i v hv
    cases i with
    | zero => cases hv; exact ⟨n, t, rfl, .head _⟩
    | succ i =>
      obtain ⟨m, u, e, hm⟩ := ih hv
      exact ⟨m, u, e, .tail _ hm⟩
theorem intsAre_snoc {ws : List Value} {ns : List Int} (h : IntsAre ws ns) (n : Int) (t : Tok) : IntsAre (ws ++ [.int n t]) (ns ++ [n]) := by
  induction h with
  | nil => exact .cons n t .nil
  | cons m u _ ih => exact .cons m u ih
noncomputable def StQ (i : Nat) (ws : List Value) : Prop := ∃ ms, IntsAre ws ms ∧ (∀ n ∈ ms, 0 ≤ n) ∧ ws.length ≤ 300 + i
theorem StQ.go {i : Nat} {ws : List Value} {r : Int} (h : StQ i ws) (hr : 0 ≤ r) (t : Tok) : StQ (i + 1) (ws ++ [.int (r.fmod 1000) t]) ∧ 0 ≤ r.fdiv 1000 := by
  obtain ⟨ms, h1, h2, h3⟩ := h
  refine ⟨⟨ms ++ [r.fmod 1000], intsAre_snoc h1 _ t, ?_, ?_⟩, Int.fdiv_nonneg hr (by decide)⟩
  · intro n hn
    rcases List.mem_append.mp hn with hn | hn
    · exact h2 n hn
    · rw [List.mem_singleton.mp hn]; exact Int.fmod_nonneg_of_pos _ (by decide)
  · rw [List.length_append, List.length_singleton]; omega
theorem StQ.step {i : Nat} {ws : List Value} {r : Int} (h : StQ i ws) (hr : 0 ≤ r) (hl : ws.length < 300) (t : Tok) : StQ i (ws ++ [.int (r.fmod 1000) t]) ∧ 0 ≤ r.fdiv 1000 := by
  obtain ⟨⟨ms, h1, h2, h3⟩, h4⟩ := h.go hr t
  refine ⟨⟨ms, h1, h2, ?_⟩, h4⟩
  rw [List.length_append, List.length_singleton]; omega
theorem two_mem {α : Type} {a b : α} {N : List α} (h1 : a ∈ N) (h2 : b ∈ N) : ∀ p ∈ [a, b], p ∈ N := by
  intro p hp
  rcases List.mem_cons.mp hp with rfl | hp
  · exact h1
  · rw [List.mem_singleton.mp hp]; exact h2
theorem two_ne {a b : Addr × Obj} {I : Addr} (h1 : a.1 ≠ I) (h2 : b.1 ≠ I) : ∀ p ∈ [a, b], p.1 ≠ I := by
  intro p hp
  rcases List.mem_cons.mp hp with rfl | hp
  · exact h1
  · rw [List.mem_singleton.mp hp]; exact h2
theorem intsAre_reverse {ws : List Value} {ns : List Int} (h : IntsAre ws ns) : IntsAre ws.reverse ns.reverse := by
  induction h with
  | nil => exact .nil
  | cons m u _ ih => rw [List.reverse_cons, List.reverse_cons]; exact intsAre_snoc ih m u
theorem pool_rev {ws : List Value} {ms : List Int} {t : Int} (h : IntsAre ws ms) (h0 : ∀ n ∈ ms, 0 ≤ n) (hl : ws.length ≤ 400) (t0 : 0 ≤ t) (t1 : t ≤ 1000) : PoolOk ws.reverse t :=
  ⟨ms.reverse, intsAre_reverse h, fun n hn => h0 n (List.mem_reverse.mp hn), by rw [List.length_reverse]; omega, t0, t1⟩
namespace stock_sp_at
noncomputable def St (sl : Nat) (vs : List Value) (ns : List Int) : Prop := ∀ (hI : IntsAre vs ns) (hlen : vs.length ≤ 63), SpG (fun h => h.IsList sl vs.toArray) 350 4 140 [.ref sl] (fun v o => ∃ pa wl ws we t tt ep, v = .ref pa ∧ o = poolL pa wl ws we t tt ep ∧ @Ne Nat pa wl ∧ PoolOk ws t)
noncomputable def Pz (z : (Nat) × (List Value) × (List Int)) : Prop := St (z.1) (z.2.1) (z.2.2)
theorem ne : Nonempty ((Nat) × (List Value) × (List Int)) := ⟨(default, default, default)⟩
noncomputable def z : (Nat) × (List Value) × (List Int) := ec ne Pz
@[irreducible] noncomputable def sl : Nat := z.1
@[irreducible] noncomputable def vs : List Value := z.2.1
@[irreducible] noncomputable def ns : List Int := z.2.2
@[irreducible] noncomputable def cx : Ctx := gctx (fun h => h.IsList sl vs.toArray) 350 4 140 [.ref sl] (fun v o => ∃ pa wl ws we t tt ep, v = .ref pa ∧ o = poolL pa wl ws we t tt ep ∧ @Ne Nat pa wl ∧ PoolOk ws t)
theorem main : St sl vs ns := by
  intro hI hlen
  refine' spg_at cx (by with_unfolding_all rfl) [(Str.ofString "script", .ref sl)] ?hH ?k6 ?k7 ?k9 ?kB ?c2 ?c3 ?c4 ?c5 ?_
  (case hH => intro h h' hk ⟨o, e, r⟩; exact ⟨o, hk _ _ e, r⟩)
  (((case k6 => intro P; k_is); (case k7 => intro P; k_is); (case kB => exact rfl); (case c2 => exact rfl); (case c3 => exact rfl); (case c4 => exact rfl); (case c5 => decide)); (case k9 => exact rfl); unfold BdGC; intros; (try dsimp only); (try k_fold))
  walk_at "steps"
  refine Hold.out ?_
  (rename Fr _ _ _ _ => F0)
  refine For_invVF F0 rfl rfl ?_
  (try k_fold)
  walk_at "steps"
  refine Hold.out ?_
  (rename Fr _ _ _ _ => F1)
  (rename News _ _ _ _ => N1)
  (rename IntsAre _ (List.take 50 _) => I1)
  refine for_list (σ := List Value × Nat) (fun c => [(_, listOf _ 0), (_, listOf c.1.toArray c.2)]) (fun _ => []) [Str.ofString "rest"] (fun i c => StQ i c.1) ([], 0) rfl (.of _ _) (fun _ => .head _) F1 N1 (fun _ h => absurd h List.not_mem_nil) ⟨[], .nil, fun _ h => absurd h List.not_mem_nil, Nat.zero_le _⟩ ?_ ?_
  · rintro ⟨ws, we⟩ i v u h tk I o hv hne hM F2 N2
    dsimp only at hM F2 N2 hne ⊢
    simp only [List.cons_append, List.nil_append] at N2
    have i1 : @Ne Nat _ I := hne _ (.head _)
    have i2 : @Ne Nat _ I := hne _ (.tail _ (.head _))
    obtain ⟨n, t, rfl, -⟩ := intsAre_at I1 hv
    have hvl := I1.length
    have hi : i < 63 := by
      have h1 := (List.getElem?_eq_some_iff.mp hv).1
      have h2 := List.length_take_le 50 ns
      omega
    have hle : ws.length ≤ 300 + i := hM.choose_spec.2.2
    have hsz : ws.toArray.size ≤ sizeLine := by rw [List.size_toArray, sizeLine_eq]; omega
    (try k_fold)
    walk_at "steps"
    all_goals (refine Hold.out ?_)
    all_goals (rename Fr _ _ _ _ => F3)
    all_goals (rename News _ _ _ _ => N3)
    all_goals (rw [List.push_toArray] at N3)
    all_goals (clear N2 F2)
    all_goals refine ksw_while (σ := (List Value × Nat) × (Int × Tok)) (fun c => [(_, listOf _ 0), (_, listOf c.1.1.toArray c.1.2), (I, o)]) (fun c => [(Str.ofString "rest", .int c.2.1 c.2.2)]) (fun _ => True) [] (fun c => StQ (i + 1) c.1.1 ∧ 0 ≤ c.2.1) (fun c => 300 - c.1.1.length) ((_, _), (_, _)) F3 N3 trivial (by kst_all) (hM.go (by omega) _) ?_
    all_goals clear N3 F3
    all_goals (rintro ⟨⟨ws2, we2⟩, ⟨r2, t2⟩⟩ u2 h2 tk2 _ ⟨hM2, hr2⟩ F4 N4)
    all_goals (dsimp only at hM2 hr2 F4 N4 ⊢)
    all_goals (have hle2 : ws2.length ≤ 301 + i := Nat.le_trans hM2.choose_spec.2.2 (by omega))
    all_goals (have hsz2 : ws2.toArray.size ≤ sizeLine := by rw [List.size_toArray, sizeLine_eq]; omega)
    all_goals (try k_fold)
    all_goals walk_at "steps"
    all_goals (first | ((show KswEnd _ _ _ _ _ _ _ _ _ _ _ _); (rename Fr _ _ _ _ => F5); (rename News _ _ _ _ => N5); (rw [List.push_toArray] at N5); (rename StQ _ _ => Q5); refine' ksw_end ((_, _), (_, _)) F5 N5 (fun _ h9 => h9) trivial (by kst_all) (by (intro z9 h8 h9; (simp only [List.forall_mem_cons, List.not_mem_nil, List.contains_cons, List.contains_nil, Bool.or_false, Bool.or_eq_false_iff, beq_eq_false_iff_ne, false_implies, implies_true, and_true, ne_eq] at h8 h9); (simp [kstB, h8, h9]))) (Q5.step (by assumption) (by omega) _) ?km; (case km => ((try dsimp only); rw [List.length_append, List.length_singleton]; omega))) | ((show GEnd _ _ _ _ _ _ _ _ _ _ _ _ _); (rename Fr _ _ _ _ => F5); (rename News _ _ _ _ => N5); (rename StQ _ _ => Q5); exact GEnd.intro (_, _) F5 N5 (two_mem (.head _) (.tail _ (.head _))) (.tail _ (.tail _ (.head _))) (two_ne (by assumption) (by assumption)) (fun _ h9 => absurd h9 List.not_mem_nil) (by (intro z9 g9 h8 h9; (simp only [List.forall_mem_cons, List.not_mem_nil, List.contains_cons, List.contains_nil, Bool.or_false, Bool.or_eq_false_iff, beq_eq_false_iff_ne, false_implies, implies_true, and_true, ne_eq] at h8 h9); (simp [kstB, h8, h9, g9]))) Q5))
  · rintro ⟨ws, we⟩ u h tk hM F2 N2
    dsimp only at hM F2 N2 ⊢
    have hvl := I1.length
    have hi := List.length_take_le 50 ns
    have hle : ws.length ≤ 400 := Nat.le_trans hM.choose_spec.2.2 (by omega)
    have hsz : ws.toArray.size ≤ sizeLine := by rw [List.size_toArray, sizeLine_eq]; omega
    obtain ⟨ms, hI2, h0, -⟩ := hM
    clear N1 F1
    (try k_fold)
    walk_at "steps"
    (rename Fr _ _ _ _ => F5)
    (rename Heap.IsList _ _ _ => HS5)
    obtain ⟨o5, e5, r5⟩ := HS5
    have hl5 : Heap.IsList _ sl vs.toArray := ⟨o5, F5.keep _ _ e5, r5⟩
    refine Calls.call_len_list hl5 (by rw [List.size_toArray]; omega) ?_
    (try dsimp only); (try k_fold)
    walk_at "steps"
    all_goals (rename Fr _ _ _ _ => F6)
    all_goals (rename News _ _ _ _ => N6)
    all_goals (refine kl_reverse F6 N6 rfl (by k_upd) (by (try dsimp only); omega) ?_)
    all_goals (intro h7 F7 N7)
    all_goals ((try dsimp only); (try k_fold))
    all_goals walk_at "steps"
    all_goals (rename News _ _ _ _ => N8)
    all_goals (have hm := Int.fmod_nonneg_of_pos ms.sum (show (0 : Int) < 990 by decide))
    all_goals (have hm2 := Int.fmod_lt_of_pos ms.sum (show (0 : Int) < 990 by decide))
    all_goals ((show Ret _ _ _ _ _); (rename News _ _ _ _ => N6); refine' Ret.pick (by assumption) N6 ?hp ⟨_, _, _, _, _, _, _, rfl, rfl, ?hn, pool_rev (by assumption) (by assumption) (by assumption) ?h1 ?h2⟩; (case hp => walk_at "pick"); (case hn => omega); (case h1 => omega); (case h2 => omega))
end stock_sp_at
theorem stock_sp (sl : Nat) (vs : List Value) (ns : List Int) (hI : IntsAre vs ns) (hlen : vs.length ≤ 63) : SpG (fun h => h.IsList sl vs.toArray) 350 4 140 [.ref sl] (fun v o => ∃ pa wl ws we t tt ep, v = .ref pa ∧ o = poolL pa wl ws we t tt ep ∧ @Ne Nat pa wl ∧ PoolOk ws t) := by
  have h9 : stock_sp_at.Pz (ec stock_sp_at.ne stock_sp_at.Pz) := by with_unfolding_all exact stock_sp_at.main
  exact eps stock_sp_at.ne h9 (sl, vs, ns) hI hlen
end
section
open PySem PySem.W PyProof.Rows PySem.Spec PySem.Calls PySem.Builtin PySem.Builtin.Str
theorem suf_add (x : Str) (n k : Nat) : suf x (n + k) = (suf x n).drop k := by
  show x.cps.toList.drop (n + k) = (x.cps.toList.drop n).drop k
  rw [List.drop_drop]
theorem sub_take (x : Str) (n k : Nat) : sub x n (n + k) = ⟨((suf x n).take k).toArray⟩ := by
  unfold sub
  rw [Nat.add_sub_cancel_left]
theorem one_dec (x : Str) (n : Nat) (s : String) {c : Nat} (hs : (Str.ofString s).cps.toList = [c]) : (sub x n (n + 1) == Str.ofString s) = decide ((suf x n).take 1 = [c]) := by
  rw [str_eq hs, sub_one]
theorem l_H : (Str.ofString "H").cps.toList = [72] := by decide +kernel
theorem l_X : (Str.ofString "X").cps.toList = [88] := by decide +kernel
theorem l_dot : (Str.ofString ".").cps.toList = [46] := by decide +kernel
theorem l_E : (Str.ofString "E").cps.toList = [69] := by decide +kernel
theorem l_pl : (Str.ofString "+").cps.toList = [43] := by decide +kernel
theorem l_mi : (Str.ofString "-").cps.toList = [45] := by decide +kernel
noncomputable def hxL (l : List Nat) : Bool := decide (l.take 1 = [72]) || decide (l.take 1 = [88])
noncomputable def pmL (l : List Nat) : Bool := decide (l.take 1 = [43]) || decide (l.take 1 = [45])
theorem hx_l (x : Str) (p : Nat) : tHX x p = hxL (suf x p) := by
  unfold tHX hxL
  simp only [List.any_cons, List.any_nil, Bool.or_false]
  rw [beq_comm' _ (sub x p (p + 1)), beq_comm' _ (sub x p (p + 1)), one_dec x p "H" l_H, one_dec x p "X" l_X]
theorem pm_l (x : Str) (p : Nat) : tPM x p = pmL (suf x p) := by
  unfold tPM pmL
  simp only [List.any_cons, List.any_nil, Bool.or_false]
  rw [beq_comm' _ (sub x p (p + 1)), beq_comm' _ (sub x p (p + 1)), one_dec x p "+" l_pl, one_dec x p "-" l_mi]
noncomputable def numL (l : List Nat) : Nat :=
  if hxL (l.drop (run hexC l)) = true then run hexC l + 1 else
  if decide ((l.drop (run digC l)).take 1 = [46]) = false then run digC l else
  if decide ((l.drop (run digC l + 1)).take 1 = [46]) = true then run digC l else
  let e := run digC l + 1 + run digC (l.drop (run digC l + 1))
  if decide ((l.drop e).take 1 = [69]) = false then e else
  let b := if pmL (l.drop (e + 1)) = true then e + 1 + 1 else e + 1
  if run digC (l.drop b) = 0 then e else b + run digC (l.drop b)
theorem num_l (x : Str) (n : Nat) : numEnd x n = n + numL (suf x n) := by
  unfold numEnd numL
  have hd : tIs "." x = fun p => decide ((suf x p).take 1 = [46]) := funext fun p => one_dec x p "." l_dot
  have he : tIs "E" x = fun p => decide ((suf x p).take 1 = [69]) := funext fun p => one_dec x p "E" l_E
  rw [hd, he]
  simp only [hx_l, pm_l, Nat.add_assoc, suf_add x n]
  generalize run hexC (suf x n) = h
  generalize run digC (suf x n) = d
  generalize run digC (List.drop (d + 1) (suf x n)) = f
  split
  · rfl
  split
  · rfl
  split
  · rfl
  split
  · rfl
  split
  · simp only [suf_add x n]; split
    · rfl
    · omega
  · simp only [suf_add x n]; split
    · rfl
    · omega
noncomputable def isKw (t : List Nat) : Bool := kwords.any fun z => z == ⟨t.toArray⟩
/-- the item that a list of codes begins with: its kind and its length -/
noncomputable def itemL (l : List Nat) : Str × Nat :=
  if l.headD 0 ≤ 32 then (Str.ofString "gap", run gapC l)
  else if l.take 2 = [40, 42] then (match rem 0 l with | none => (Str.ofString "stray", l.length) | some k => (Str.ofString "remark", k))
  else if letC (l.headD 0) = true then (if isKw (l.take (run wordC l)) = true then Str.ofString "word" else Str.ofString "name", run wordC l)
  else if digC (l.headD 0) = true then (Str.ofString "number", numL l)
  else if l.headD 0 = 34 then (match strGo l.tail with | none => (Str.ofString "stray", run rowC l) | some k => (Str.ofString "text", 1 + k))
  else if 0 < signLen l then (Str.ofString "sign", signLen l) else (Str.ofString "stray", 1)
theorem item_l (x : Str) (n : Nat) (h : n ≤ x.length) : itemOf x n = ((itemL (suf x n)).1, n + (itemL (suf x n)).2) := by
  have e1 : suf x (n + 1) = (suf x n).tail := by rw [suf_add, List.drop_one]
  have e2 : n + (suf x n).length = x.length := by
    show n + (x.cps.toList.drop n).length = _
    rw [List.length_drop, Array.length_toList]
    show n + (x.length - n) = _
    omega
  unfold itemOf itemL isKw
  simp only [sub_take, e1, num_l]
  split
  · rfl
  split
  · split <;> rename_i h2 <;> simp only [h2, e2]
  split
  · rfl
  split
  · rfl
  split
  · split <;> rename_i h2 <;> simp only [h2, Nat.add_assoc]
  split
  · rfl
  · rfl
/-- the place of each row, laid one behind the other -/
noncomputable def place : List (Str × Str × Str) → Nat → List (Str × Str × Nat)
  | [], _ => []
  | (k, t, _) :: r, n => (k, t, n) :: place r (n + t.length)
noncomputable def flat : List (Str × Str × Str) → List Nat
  | [] => []
  | (_, t, _) :: r => t.cps.toList ++ flat r
noncomputable def toks : List (Str × Str × Str) → Nat → List (Str × Nat)
  | [], _ => []
  | (_, t, u) :: r, n => (if u = Str.ofString "" then [] else [(u, n)]) ++ toks r (n + t.length)
theorem len_codes (t : Str) : t.cps.toList.length = t.length := by rw [Array.length_toList]; rfl
theorem flat_app (a b : List (Str × Str × Str)) : flat (a ++ b) = flat a ++ flat b := by
  induction a with
  | nil => rfl
  | cons p a ih => obtain ⟨k, t, u⟩ := p; simp only [List.cons_append, flat, ih, List.append_assoc]
noncomputable def lenR (a : List (Str × Str × Str)) : Nat := (flat a).length
theorem place_app (a b : List (Str × Str × Str)) (n : Nat) : place (a ++ b) n = place a n ++ place b (n + lenR a) := by
  induction a generalizing n with
  | nil => rfl
  | cons p a ih =>
    obtain ⟨k, t, u⟩ := p
    simp only [List.cons_append, place, ih, lenR, flat, List.length_append, len_codes, Nat.add_assoc]
theorem toks_app (a b : List (Str × Str × Str)) (n : Nat) : toks (a ++ b) n = toks a n ++ toks b (n + lenR a) := by
  induction a generalizing n with
  | nil => rfl
  | cons p a ih =>
    obtain ⟨k, t, u⟩ := p
    simp only [List.cons_append, toks, ih, lenR, flat, List.length_append, len_codes, Nat.add_assoc, List.append_assoc]
/-- each row is the item that begins what is left -/
inductive LexOk : List (Str × Str × Str) → Prop
  | nil : LexOk []
  | cons {k t u : Str} {r : List (Str × Str × Str)} : 0 < t.length → itemL (t.cps.toList ++ flat r) = (k, t.length) → LexOk r → LexOk ((k, t, u) :: r)
theorem suf_app {x : Str} {n : Nat} {t : Str} {l : List Nat} (h : suf x n = t.cps.toList ++ l) : suf x (n + t.length) = l ∧ sub x n (n + t.length) = t := by
  rw [suf_add, sub_take, h]
  refine ⟨?_, str_ext ?_⟩
  · rw [← len_codes, List.drop_left]
  · rw [← len_codes]
    show ((t.cps.toList ++ l).take t.cps.toList.length).toArray.toList = _
    rw [List.take_left]
theorem items_of {rows : List (Str × Str × Str)} (h : LexOk rows) : ∀ (x : Str) (n : Nat), suf x n = flat rows → Items x n (place rows n) := by
  induction h with
  | nil => intro x n hs; exact .done (suf_nil hs)
  | @cons k t u r hp hi _ ih =>
    intro x n hs
    have hs' : suf x n = t.cps.toList ++ flat r := hs
    obtain ⟨e1, e2⟩ := suf_app hs'
    have hlt : n < x.length := by
      have h1 : (suf x n).length = x.length - n := by
        show (x.cps.toList.drop n).length = _
        rw [List.length_drop, Array.length_toList]; rfl
      rw [hs', List.length_append, len_codes] at h1
      omega
    have hio := item_l x n (Nat.le_of_lt hlt)
    rw [hs', hi] at hio
    have h2 := Items.step (r := place r (n + t.length)) hlt hio (by rw [e2]; exact ih x _ e1)
    rw [e2] at h2
    exact h2
end
section
open PySem PySem.W PyProof.Rows PySem.Spec PySem.Calls PySem.Builtin PySem.Builtin.Str
noncomputable def gaps5 : List Str := [Str.ofString " ", Str.ofString "\n", Str.ofString "\t \r\n", ⟨#[12]⟩, Str.ofString "  "]
noncomputable def rmks5 : List Str := [Str.ofString "(**)", Str.ofString "(* a *)", Str.ofString "(* (* x *) \n*)", Str.ofString "(*\"*)", Str.ofString "(***)"]
noncomputable def closers : List Str := [Str.ofString ";", Str.ofString ",", Str.ofString "]", Str.ofString "}"]
/-- a gap or nothing stands here -/
noncomputable def Stop (r : List Nat) : Prop := ∀ d ∈ r.head?, d ≤ 32
noncomputable def solidK : List Str := [Str.ofString "word", Str.ofString "name", Str.ofString "number", Str.ofString "text", Str.ofString "sign"]
/-- the token's kind of an item -/
noncomputable def tokOf (k t : Str) (l : List Nat) : Str :=
  if k = Str.ofString "word" then t else if k = Str.ofString "name" then Str.ofString "ident"
  else if k = Str.ofString "number" then (if (l.drop (run hexC l)).take 1 = [88] then Str.ofString "string" else Str.ofString "int")
  else if k = Str.ofString "text" then Str.ofString "string" else t
/-- a row before r -/
noncomputable def RowOk (k t u : Str) (r : List Nat) : Prop := 0 < t.length ∧ 32 < t.cps.toList.headD 0 ∧ k ∈ solidK ∧ itemL (t.cps.toList ++ r) = (k, t.length) ∧ tokOf k t (t.cps.toList ++ r) = u
theorem run_full {p : Nat → Bool} {t r : List Nat} (h : t.all p = true) (hr : ∀ d ∈ r.head?, p d = false) : run p (t ++ r) = t.length := by
  induction t with
  | nil =>
    cases r with
    | nil => rfl
    | cons d r => rw [List.nil_append, run_cons, hr d rfl]; rfl
  | cons c t ih =>
    rw [List.all_cons, Bool.and_eq_true] at h
    rw [List.cons_append, run_cons, h.1, if_pos rfl, ih h.2]; rfl
theorem take2_head {l : List Nat} {a b : Nat} (h : l.take 2 = [a, b]) : l.headD 0 = a := by
  cases l with
  | nil => cases h
  | cons c r => rw [List.take_succ_cons] at h; exact (List.cons.inj h).1
theorem head_app {t r : List Nat} (h : t.headD 0 ≠ 0) : (t ++ r).headD 0 = t.headD 0 := by
  cases t with
  | nil => exact absurd rfl h
  | cons c t => rfl
theorem let_gt {c : Nat} (h : letC c = true) : 64 < c := by
  unfold letC at h
  simp only [Bool.or_eq_true, Bool.and_eq_true, decide_eq_true_eq] at h
  omega
theorem dig_gt {c : Nat} (h : digC c = true) : 47 < c ∧ c < 58 := by
  unfold digC at h
  simp only [Bool.and_eq_true, decide_eq_true_eq] at h
  omega
theorem let_dig {c : Nat} (h : digC c = true) : letC c = false := by
  have := dig_gt h
  unfold letC
  simp only [Bool.or_eq_false_iff, Bool.and_eq_false_iff, decide_eq_false_iff_not]
  omega
theorem low_word {d : Nat} (h : d ≤ 32) : wordC d = false ∧ hexC d = false ∧ digC d = false := by
  unfold wordC hexC letC digC
  simp only [Bool.or_eq_false_iff, Bool.and_eq_false_iff, decide_eq_false_iff_not]
  omega
theorem word_lex {t r : List Nat} (h1 : letC (t.headD 0) = true) (h2 : t.all wordC = true) (hr : Stop r) : itemL (t ++ r) = (if isKw t = true then Str.ofString "word" else Str.ofString "name", t.length) := by
  have hg := let_gt h1
  have e1 : (t ++ r).headD 0 = t.headD 0 := head_app (by omega)
  have e2 : run wordC (t ++ r) = t.length := run_full h2 fun d hd => (low_word (hr d hd)).1
  unfold itemL
  rw [if_neg (by rw [e1]; omega), if_neg (fun h => by have := take2_head h; rw [e1] at this; omega), e1, if_pos h1, e2, List.take_left]
theorem number_lex {l : List Nat} (h1 : digC (l.headD 0) = true) : itemL l = (Str.ofString "number", numL l) := by
  have hg := dig_gt h1
  unfold itemL
  rw [if_neg (by omega), if_neg (fun h => by have := take2_head h; omega), if_neg (by rw [let_dig h1]; exact Bool.noConfusion), if_pos h1]
theorem text_lex {l : List Nat} {k : Nat} (e : l.headD 0 = 34) (h : strGo l.tail = some k) : itemL l = (Str.ofString "text", 1 + k) := by
  unfold itemL
  rw [if_neg (by omega), if_neg (fun h => by have := take2_head h; omega), if_neg (by rw [e]; decide), if_neg (by rw [e]; decide), if_pos e, h]
theorem remark_lex {l : List Nat} {k : Nat} (e : l.take 2 = [40, 42]) (h : rem 0 l = some k) : itemL l = (Str.ofString "remark", k) := by
  have := take2_head e
  unfold itemL
  rw [if_neg (by omega), if_pos e, h]
theorem gap_lex {t r : List Nat} (h1 : t.all gapC = true) (h0 : t ≠ []) (hr : ∀ d ∈ r.head?, 32 < d) : itemL (t ++ r) = (Str.ofString "gap", t.length) := by
  have e2 : run gapC (t ++ r) = t.length := run_full h1 fun d hd => by have := hr d hd; unfold gapC; rw [decide_eq_false]; omega
  unfold itemL
  rw [if_pos, e2]
  cases t with
  | nil => exact absurd rfl h0
  | cons c t =>
    rw [List.all_cons, Bool.and_eq_true] at h1
    exact of_decide_eq_true h1.1
theorem sign_head : ∀ c ∈ signs, ¬ c ≤ 32 ∧ letC c = false ∧ digC c = false ∧ ¬ c = 34 := by decide +kernel
theorem sign_lex {l : List Nat} {k : Nat} (hc : l.headD 0 ∈ signs) (ht : l.take 2 ≠ [40, 42]) (hs : signLen l = k) (hk : 0 < k) : itemL l = (Str.ofString "sign", k) := by
  obtain ⟨a, b, c, d⟩ := sign_head _ hc
  unfold itemL
  rw [if_neg a, if_neg ht, if_neg (by rw [b]; exact Bool.noConfusion), if_neg (by rw [c]; exact Bool.noConfusion), if_neg d, hs, if_pos hk]
theorem sign_one {c : Nat} {r : List Nat} (hc : c ∈ signs) (hr : c ∈ [59, 44, 93, 125] ∨ Stop r) : itemL (c :: r) = (Str.ofString "sign", 1) := by
  have hn : (c :: r).take 2 ≠ [40, 42] ∧ pairB (c :: r) = false := by
    rcases hr with hr | hr
    · have hc2 : c ≠ 40 ∧ c ≠ 58 ∧ c ≠ 60 ∧ c ≠ 62 ∧ c ≠ 46 := by
        simp only [List.mem_cons, List.not_mem_nil, or_false] at hr
        omega
      refine ⟨fun h => hc2.1 (take2_head h), ?_⟩
      unfold pairB
      have h3 : ∀ a b, c ≠ a → (c :: r).take 2 ≠ [a, b] := fun a b hn h => hn (take2_head h)
      rw [decide_eq_false (h3 _ _ hc2.2.1), decide_eq_false (h3 _ _ hc2.2.2.1), decide_eq_false (h3 _ _ hc2.2.2.2.1), decide_eq_false (h3 _ _ hc2.2.2.2.2)]; rfl
    · have h2 : ∀ a b, 32 < b → (c :: r).take 2 ≠ [a, b] := fun a b hb h => by
        cases r with
        | nil => cases h
        | cons d r =>
          have := hr d rfl
          have e : c :: d :: [] = [a, b] := h
          have := (List.cons.inj (List.cons.inj e).2).1
          omega
      refine ⟨h2 _ _ (by decide), ?_⟩
      unfold pairB
      rw [decide_eq_false (h2 _ _ (by decide)), decide_eq_false (h2 _ _ (by decide)), decide_eq_false (h2 _ _ (by decide)), decide_eq_false (h2 _ _ (by decide))]; rfl
  refine sign_lex hc hn.1 ?_ Nat.zero_lt_one
  unfold signLen
  rw [if_neg (by rw [hn.2]; exact Bool.noConfusion), if_pos]
  exact decide_eq_true ⟨c, rfl, hc⟩
noncomputable def pairs4 : List (List Nat) := [[58, 61], [60, 61], [62, 61], [46, 46]]
theorem sign_two {t r : List Nat} (h : t ∈ pairs4) : itemL (t ++ r) = (Str.ofString "sign", 2) := by
  simp only [pairs4, List.mem_cons, List.not_mem_nil, or_false] at h
  rcases h with rfl | rfl | rfl | rfl
  · exact sign_lex (show 58 ∈ signs by decide) (show [58, 61] ≠ [40, 42] by decide) rfl (by decide)
  · exact sign_lex (show 60 ∈ signs by decide) (show [60, 61] ≠ [40, 42] by decide) rfl (by decide)
  · exact sign_lex (show 62 ∈ signs by decide) (show [62, 61] ≠ [40, 42] by decide) rfl (by decide)
  · exact sign_lex (show 46 ∈ signs by decide) (show [46, 46] ≠ [40, 42] by decide) rfl (by decide)
theorem words_ok : ∀ t ∈ words5, letC (t.cps.toList.headD 0) = true ∧ t.cps.toList.all wordC = true ∧ isKw t.cps.toList = true := by decide +kernel
theorem names_ok : ∀ t ∈ names6, letC (t.cps.toList.headD 0) = true ∧ t.cps.toList.all wordC = true ∧ isKw t.cps.toList = false := by decide +kernel
theorem signs_ok : ∀ t ∈ signs26, (∃ c ∈ signs, t.cps.toList = [c]) ∨ t.cps.toList ∈ pairs4 := by decide +kernel
theorem pairs_ok : ∀ t ∈ pairs4, t.length = 2 ∧ 32 < t.headD 0 := by decide +kernel
theorem closers_ok : ∀ t ∈ closers, ∃ c ∈ signs, c ∈ [59, 44, 93, 125] ∧ t.cps.toList = [c] := by decide +kernel
theorem gaps_ok : ∀ t ∈ gaps5, t.cps.toList.all gapC = true ∧ t.cps.toList ≠ [] := by decide +kernel
theorem len_of {t : Str} {l : List Nat} (h : t.cps.toList = l) : t.length = l.length := by rw [← len_codes, h]
theorem word_row {t : Str} {r : List Nat} (ht : t ∈ words5) (hr : Stop r) : RowOk (Str.ofString "word") t t r := by
  obtain ⟨h1, h2, h3⟩ := words_ok t ht
  have hg := let_gt h1
  refine ⟨?_, by omega, .head _, ?_, ?_⟩
  · rw [← len_codes]
    cases h : t.cps.toList with
    | nil => rw [h] at hg; exact absurd hg (by decide)
    | cons => exact Nat.succ_pos _
  · rw [word_lex h1 h2 hr, if_pos h3, len_codes]
  · unfold tokOf; rw [if_pos rfl]
theorem name_row {t : Str} {r : List Nat} (ht : t ∈ names6) (hr : Stop r) : RowOk (Str.ofString "name") t (Str.ofString "ident") r := by
  obtain ⟨h1, h2, h3⟩ := names_ok t ht
  have hg := let_gt h1
  refine ⟨?_, by omega, .tail _ (.head _), ?_, ?_⟩
  · rw [← len_codes]
    cases h : t.cps.toList with
    | nil => rw [h] at hg; exact absurd hg (by decide)
    | cons => exact Nat.succ_pos _
  · rw [word_lex h1 h2 hr, if_neg (by rw [h3]; exact Bool.noConfusion), len_codes]
  · unfold tokOf; rw [if_neg (by decide), if_pos rfl]
theorem sign_row {t : Str} {r : List Nat} (ht : t ∈ signs26) (hr : Stop r) : RowOk (Str.ofString "sign") t t r := by
  have ek : Str.ofString "sign" ∈ solidK := by decide
  have et : ∀ l, tokOf (Str.ofString "sign") t l = t := fun l => by unfold tokOf; rw [if_neg (by decide), if_neg (by decide), if_neg (by decide), if_neg (by decide)]
  rcases signs_ok t ht with ⟨c, hc, e⟩ | h
  · have hl : t.length = 1 := len_of e
    refine ⟨by omega, ?_, ek, ?_, et _⟩
    · rw [e]; have := (sign_head c hc).1; show 32 < c; omega
    · rw [e, hl]; exact sign_one hc (.inr hr)
  · obtain ⟨h2, h3⟩ := pairs_ok _ h
    have hl : t.length = 2 := by rw [← len_codes, h2]
    refine ⟨by omega, h3, ek, ?_, et _⟩
    rw [hl]; exact sign_two h
theorem closer_row {t : Str} {r : List Nat} (ht : t ∈ closers) : RowOk (Str.ofString "sign") t t r := by
  obtain ⟨c, hc, hc2, e⟩ := closers_ok t ht
  have hl : t.length = 1 := len_of e
  refine ⟨by omega, ?_, by decide, ?_, ?_⟩
  · rw [e]; have := (sign_head c hc).1; show 32 < c; omega
  · rw [e, hl]; exact sign_one hc (.inl hc2)
  · unfold tokOf; rw [if_neg (by decide), if_neg (by decide), if_neg (by decide), if_neg (by decide)]
end
section
open PySem PySem.W PyProof.Rows PySem.Spec PySem.Calls PySem.Builtin PySem.Builtin.Str
noncomputable abbrev Row := Str × Str × Str
noncomputable def gapR (g : Str) : Row := (Str.ofString "gap", g, Str.ofString "")
noncomputable def rmkR (m : Str) : Row := (Str.ofString "remark", m, Str.ofString "")
noncomputable def dotR : Row := (Str.ofString "sign", Str.ofString "..", Str.ofString "..")
noncomputable def nodots : List Str := [Str.ofString "5", Str.ofString "0FFH", Str.ofString "41X", Str.ofString "12", Str.ofString "0AX"]
theorem num_end {l : List Nat} (hl : l ∈ [[53], [48, 70, 70, 72], [52, 49, 88], [50, 46, 53, 69, 45, 51], [55, 46], [49, 50], [48, 65, 88]]) {r : List Nat} (hr : Stop r) :
    numL (l ++ r) = l.length ∧ ((l ++ r).drop (run hexC (l ++ r))).take 1 = (l.drop (run hexC l)).take 1 ∨ r ≠ [] ∧ numL (l ++ r) = l.length ∧ (¬ ((l ++ r).drop (run hexC (l ++ r))).take 1 = [88] ∧ ¬ (l.drop (run hexC l)).take 1 = [88]) := by
  cases r with
  | nil =>
    left
    rw [List.append_nil]
    refine ⟨?_, rfl⟩
    revert l
    decide +kernel
  | cons d r =>
    have hd : d ≤ 32 := hr d rfl
    have h1 : ¬ 48 ≤ d := by omega
    have h2 : ¬ 65 ≤ d := by omega
    have h3 : ¬ d = 46 := by omega
    have h4 : ¬ d = 69 := by omega
    have h5 : ¬ d = 72 := by omega
    have h6 : ¬ d = 88 := by omega
    simp only [List.mem_cons, List.not_mem_nil, or_false] at hl
    rcases hl with rfl | rfl | rfl | rfl | rfl | rfl | rfl
    all_goals simp [numL, run_cons, hxL, pmL, hexC, digC, h1, h2, h3, h4, h5, h6]
theorem num_dots {l : List Nat} (hl : l ∈ [[53], [48, 70, 70, 72], [52, 49, 88], [49, 50], [48, 65, 88]]) {r : List Nat} :
    numL (l ++ 46 :: 46 :: r) = l.length ∧ ((l ++ 46 :: 46 :: r).drop (run hexC (l ++ 46 :: 46 :: r))).take 1 = ((l ++ [32]).drop (run hexC (l ++ [32]))).take 1 ∨ numL (l ++ 46 :: 46 :: r) = l.length ∧ (¬ ((l ++ 46 :: 46 :: r).drop (run hexC (l ++ 46 :: 46 :: r))).take 1 = [88] ∧ ¬ ((l ++ [32]).drop (run hexC (l ++ [32]))).take 1 = [88]) := by
  simp only [List.mem_cons, List.not_mem_nil, or_false] at hl
  rcases hl with rfl | rfl | rfl | rfl | rfl
  all_goals simp [numL, run_cons, run_nil, hxL, pmL, hexC, digC]
theorem nums_ok : ∀ p ∈ nums7, p.1.cps.toList ∈ [[53], [48, 70, 70, 72], [52, 49, 88], [50, 46, 53, 69, 45, 51], [55, 46], [49, 50], [48, 65, 88]] ∧ digC (p.1.cps.toList.headD 0) = true ∧ tokOf (Str.ofString "number") p.1 (p.1.cps.toList ++ []) = p.2 ∧ tokOf (Str.ofString "number") p.1 (p.1.cps.toList ++ [32]) = p.2 := by decide +kernel
theorem nodots_ok : ∀ p ∈ nums7, p.1 ∈ nodots → p.1.cps.toList ∈ [[53], [48, 70, 70, 72], [52, 49, 88], [49, 50], [48, 65, 88]] := by decide +kernel
theorem tok_num (t : Str) (l : List Nat) : tokOf (Str.ofString "number") t l = (if (l.drop (run hexC l)).take 1 = [88] then Str.ofString "string" else Str.ofString "int") := by
  unfold tokOf
  rw [if_neg (by decide), if_neg (by decide), if_pos rfl]
theorem head_pos {t : Str} (h : 0 < t.cps.toList.headD 0) : 0 < t.length := by
  rw [← len_codes]
  cases e : t.cps.toList with
  | nil => rw [e] at h; exact absurd h (by decide)
  | cons => exact Nat.succ_pos _
theorem num_row {t u : Str} {r : List Nat} (ht : (t, u) ∈ nums7) (hr : Stop r) : RowOk (Str.ofString "number") t u r := by
  obtain ⟨h1, h2, h3, h4⟩ := nums_ok _ ht
  simp only at h1 h2 h3 h4
  have hg := dig_gt h2
  rw [tok_num, List.append_nil] at h3
  have hN : numL (t.cps.toList ++ r) = t.length ∧ tokOf (Str.ofString "number") t (t.cps.toList ++ r) = u := by
    rw [← len_codes, tok_num]
    rcases num_end h1 hr with ⟨a, b⟩ | ⟨_, a, b, c⟩
    · rw [b]; exact ⟨a, h3⟩
    · rw [if_neg b]; rw [if_neg c] at h3; exact ⟨a, h3⟩
  refine ⟨head_pos (by omega), by omega, .tail _ (.tail _ (.head _)), ?_, hN.2⟩
  rw [number_lex (by rw [head_app (by omega)]; exact h2), hN.1]
theorem numdot_row {t u : Str} {r : List Nat} (ht : (t, u) ∈ nums7) (hn : t ∈ nodots) : RowOk (Str.ofString "number") t u (46 :: 46 :: r) := by
  obtain ⟨h1, h2, h3, h4⟩ := nums_ok _ ht
  have h5 := nodots_ok _ ht hn
  simp only at h1 h2 h3 h4 h5
  have hg := dig_gt h2
  rw [tok_num] at h4
  have hN : numL (t.cps.toList ++ 46 :: 46 :: r) = t.length ∧ tokOf (Str.ofString "number") t (t.cps.toList ++ 46 :: 46 :: r) = u := by
    rw [← len_codes, tok_num]
    rcases num_dots h5 (r := r) with ⟨a, b⟩ | ⟨a, b, c⟩
    · rw [b]; exact ⟨a, h4⟩
    · rw [if_neg b]; rw [if_neg c] at h4; exact ⟨a, h4⟩
  refine ⟨head_pos (by omega), by omega, .tail _ (.tail _ (.head _)), ?_, hN.2⟩
  rw [number_lex (by rw [head_app (by omega)]; exact h2), hN.1]
theorem texts_ok : ∀ t ∈ texts5, ∃ l ∈ [[34, 34], [34, 97, 32, 98, 34], [34, 40, 42, 34], [34, 39, 34], [34, 42, 41, 34]], t.cps.toList = l := by decide +kernel
theorem text_row {t : Str} {r : List Nat} (ht : t ∈ texts5) : RowOk (Str.ofString "text") t (Str.ofString "string") r := by
  obtain ⟨l, hl, e⟩ := texts_ok t ht
  have hh : 32 < t.cps.toList.headD 0 := by rw [e]; clear e; revert l; decide +kernel
  refine ⟨head_pos (by omega), hh, .tail _ (.tail _ (.tail _ (.head _))), ?_, ?_⟩
  · rw [← len_codes, e]
    clear e hh
    simp only [List.mem_cons, List.not_mem_nil, or_false] at hl
    rcases hl with rfl | rfl | rfl | rfl | rfl
    · exact text_lex (k := 1) rfl (by simp [strGo])
    · exact text_lex (k := 4) rfl (by simp [strGo])
    · exact text_lex (k := 3) rfl (by simp [strGo])
    · exact text_lex (k := 2) rfl (by simp [strGo])
    · exact text_lex (k := 3) rfl (by simp [strGo])
  · unfold tokOf
    rw [if_neg (by decide), if_neg (by decide), if_neg (by decide), if_pos rfl]
theorem rmks_ok : ∀ t ∈ rmks5, ∃ l ∈ [[40, 42, 42, 41], [40, 42, 32, 97, 32, 42, 41], [40, 42, 32, 40, 42, 32, 120, 32, 42, 41, 32, 10, 42, 41], [40, 42, 34, 42, 41], [40, 42, 42, 42, 41]], t.cps.toList = l := by decide +kernel
theorem rmk_rem {l r : List Nat} (hl : l ∈ [[40, 42, 42, 41], [40, 42, 32, 97, 32, 42, 41], [40, 42, 32, 40, 42, 32, 120, 32, 42, 41, 32, 10, 42, 41], [40, 42, 34, 42, 41], [40, 42, 42, 42, 41]]) : rem 0 (l ++ r) = some l.length ∧ (l ++ r).take 2 = [40, 42] ∧ 0 < l.length := by
  simp only [List.mem_cons, List.not_mem_nil, or_false] at hl
  rcases hl with rfl | rfl | rfl | rfl | rfl
  all_goals exact ⟨by simp [rem], by rfl, by decide⟩
/-- what comes next does not begin with a gap -/
noncomputable def Hd (r : List Row) : Prop := ∀ d ∈ (flat r).head?, 32 < d
inductive Law : List Row → Prop
  | nil : Law []
  | stray {t u : Str} : (t, u) ∈ tails → t ≠ Str.ofString "" → Law [(Str.ofString "stray", t, u)]
  | solid {k t u : Str} {r : List Row} : RowOk k t u (flat r) → Law r → Law ((k, t, u) :: r)
  | gap {g : Str} {r : List Row} : g ∈ gaps5 → Hd r → Law r → Law (gapR g :: r)
  | rmk {m : Str} {r : List Row} : m ∈ rmks5 → Law r → Law (rmkR m :: r)
theorem stray_ok : ∀ p ∈ tails, p.1 ≠ Str.ofString "" → itemL p.1.cps.toList = (Str.ofString "stray", p.1.length) ∧ 0 < p.1.length ∧ 32 < p.1.cps.toList.headD 0 := by decide +kernel
theorem Law.lex {rows : List Row} (h : Law rows) : LexOk rows := by
  induction h with
  | nil => exact .nil
  | @stray t u ht hn =>
    obtain ⟨a, b, _⟩ := stray_ok _ ht hn
    refine .cons b ?_ .nil
    show itemL (t.cps.toList ++ []) = _
    rw [List.append_nil]; exact a
  | solid h _ ih => exact .cons h.1 h.2.2.2.1 ih
  | @gap g r hg hd _ ih =>
    obtain ⟨a, b⟩ := gaps_ok g hg
    refine .cons ?_ ?_ ih
    · rw [← len_codes]; exact List.length_pos_iff.mpr b
    · rw [gap_lex a b hd, len_codes]
  | @rmk m r hm _ ih =>
    obtain ⟨l, hl, e⟩ := rmks_ok m hm
    obtain ⟨a, b, c⟩ := rmk_rem (r := flat r) hl
    refine .cons (by rw [← len_codes, e]; exact c) ?_ ih
    rw [← len_codes, e]; exact remark_lex b a
theorem hd_cons {k t u : Str} {r : List Row} (h : 32 < t.cps.toList.headD 0) : Hd ((k, t, u) :: r) := by
  intro d hd
  have e : flat ((k, t, u) :: r) = t.cps.toList ++ flat r := rfl
  rw [e] at hd
  cases h2 : t.cps.toList with
  | nil => rw [h2] at h; exact absurd h (by decide)
  | cons c l =>
    rw [h2] at hd h
    have : c = d := by simpa using hd
    rw [← this]; exact h
theorem solid_go {k t u : Str} {r : List Row} (h : RowOk k t u (flat r)) (hr : Law r) : Law ((k, t, u) :: r) ∧ Hd ((k, t, u) :: r) := ⟨.solid h hr, hd_cons h.2.1⟩
theorem rmk_go {m : Str} {r : List Row} (h : m ∈ rmks5) (hr : Law r) : Law (rmkR m :: r) ∧ Hd (rmkR m :: r) := by
  refine ⟨.rmk h hr, hd_cons ?_⟩
  obtain ⟨l, hl, e⟩ := rmks_ok m h
  rw [e]; clear e; revert l; decide +kernel
theorem gapr_go {g : Str} {r : List Row} (h : g ∈ gaps5) (hr : Law r) (hd : Hd r) : Law (gapR g :: r) ∧ Stop (flat (gapR g :: r)) := by
  refine ⟨.gap h hd hr, ?_⟩
  obtain ⟨a, b⟩ := gaps_ok g h
  intro d hd
  have e : flat (gapR g :: r) = g.cps.toList ++ flat r := rfl
  rw [e] at hd
  cases h2 : g.cps.toList with
  | nil => exact absurd h2 b
  | cons c l =>
    rw [h2, List.all_cons, Bool.and_eq_true] at a
    rw [h2] at hd
    have : c = d := by simpa using hd
    rw [← this]; exact of_decide_eq_true a.1
theorem piece_row {p : Row} {r : List Nat} (hp : p ∈ pieces) (hr : Stop r) : RowOk p.1 p.2.1 p.2.2 r := by
  unfold pieces at hp
  rcases List.mem_append.mp hp with hp | hp
  · obtain ⟨x, hx, rfl⟩ := List.mem_map.mp hp; exact word_row hx hr
  rcases List.mem_append.mp hp with hp | hp
  · obtain ⟨x, hx, rfl⟩ := List.mem_map.mp hp; exact name_row hx hr
  rcases List.mem_append.mp hp with hp | hp
  · obtain ⟨⟨x, y⟩, hx, rfl⟩ := List.mem_map.mp hp; exact num_row hx hr
  rcases List.mem_append.mp hp with hp | hp
  · obtain ⟨x, hx, rfl⟩ := List.mem_map.mp hp; exact text_row hx
  · obtain ⟨x, hx, rfl⟩ := List.mem_map.mp hp; exact sign_row hx hr
theorem piece_num {p : Row} (hp : p ∈ pieces) (hk : p.1 = Str.ofString "number") : (p.2.1, p.2.2) ∈ nums7 := by
  revert p; decide +kernel
theorem dot_row {r : List Nat} : RowOk (Str.ofString "sign") (Str.ofString "..") (Str.ofString "..") r := by
  refine ⟨by decide, by decide, by decide, ?_, ?_⟩
  · rw [l_dd]; exact sign_two (by decide)
  · unfold tokOf; rw [if_neg (by decide), if_neg (by decide), if_neg (by decide), if_neg (by decide)]
/-- what one turn of the law's loop adds -/
inductive Turn : List Row → Prop
  | close {t : Str} : t ∈ closers → Turn [(Str.ofString "sign", t, t)]
  | gap {p : Row} {d : List Row} {g : Str} {e : List Row} : p ∈ pieces → (d = [] ∨ d = [dotR] ∧ p.1 = Str.ofString "number" ∧ p.2.1 ∈ nodots) → g ∈ gaps5 → (e = [] ∨ ∃ m ∈ rmks5, e = [rmkR m, gapR (Str.ofString " ")]) → Turn (p :: (d ++ (gapR g :: e)))
theorem Turn.law {b r : List Row} (h : Turn b) (hr : Law r) (hd : Hd r) : Law (b ++ r) ∧ Hd (b ++ r) := by
  cases h with
  | close ht => exact solid_go (closer_row ht) hr
  | @gap p d g e hp hdd hg he =>
    have h1 : Law (e ++ r) ∧ Hd (e ++ r) := by
      rcases he with rfl | ⟨m, hm, rfl⟩
      · exact ⟨hr, hd⟩
      · exact rmk_go hm (gapr_go (by decide) hr hd).1
    have h2 := gapr_go hg h1.1 h1.2
    obtain ⟨k, t, u⟩ := p
    rcases hdd with rfl | ⟨rfl, rfl, hn⟩
    · exact solid_go (piece_row hp h2.2) h2.1
    · have h3 := solid_go (r := gapR g :: (e ++ r)) (dot_row (r := flat (gapR g :: (e ++ r)))) h2.1
      exact solid_go (r := dotR :: (gapR g :: (e ++ r))) (numdot_row (piece_num hp rfl) hn) h3.1
inductive Turns : Nat → List Row → Prop
  | nil : Turns 0 []
  | snoc {i : Nat} {rows b : List Row} : Turns i rows → Turn b → Turns (i + 1) (rows ++ b)
theorem Turns.law {i : Nat} {rows : List Row} (h : Turns i rows) : ∀ r, Law r → Hd r → Law (rows ++ r) ∧ Hd (rows ++ r) := by
  induction h with
  | nil => intro r hr hd; exact ⟨hr, hd⟩
  | @snoc i rows b _ hb ih =>
    intro r hr hd
    obtain ⟨h1, h2⟩ := hb.law hr hd
    rw [List.append_assoc]
    exact ih _ h1 h2
/-- the last row, if there is one -/
noncomputable def tailR (t u : Str) : List Row := if t = Str.ofString "" then [] else [(Str.ofString "stray", t, u)]
theorem tail_law {t u : Str} (h : (t, u) ∈ tails) : Law (tailR t u) ∧ Hd (tailR t u) := by
  unfold tailR
  by_cases ht : t = Str.ofString ""
  · rw [if_pos ht]; exact ⟨.nil, fun d hd => nomatch hd⟩
  · rw [if_neg ht]; exact ⟨.stray h ht, hd_cons (stray_ok _ h ht).2.2⟩
end
section
open PySem PySem.W PyProof.Rows PySem.Spec PySem.Calls PySem.Builtin PySem.Builtin.Str
noncomputable def spc : List Row → List Row
  | [] => []
  | [p] => [p]
  | p :: q :: r => p :: gapR (Str.ofString " ") :: spc (q :: r)
noncomputable def Sol (p : Row) : Prop := (∃ m ∈ rmks5, p = rmkR m) ∨ ∀ r, Stop r → RowOk p.1 p.2.1 p.2.2 r
theorem stop_nil : Stop [] := fun _ h => nomatch h
theorem hd_nil : Hd [] := fun _ h => nomatch h
theorem sol_go {p : Row} {r : List Row} (h : Sol p) (hr : Law r) (hs : Stop (flat r)) : Law (p :: r) ∧ Hd (p :: r) := by
  rcases h with ⟨m, hm, rfl⟩ | h
  · exact rmk_go hm hr
  · obtain ⟨k, t, u⟩ := p
    exact solid_go (h _ hs) hr
theorem spc_law {t u : Str} (ht : (t, u) ∈ tails) : ∀ l : List Row, (∀ p ∈ l, Sol p) → Law (spc (l ++ tailR t u)) ∧ Hd (spc (l ++ tailR t u)) := by
  intro l
  induction l with
  | nil =>
    intro _
    have h := tail_law ht
    have e : spc ([] ++ tailR t u) = tailR t u := by
      unfold tailR
      by_cases h : t = Str.ofString ""
      · rw [if_pos h]; rfl
      · rw [if_neg h]; rfl
    rw [e]; exact h
  | cons p l ih =>
    intro hl
    have h := ih fun q hq => hl q (.tail _ hq)
    rw [List.cons_append]
    cases e : l ++ tailR t u with
    | nil => exact sol_go (hl p (.head _)) .nil stop_nil
    | cons q r =>
      rw [e] at h
      have h2 := gapr_go (g := Str.ofString " ") (by decide) h.1 h.2
      exact sol_go (hl p (.head _)) h2.1 h2.2
theorem closer_piece : ∀ t ∈ closers, ((Str.ofString "sign", t, t) : Row) ∈ pieces := by decide +kernel
theorem Turn.mem {b : List Row} (h : Turn b) : ∀ p ∈ b, p ∈ pieces ∨ (∃ g ∈ gaps5, p = gapR g) ∨ ∃ m ∈ rmks5, p = rmkR m := by
  cases h with
  | close ht => intro p hp; rw [List.mem_singleton.mp hp]; exact .inl (closer_piece _ ht)
  | @gap p d g e hp hdd hg he =>
    intro q hq
    rcases List.mem_cons.mp hq with rfl | hq
    · exact .inl hp
    rcases List.mem_append.mp hq with hq | hq
    · rcases hdd with rfl | ⟨rfl, _⟩
      · cases hq
      · rw [List.mem_singleton.mp hq]; exact .inl (by decide +kernel)
    rcases List.mem_cons.mp hq with rfl | hq
    · exact .inr (.inl ⟨g, hg, rfl⟩)
    rcases he with rfl | ⟨m, hm, rfl⟩
    · cases hq
    · rcases List.mem_cons.mp hq with rfl | hq
      · exact .inr (.inr ⟨m, hm, rfl⟩)
      · rw [List.mem_singleton.mp hq]; exact .inr (.inl ⟨_, by decide, rfl⟩)
theorem Turn.len {b : List Row} (h : Turn b) : b.length ≤ 5 := by
  cases h with
  | close ht => exact (by decide : 1 ≤ 5)
  | @gap p d g e hp hdd hg he =>
    have h1 : d.length ≤ 1 := by rcases hdd with rfl | ⟨rfl, _⟩ <;> decide
    have h2 : e.length ≤ 2 := by
      rcases he with rfl | ⟨m, hm, rfl⟩
      · decide
      · exact Nat.le_refl 2
    simp only [List.length_cons, List.length_append]
    omega
theorem Turns.len {i : Nat} {rows : List Row} (h : Turns i rows) : rows.length ≤ 5 * i := by
  induction h with
  | nil => exact Nat.zero_le _
  | snoc _ hb ih => have := hb.len; rw [List.length_append]; omega
theorem Turns.mem {i : Nat} {rows : List Row} (h : Turns i rows) : ∀ p ∈ rows, p ∈ pieces ∨ (∃ g ∈ gaps5, p = gapR g) ∨ ∃ m ∈ rmks5, p = rmkR m := by
  induction h with
  | nil => intro p hp; cases hp
  | snoc _ hb ih => intro p hp; exact (List.mem_append.mp hp).elim (ih p) (hb.mem p)
noncomputable def fine (t : Str) : Bool := decide (t.length ≤ 14) && PyData.strOk t
theorem fine_p : ∀ p ∈ pieces, fine p.2.1 = true ∧ ¬ p.1 = Str.ofString "gap" ∧ ¬ p.1 = Str.ofString "remark" := by decide +kernel
theorem fine_g : ∀ g ∈ gaps5, fine g = true := by decide +kernel
theorem fine_r : ∀ g ∈ rmks5, fine g = true := by decide +kernel
theorem fine_t : ∀ p ∈ tails, fine p.1 = true := by decide +kernel
theorem Turns.fine {i : Nat} {rows : List Row} (h : Turns i rows) : ∀ p ∈ rows, fine p.2.1 = true := by
  intro p hp
  rcases h.mem p hp with hp | ⟨g, hg, rfl⟩ | ⟨g, hg, rfl⟩
  · exact (fine_p p hp).1
  · exact fine_g _ hg
  · exact fine_r _ hg
theorem tailR_fine {t u : Str} (h : (t, u) ∈ tails) : ∀ p ∈ tailR t u, fine p.2.1 = true := by
  unfold tailR
  split
  · intro p hp; cases hp
  · intro p hp; rw [List.mem_singleton.mp hp]; exact fine_t _ h
theorem flat_len {rows : List Row} (h : ∀ p ∈ rows, fine p.2.1 = true) : (flat rows).length ≤ 14 * rows.length := by
  induction rows with
  | nil => exact Nat.zero_le _
  | cons p r ih =>
    obtain ⟨k, t, u⟩ := p
    have h1 := h (k, t, u) (.head _)
    have h2 := ih fun q hq => h q (.tail _ hq)
    unfold fine at h1
    rw [Bool.and_eq_true] at h1
    have h3 := of_decide_eq_true h1.1
    simp only [flat, List.length_append, len_codes, List.length_cons]
    simp only at h3
    omega
theorem tailR_len (t u : Str) : (tailR t u).length ≤ 1 := by
  unfold tailR
  split
  · exact Nat.zero_le _
  · exact Nat.le_refl _
/-- rows without the gaps -/
noncomputable def noGap (p : Row) : Bool := !(p.1 == Str.ofString "gap")
theorem Turns.sol {i : Nat} {rows : List Row} (h : Turns i rows) : ∀ p ∈ rows.filter noGap, Sol p := by
  intro p hp
  obtain ⟨hp, hn⟩ := List.mem_filter.mp hp
  rcases h.mem p hp with hp | ⟨g, hg, rfl⟩ | ⟨g, hg, rfl⟩
  · exact .inr fun r hr => piece_row hp hr
  · exact absurd hn (by unfold noGap; simp [gapR])
  · exact .inl ⟨g, hg, rfl⟩
theorem tailR_noGap (t u : Str) : (tailR t u).filter noGap = tailR t u := by
  unfold tailR
  split
  · rfl
  · rfl
theorem place_filter (P : Str → Bool) (rows : List Row) (n : Nat) : ((place rows n).filter fun i => P i.1).map (·.2.1) = (rows.filter fun p => P p.1).map (·.2.1) := by
  induction rows generalizing n with
  | nil => rfl
  | cons p r ih =>
    obtain ⟨k, t, u⟩ := p
    simp only [place, List.filter_cons]
    split
    · simp only [List.map_cons, ih]
    · exact ih _
theorem place_map (rows : List Row) (n : Nat) : (place rows n).map (·.2.1) = rows.map (·.2.1) := by
  induction rows generalizing n with
  | nil => rfl
  | cons p r ih => obtain ⟨k, t, u⟩ := p; simp only [place, List.map_cons, ih]
theorem place_length (rows : List Row) (n : Nat) : (place rows n).length = rows.length := by
  induction rows generalizing n with
  | nil => rfl
  | cons p r ih => obtain ⟨k, t, u⟩ := p; simp only [place, List.length_cons, ih]
theorem spc_filter (P : Str → Bool) (hP : P (Str.ofString "gap") = false) : ∀ l : List Row, (spc l).filter (fun p => P p.1) = l.filter fun p => P p.1
  | [] => rfl
  | [p] => rfl
  | p :: q :: r => by
    have ih := spc_filter P hP (q :: r)
    have e : spc (p :: q :: r) = p :: gapR (Str.ofString " ") :: spc (q :: r) := rfl
    have hg : P (gapR (Str.ofString " ")).1 = false := hP
    rw [e, List.filter_cons, List.filter_cons (x := gapR _), hg, if_neg (show ¬ false = true from Bool.noConfusion), ih, List.filter_cons (x := p)]
theorem app_codes (a b : Str) : (a ++ b).cps.toList = a.cps.toList ++ b.cps.toList := Array.toList_append
theorem join_codes (l : List Row) : (Str.join (Str.ofString " ") (l.map (·.2.1))).cps.toList = flat (spc l) := by
  match l with
  | [] => rfl
  | [p] => obtain ⟨k, t, u⟩ := p; show t.cps.toList = t.cps.toList ++ []; rw [List.append_nil]
  | p :: q :: r =>
    have ih := join_codes (q :: r)
    obtain ⟨k, t, u⟩ := p
    show ((t ++ Str.ofString " ") ++ Str.join (Str.ofString " ") ((q :: r).map (·.2.1))).cps.toList = t.cps.toList ++ ((Str.ofString " ").cps.toList ++ flat (spc (q :: r)))
    rw [app_codes, app_codes, ih, List.append_assoc]
theorem join0_codes (l : List Row) : (Str.join (Str.ofString "") (l.map (·.2.1))).cps.toList = flat l := by
  match l with
  | [] => rfl
  | [p] => obtain ⟨k, t, u⟩ := p; show t.cps.toList = t.cps.toList ++ []; rw [List.append_nil]
  | p :: q :: r =>
    have ih := join0_codes (q :: r)
    obtain ⟨k, t, u⟩ := p
    show ((t ++ Str.ofString "") ++ Str.join (Str.ofString "") ((q :: r).map (·.2.1))).cps.toList = t.cps.toList ++ flat (q :: r)
    rw [app_codes, app_codes, ih, show (Str.ofString "").cps.toList = [] from by decide, List.append_nil]
end
section
open PySem PySem.W PyProof.Rows PySem.Spec PySem.Calls PySem.Builtin PySem.Builtin.Str
/-- the tokens one after the other, and the end -/
inductive Chain (S : Str) : Nat → List (Str × Nat) → Prop
  | done {p b n : Nat} : Takes S p (Str.ofString "eof") b n → Chain S p []
  | tok {p b n : Nat} {k : Str} {r : List (Str × Nat)} : Takes S p k b n → Chain S n r → Chain S p ((k, b) :: r)
section
variable {S : Str}
theorem takes_gap {p d b n : Nat} {k : Str} (h : Takes S (p + 1) k b n) (hs : suf S p = d :: suf S (p + 1)) (hd : d ≤ 32) : Takes S p k b n := by
  cases h with
  | tok a c => exact .tok (.gap hs hd a) c
  | bad a c d e f g i => exact .bad (.gap hs hd a) c d e f g i
theorem takes_rem {p b n : Nat} {k : Str} (h : Takes S (remTo S p) k b n) (hs : (suf S p).take 2 = [40, 42]) : Takes S p k b n := by
  cases h with
  | tok a c => exact .tok (.rem hs a) c
  | bad a c d e f g i => exact .bad (.rem hs a) c d e f g i
theorem takes_eof {p : Nat} (h : suf S p = []) : Takes S p (Str.ofString "eof") p p :=
  .tok (.stop (by rw [h]; exact List.cons_ne_nil _ _ |>.symm) (by rw [h]; exact fun _ h => nomatch h)) (.eof (suf_nil h))
theorem chain_gap {p d : Nat} {r : List (Str × Nat)} (h : Chain S (p + 1) r) (hs : suf S p = d :: suf S (p + 1)) (hd : d ≤ 32) : Chain S p r := by
  cases h with
  | done a => exact .done (takes_gap a hs hd)
  | tok a b => exact .tok (takes_gap a hs hd) b
theorem chain_rem {p : Nat} {r : List (Str × Nat)} (h : Chain S (remTo S p) r) (hs : (suf S p).take 2 = [40, 42]) : Chain S p r := by
  cases h with
  | done a => exact .done (takes_rem a hs)
  | tok a b => exact .tok (takes_rem a hs) b
theorem chain_gaps {r : List (Str × Nat)} {l : List Nat} : ∀ (t : List Nat) (p : Nat), t.all gapC = true → suf S p = t ++ l → Chain S (p + t.length) r → Chain S p r := by
  intro t
  induction t with
  | nil => intro p _ _ h; exact h
  | cons c t ih =>
    intro p ha hs h
    rw [List.all_cons, Bool.and_eq_true] at ha
    obtain ⟨e1, _⟩ := suf_cons (show suf S p = c :: (t ++ l) from hs)
    refine chain_gap (ih (p + 1) ha.2 e1 ?_) (by rw [hs, e1]; rfl) (of_decide_eq_true ha.1)
    rw [List.length_cons] at h
    rw [show p + 1 + t.length = p + (t.length + 1) by omega]; exact h
theorem solid_no {k k' : Str} (e : k' = k) (hk : k ∈ solidK) (h : ¬ k' ∈ solidK) {P : Prop} : P := absurd (e ▸ hk) h
theorem no_stray : ¬ Str.ofString "stray" ∈ solidK := by decide
theorem no_remark : ¬ Str.ofString "remark" ∈ solidK := by decide
theorem take_of {n : Nat} {k t u : Str} {l : List Nat} (h : RowOk k t u l) (hs : suf S n = t.cps.toList ++ l) : Skips S n n ∧ TakeAt S n u n (n + t.length) := by
  obtain ⟨h0, h32, hk, hi, hu⟩ := h
  obtain ⟨e1, e2⟩ := suf_app hs
  have hc : ∃ c r, suf S n = c :: r ∧ 32 < c := by
    cases e : t.cps.toList with
    | nil => rw [e] at h32; exact absurd h32 (by decide)
    | cons c r => rw [e] at h32 hs; exact ⟨c, _, hs, h32⟩
  rw [← hs] at hi hu
  obtain ⟨c, r, hc, hcc⟩ := hc
  have ho : (sub S n (n + 1)).cps.toList = [c] := by rw [sub_one, hc]; rfl
  have hlet : isLet (sub S n (n + 1)) = letC c := isLet_one ho
  have hdig : isDig (sub S n (n + 1)) = digC c := isDig_one ho
  have hq : (sub S n (n + 1) == Str.ofString "\"") = decide (c = 34) := by rw [str_eq l_qu, ho]; simp
  have hhd : (suf S n).headD 0 = c := by rw [hc]; rfl
  unfold itemL at hi
  simp only [hhd] at hi
  rw [if_neg (by omega)] at hi
  have n2 : ¬ (suf S n).take 2 = [40, 42] := by
    intro h2
    rw [if_pos h2] at hi
    split at hi
    · first | exact solid_no (congrArg Prod.fst hi) hk no_stray | exact solid_no (congrArg Prod.fst hi) hk no_remark
    · first | exact solid_no (congrArg Prod.fst hi) hk no_stray | exact solid_no (congrArg Prod.fst hi) hk no_remark
  rw [if_neg n2] at hi
  refine ⟨.stop n2 (by rw [hc]; intro d hd; cases hd; exact hcc), ?_⟩
  by_cases a1 : letC c = true
  · rw [if_pos a1] at hi
    have ek := congrArg Prod.fst hi
    have el := congrArg Prod.snd hi
    simp only at ek el
    have T := TakeAt.word (S := S) (q := n) (by rw [hlet]; exact a1)
    have ew : isKw ((suf S n).take (run wordC (suf S n))) = (kwords.any fun z => z == t) := by
      unfold isKw
      rw [← sub_take, el, e2]
    rw [el, e2] at T
    rw [ew] at ek
    rw [← ek] at hu
    rw [← hu]
    by_cases hw : (kwords.any fun z => z == t) = true
    · rw [if_pos hw] at T
      rw [if_pos hw]; unfold tokOf; rw [if_pos rfl]; exact T
    · rw [if_neg hw] at T
      rw [if_neg hw]; unfold tokOf; rw [if_neg (by decide), if_pos rfl]; exact T
  rw [if_neg a1] at hi
  rw [Bool.not_eq_true] at a1
  by_cases a2 : digC c = true
  · rw [if_pos a2] at hi
    have ek := congrArg Prod.fst hi
    have el := congrArg Prod.snd hi
    simp only at ek el
    have T := TakeAt.num (S := S) (q := n) (by rw [hlet]; exact a1) (by rw [hdig]; exact a2)
    rw [num_l, el] at T
    rw [← ek, tok_num] at hu
    have eX : numKind S n = u := by
      unfold numKind tIs
      rw [one_dec S _ "X" l_X, suf_add, ← hu]
      by_cases hx : ((suf S n).drop (run hexC (suf S n))).take 1 = [88]
      · rw [if_pos hx, if_pos (decide_eq_true hx)]
      · rw [if_neg hx, if_neg (by rw [decide_eq_false hx]; exact Bool.noConfusion)]
    rw [eX] at T; exact T
  rw [if_neg a2] at hi
  rw [Bool.not_eq_true] at a2
  by_cases a3 : c = 34
  · rw [if_pos a3] at hi
    have es : suf S (n + 1) = (suf S n).tail := by rw [suf_add, List.drop_one]
    split at hi
    · first | exact solid_no (congrArg Prod.fst hi) hk no_stray | exact solid_no (congrArg Prod.fst hi) hk no_remark
    · rename_i m hm
      have ek := congrArg Prod.fst hi
      have el := congrArg Prod.snd hi
      simp only at ek el
      have T := TakeAt.str (S := S) (q := n) (by rw [hlet]; exact a1) (by rw [hdig]; exact a2) (by rw [hq]; exact decide_eq_true a3)
      have eX : strAt S (n + 1) = n + t.length := by
        unfold strAt
        rw [es, hm, ← el]
        show n + 1 + m = _
        omega
      rw [eX] at T
      rw [← ek] at hu
      rw [← hu]; unfold tokOf
      rw [if_neg (by decide), if_neg (by decide), if_neg (by decide), if_pos rfl]; exact T
  rw [if_neg a3] at hi
  by_cases a4 : 0 < signLen (suf S n)
  · rw [if_pos a4] at hi
    have ek := congrArg Prod.fst hi
    have el := congrArg Prod.snd hi
    simp only at ek el
    have T := TakeAt.sign (S := S) (q := n) (by rw [hlet]; exact a1) (by rw [hdig]; exact a2) (by rw [hq]; exact decide_eq_false a3) a4
    rw [el, e2] at T
    rw [← ek] at hu
    rw [← hu]; unfold tokOf
    rw [if_neg (by decide), if_neg (by decide), if_neg (by decide), if_neg (by decide)]; exact T
  · rw [if_neg a4] at hi
    first | exact solid_no (congrArg Prod.fst hi) hk no_stray | exact solid_no (congrArg Prod.fst hi) hk no_remark
theorem tok_ne {k t u : Str} {l : List Nat} (h : RowOk k t u l) : u ≠ Str.ofString "" := by
  obtain ⟨h0, _, _, _, hu⟩ := h
  have ht : t ≠ Str.ofString "" := fun e => by rw [e] at h0; exact absurd h0 (by decide)
  rw [← hu]; unfold tokOf
  split
  · exact ht
  split
  · decide
  split
  · split <;> decide
  split
  · decide
  · exact ht
theorem bad_eof {n c : Nat} (hs : suf S n = [c]) (hc : c = 36 ∨ c = 95) : Chain S n [] := by
  have ho : (sub S n (n + 1)).cps.toList = [c] := by rw [sub_one, hs]; rfl
  obtain ⟨e1, e2⟩ := suf_cons (show suf S n = c :: [] from hs)
  have h1 : isLet (sub S n (n + 1)) = false := by rw [isLet_one ho]; rcases hc with rfl | rfl <;> decide
  have h2 : isDig (sub S n (n + 1)) = false := by rw [isDig_one ho]; rcases hc with rfl | rfl <;> decide
  have h3 : (sub S n (n + 1) == Str.ofString "\"") = false := by rw [str_eq l_qu, ho]; rcases hc with rfl | rfl <;> decide
  have h4 : signLen (suf S n) = 0 := by rw [hs]; rcases hc with rfl | rfl <;> decide
  refine .done (.bad (.stop ?_ ?_) e2 h1 h2 h3 h4 (takes_eof e1))
  · rw [hs]; exact fun h => by cases h
  · rw [hs]; intro d hd; cases hd; rcases hc with rfl | rfl <;> decide
theorem open_str {n : Nat} {l : List Nat} (hs : suf S n = 34 :: l) (hl : l = [] ∨ l = [97, 98]) : Chain S n [(Str.ofString "string", n)] := by
  have ho : (sub S n (n + 1)).cps.toList = [34] := by rw [sub_one, hs]; rfl
  obtain ⟨e1, e2⟩ := suf_cons hs
  have h1 : isLet (sub S n (n + 1)) = false := by rw [isLet_one ho]; decide
  have h2 : isDig (sub S n (n + 1)) = false := by rw [isDig_one ho]; decide
  have h3 : (sub S n (n + 1) == Str.ofString "\"") = true := by rw [str_eq l_qu, ho]; decide
  have h4 : strAt S (n + 1) = n + 1 + l.length := by
    unfold strAt
    rw [e1]
    rcases hl with rfl | rfl
    · rfl
    · rfl
  refine .tok (.tok (.stop ?_ ?_) (.str h1 h2 h3)) (.done (takes_eof ?_))
  · rw [hs]; rcases hl with rfl | rfl
    · exact fun h => by cases h
    · exact fun h => by cases h
  · rw [hs]; intro d hd; cases hd; decide
  · rw [h4, suf_add, e1]; exact List.drop_length
theorem open_rem {n : Nat} (hs : suf S n = [40, 42, 32, 120] ∨ suf S n = [40, 42, 40, 42, 42, 41]) : Chain S n [] := by
  refine chain_rem (.done (b := S.length) (n := S.length) ?_) (by rcases hs with hs | hs <;> rw [hs] <;> rfl)
  have h : remTo S n = S.length := by
    unfold remTo
    rcases hs with hs | hs
    · rw [hs, show rem 0 [40, 42, 32, 120] = none by decide +kernel]
    · rw [hs, show rem 0 [40, 42, 40, 42, 42, 41] = none by decide +kernel]
  rw [h]
  exact takes_eof (suf_none (Nat.le_refl _))
theorem tails_codes : ∀ p ∈ tails, p.1 ≠ Str.ofString "" → (p.2 = Str.ofString "" ∧ (p.1.cps.toList = [36] ∨ p.1.cps.toList = [95] ∨ p.1.cps.toList = [40, 42, 32, 120] ∨ p.1.cps.toList = [40, 42, 40, 42, 42, 41])) ∨ (p.2 = Str.ofString "string" ∧ (p.1.cps.toList = [34] ∨ p.1.cps.toList = [34, 97, 98])) := by decide +kernel
theorem Law.chain {rows : List Row} (h : Law rows) : ∀ n, suf S n = flat rows → Chain S n (toks rows n) := by
  induction h with
  | nil => intro n hs; exact .done (takes_eof hs)
  | @stray t u ht hn =>
    intro n hs
    have hs' : suf S n = t.cps.toList ++ [] := hs
    rw [List.append_nil] at hs'
    have et : toks [(Str.ofString "stray", t, u)] n = if u = Str.ofString "" then [] else [(u, n)] := by
      show (if u = Str.ofString "" then [] else [(u, n)]) ++ [] = _
      rw [List.append_nil]
    rw [et]
    rcases tails_codes _ ht hn with ⟨hu, h⟩ | ⟨hu, h⟩
    · simp only at hu h
      rw [if_pos hu]
      rcases h with h | h | h | h
      · exact bad_eof (hs'.trans h) (.inl rfl)
      · exact bad_eof (hs'.trans h) (.inr rfl)
      · exact open_rem (.inl (hs'.trans h))
      · exact open_rem (.inr (hs'.trans h))
    · simp only at hu h
      rw [hu, if_neg (by decide)]
      rcases h with h | h
      · exact open_str (hs'.trans h) (.inl rfl)
      · exact open_str (hs'.trans h) (.inr rfl)
  | @solid k t u r h _ ih =>
    intro n hs
    have hs' : suf S n = t.cps.toList ++ flat r := hs
    obtain ⟨a, b⟩ := take_of h hs'
    show Chain S n ((if u = Str.ofString "" then [] else [(u, n)]) ++ toks r (n + t.length))
    rw [if_neg (tok_ne h)]
    exact .tok (.tok a b) (ih _ (suf_app hs').1)
  | @gap g r hg _ _ ih =>
    intro n hs
    have hs' : suf S n = g.cps.toList ++ flat r := hs
    have h2 := ih _ (suf_app hs').1
    rw [← len_codes] at h2
    show Chain S n ((if Str.ofString "" = Str.ofString "" then [] else [(Str.ofString "", n)]) ++ toks r (n + g.length))
    rw [if_pos rfl, List.nil_append, ← len_codes]
    exact chain_gaps _ _ (gaps_ok g hg).1 hs' h2
  | @rmk m r hm _ ih =>
    intro n hs
    have hs' : suf S n = m.cps.toList ++ flat r := hs
    have h2 := ih _ (suf_app hs').1
    show Chain S n ((if Str.ofString "" = Str.ofString "" then [] else [(Str.ofString "", n)]) ++ toks r (n + m.length))
    rw [if_pos rfl, List.nil_append]
    obtain ⟨l, hl, e⟩ := rmks_ok m hm
    obtain ⟨a, b, c⟩ := rmk_rem (r := flat r) hl
    rw [e] at hs'
    refine chain_rem ?_ (by rw [hs']; exact b)
    have hr : remTo S n = n + m.length := by
      unfold remTo
      rw [hs', a]
      show n + l.length = _
      rw [← len_codes, e]
    rw [hr]; exact h2
end
end
section
open PySem PySem.W PyProof.Rows PySem.Spec PySem.Calls PySem.Builtin PySem.Builtin.Str
theorem drop_one_lt {l : List Nat} {k c : Nat} (h : (l.drop k).take 1 = [c]) : k + 1 ≤ l.length := by
  have h1 := congrArg List.length h
  rw [List.length_take, List.length_drop, List.length_singleton] at h1
  omega
theorem run_drop (P : Nat → Bool) (l : List Nat) {k : Nat} (hk : k ≤ l.length) : k + run P (l.drop k) ≤ l.length := by
  have h := run_le P (l.drop k)
  rw [List.length_drop] at h; omega
theorem hxL_lt {l : List Nat} {k : Nat} (h : hxL (l.drop k) = true) : k + 1 ≤ l.length := by
  unfold hxL at h
  rw [Bool.or_eq_true] at h
  rcases h with h | h
  · exact drop_one_lt (of_decide_eq_true h)
  · exact drop_one_lt (of_decide_eq_true h)
theorem pmL_lt {l : List Nat} {k : Nat} (h : pmL (l.drop k) = true) : k + 1 ≤ l.length := by
  unfold pmL at h
  rw [Bool.or_eq_true] at h
  rcases h with h | h
  · exact drop_one_lt (of_decide_eq_true h)
  · exact drop_one_lt (of_decide_eq_true h)
theorem numL_le (l : List Nat) : numL l ≤ l.length := by
  unfold numL
  have hd := run_le digC l
  split
  · rename_i h; exact hxL_lt h
  split
  · exact hd
  rename_i h1
  have h1' : (l.drop (run digC l)).take 1 = [46] := of_decide_eq_true (by simpa using h1)
  split
  · exact hd
  have h2 := drop_one_lt h1'
  have h3 := run_drop digC l h2
  dsimp only
  split
  · exact h3
  rename_i h4
  have h4' : (l.drop (run digC l + 1 + run digC (l.drop (run digC l + 1)))).take 1 = [69] := of_decide_eq_true (by simpa using h4)
  have h5 := drop_one_lt h4'
  split
  · rename_i h6
    have h7 := pmL_lt h6
    split
    · exact h3
    · exact run_drop digC l h7
  · split
    · exact h3
    · exact run_drop digC l h5
theorem strGo_le : ∀ (l : List Nat) (k : Nat), strGo l = some k → k ≤ l.length
  | [], k, h => by cases h
  | c :: r, k, h => by
    rw [strGo] at h
    split at h
    · cases h
    split at h
    · cases h; simp
    · cases h1 : strGo r with
      | none => rw [h1] at h; cases h
      | some j =>
        rw [h1] at h
        have := strGo_le r j h1
        simp only [Option.map_some, Option.some.injEq] at h
        simp only [List.length_cons]; omega
theorem suf_len (S : Str) (n : Nat) : (suf S n).length = S.length - n := by
  rw [List.length_drop, Array.length_toList]; rfl
theorem TakeAt.le {S : Str} {q n b : Nat} {k : Str} (h : TakeAt S q k b n) (hq : q ≤ S.length) : n ≤ S.length := by
  have hs := suf_len S q
  cases h with
  | eof _ => exact hq
  | word _ => exact run_len wordC S q hq
  | num _ _ =>
    rw [num_l]
    have := numL_le (suf S q)
    omega
  | str _ _ h =>
    have h1 := (one_is (x := S) (c := q) l_qu h).2
    unfold strAt
    have hs2 := suf_len S (q + 1)
    split
    · rename_i k hk
      have := strGo_le _ _ hk
      omega
    · have := run_le rowC (suf S (q + 1))
      omega
  | sign _ _ _ _ =>
    have := sign_fit (suf S q)
    omega
theorem Takes.le {S : Str} {p n b : Nat} {k : Str} (h : Takes S p k b n) (hp : p ≤ S.length) : n ≤ S.length := by
  induction h with
  | tok a c => exact c.le (a.le hp).2
  | bad a c _ _ _ _ _ ih => exact ih c
theorem Chain.tok' {S : Str} {p b : Nat} {k : Str} {r : List (Str × Nat)} (h : Chain S p ((k, b) :: r)) : ∃ n, Takes S p k b n ∧ Chain S n r := by
  cases h with
  | tok a c => exact ⟨_, a, c⟩
theorem Chain.done' {S : Str} {p : Nat} (h : Chain S p []) : ∃ b n, Takes S p (Str.ofString "eof") b n := by
  cases h with
  | done a => exact ⟨_, _, a⟩
theorem paired_get {α β : Type} {R : α → β → Prop} {l₁ : List α} {l₂ : List β} (h : Paired R l₁ l₂) : ∀ {i : Nat} {a : α}, l₁[i]? = some a → ∃ b r, l₂.drop i = b :: r ∧ l₂.drop (i + 1) = r ∧ R a b := by
  induction h with
  | nil => intro i a e; simp at e
  | @cons a b l₁ l₂ r _ ih =>
    intro i a' e
    cases i with
    | zero =>
      simp only [List.getElem?_cons_zero, Option.some.injEq] at e
      subst e
      exact ⟨b, l₂, rfl, rfl, r⟩
    | succ i =>
      rw [List.getElem?_cons_succ] at e
      obtain ⟨b', r', e1, e2, e3⟩ := ih e
      exact ⟨b', r', e1, e2, e3⟩
/-- the second reading: the source with the gaps made single -/
theorem spaced_law {i : Nat} {rows : List Row} {x y : Str} (hT : Turns i rows) (htl : (x, y) ∈ tails) : Law (spc ((rows ++ tailR x y).filter noGap)) := by
  rw [List.filter_append, tailR_noGap]
  exact (spc_law htl _ hT.sol).1
end
section
open PySem PySem.W PyProof.Rows PySem.Spec PySem.Calls
theorem kstH {h₀ : Heap} {L : Addr} {h : Heap} {ps : List (Str × Value)} {m₁ : Str → Option Value} (h1 : ∀ p ∈ ps, m₁ p.1 = some p.2) (F : Fr h₀ L h m₁) : Fr h₀ L h (kstB m₁ ps) := by
  have em : kstB m₁ ps = m₁ := funext fun y => kstB_eq h1 fun _ => rfl
  rw [em]; exact F
theorem kstH_fr {h₀ : Heap} {L : Addr} {h : Heap} {x : Str} {v : Value} {ps : List (Str × Value)} {m₁ : Str → Option Value} (h1 : ∀ p ∈ ps, m₁ p.1 = some p.2) (F : Fr h₀ L h (fun y => if y = x then some v else m₁ y)) : Fr h₀ L h (fun y => if y = x then some v else kstB m₁ ps y) := by
  have em : (fun y => if y = x then some v else kstB m₁ ps y) = fun y => if y = x then some v else m₁ y := funext fun y => by
    rw [kstB_eq h1 fun _ => rfl]
  rw [em]; exact F
/-- a turn's end of a for loop whose ledger may grow -/
noncomputable def HEnd {σ : Type} (h₀ : Heap) (L : Addr) (Led : σ → List (Addr × Obj)) (ps : σ → List (Str × Value)) (P : Nat → σ → Prop) (I : Addr) (o : Obj) (i : Nat) (s₁ s₂ : Shared) : Prop :=
  ∃ c' h' tk m' news', s₂ = { s₁ with heap := h', toks := tk } ∧ Fr h₀ L h' m' ∧ News h₀ L h' news' ∧ (∀ p ∈ Led c', p ∈ news') ∧ (I, o) ∈ news' ∧ (∀ p ∈ Led c', p.1 ≠ I) ∧
    (∀ p ∈ ps c', m' p.1 = some p.2) ∧ P i c'
noncomputable def HPost {σ : Type} (h₀ : Heap) (L : Addr) (Led : σ → List (Addr × Obj)) (ps : σ → List (Str × Value)) (P : Nat → σ → Prop) (I : Addr) (o : Obj) (i : Nat) (s₁ : Shared) (Q : Flow → Shared → Prop) (f : Flow) (s₂ : Shared) : Prop :=
  match f with
  | .ret v => Q (.ret v) s₂
  | .brk => Q .next s₂
  | _ => HEnd h₀ L Led ps P I o i s₁ s₂
theorem HEnd.intro {σ : Type} {h₀ : Heap} {L : Addr} {Led : σ → List (Addr × Obj)} {ps : σ → List (Str × Value)} {P : Nat → σ → Prop} {I : Addr} {o : Obj} {i : Nat} {s₁ : Shared} {h' : Heap} {tk : Nat} {m' : Str → Option Value} {news' : List (Addr × Obj)} (c' : σ)
    (F : Fr h₀ L h' m') (N : News h₀ L h' news') (h1 : ∀ p ∈ Led c', p ∈ news') (h2 : (I, o) ∈ news') (h3 : ∀ p ∈ Led c', p.1 ≠ I) (h4 : ∀ p ∈ ps c', m' p.1 = some p.2) (h6 : P i c') :
    HEnd h₀ L Led ps P I o i s₁ { s₁ with heap := h', toks := tk } := ⟨c', h', tk, m', news', rfl, F, N, h1, h2, h3, h4, h6⟩
section
variable {prog : Program} {w : World} {A : Around} {E : Value → Shared → Prop} {s : Shared} {env : Env} {h₀ : Heap} {x : Str} {body : List Stmt} {Q : Flow → Shared → Prop}
theorem loop_h {σ : Type} {I : Addr} {fp : List Addr} {n : Nat} {Pv : Nat → Value → Prop} {St : Nat → Heap → Prop} {m₀ : Str → Option Value} (Led : σ → List (Addr × Obj)) (ps : σ → List (Str × Value)) (P : Nat → σ → Prop) (c₀ : σ) (keep : List (Addr × Obj))
    (W : Walks prog w A I fp [I] n Pv St) (hfp : fp = I :: keep.map (·.1)) (hkeep : ∀ c : σ, ∀ p ∈ keep, p ∈ Led c) (hst : ∀ i h, St i h → ∃ o, h.get? I = some o) (hI : h₀.get? I = none) (hLf : env.locals ∉ fp) (h0 : ∀ p ∈ Led c₀, p.1 ≠ I) (hst0 : St 0 s.heap)
    (F : Fr h₀ env.locals s.heap m₀) (N : News h₀ env.locals s.heap (Led c₀)) (hk : ∀ p ∈ ps c₀, m₀ p.1 = some p.2) (hp : P 0 c₀)
    (turn : ∀ (c : σ) i v (u : Str → Option Value) h tk o, i < n → Pv i v → (∀ p ∈ Led c, p.1 ≠ I) → P i c →
      Fr h₀ env.locals h (fun y => if y = x then some v else kstB u (ps c) y) → News h₀ env.locals h (Led c ++ [(I, o)]) →
      wpAny (model prog w) A (execs body env) (HPost h₀ env.locals Led ps P I o (i + 1) { s with heap := h, toks := tk } Q) E { s with heap := h, toks := tk })
    (done : ∀ (c : σ) (u : Str → Option Value) h tk, P n c → Fr h₀ env.locals h (kstB u (ps c)) → News h₀ env.locals h (Led c) → Q .next { s with heap := h, toks := tk }) :
    LoopAtV prog w A h₀ env x body Q E (.ref I) s := by
  refine ⟨I, fp, [I], n, Pv, St, m₀, Led c₀, (fun i m nx => ∃ c : σ, nx = Led c ∧ (∀ p ∈ ps c, m p.1 = some p.2) ∧ P i c), rfl, W, hLf, ?_, ?_, hst0, F, N, ⟨c₀, rfl, hk, hp⟩, ?_, ?_⟩
  · intro b hb; rw [List.mem_singleton.mp hb]; exact hI
  · intro p hp' hm; exact h0 p hp' (List.mem_singleton.mp hm)
  · rintro i v m₁ news₁ s₁ own ⟨hh', tk', rfl⟩ hin hP ⟨c, rfl, h1, hJ⟩ hoff hofp hget hown hst₁ F₁ N₁
    obtain ⟨o, ho⟩ := hst _ _ hst₁
    have hIo : (I, o) ∈ own := hown I (by rw [hfp]; exact .head _) hI o ho
    have hne : ∀ p ∈ Led c, p.1 ≠ I := fun p hp' e => hoff p hp' (by rw [e]; exact .head _)
    refine wpAny_mono (turn c i v m₁ hh' tk' o hin hP hne hJ (kstH_fr h1 F₁) (fun p hp' => ?_)) (fun f s₂ q => ?_) fun _ _ e => e
    · rcases List.mem_append.mp hp' with hp' | hp'
      · exact N₁ p (List.mem_append_right _ hp')
      · rw [List.mem_singleton.mp hp']; exact N₁ _ (List.mem_append_left _ hIo)
    have fin : HEnd h₀ env.locals Led ps P I o (i + 1) { s with heap := hh', toks := tk' } s₂ → LoopStepU h₀ env.locals [I] own (fun m nx => ∃ c : σ, nx = Led c ∧ (∀ p ∈ ps c, m p.1 = some p.2) ∧ P (i + 1) c) { s with heap := hh', toks := tk' } .next s₂ := by
      rintro ⟨c', h', tk, m', news', rfl, H9⟩
      have F' := H9.1
      have N' := H9.2.1
      have hn := H9.2.2.1
      have ho' := H9.2.2.2.1
      have ha := H9.2.2.2.2.1
      have k1 := H9.2.2.2.2.2.1
      have hm := H9.2.2.2.2.2.2
      clear H9
      refine ⟨rfl, h', tk, m', Led c', rfl, F', fun p hp' => ?_, fun p hp' hq => ha p hp' (List.mem_singleton.mp hq), c', rfl, k1, hm⟩
      rcases List.mem_append.mp hp' with hp' | hp'
      · have e1 := hofp p hp'
        rw [hfp] at e1
        rcases List.mem_cons.mp e1 with e | e
        · have e2 := hget p hp'
          rw [e] at e2
          have e3 : o = p.2 := Option.some.inj (ho.symm.trans e2)
          have e4 : p = (I, o) := by rw [e3, ← e]
          rw [e4]; exact N' _ ho'
        · obtain ⟨q, hq1, hq2⟩ := List.mem_map.mp e
          have e2 := hget p hp'
          have e3 := (N₁ q (List.mem_append_right _ (hkeep c q hq1))).1
          rw [hq2] at e3
          have e4 : p = q := by
            obtain ⟨p1, p2⟩ := p; obtain ⟨q1, q2⟩ := q
            simp only at hq2 e2 e3
            rw [← hq2] at e2 e3
            rw [hq2.symm, Option.some.inj (e2.symm.trans e3)]
          rw [e4]
          exact N' _ (hn _ (hkeep c' q hq1))
      · exact N' _ (hn p hp')
    cases f with
    | ret v => exact .ret q
    | brk => exact .brk q
    | next => exact .next (fin q)
    | cont => exact .cont (fin q)
  · rintro h' tk m' news' F' N' _ ⟨c, rfl, h1, hJ⟩
    exact done c m' h' tk hJ (kstH h1 F') N'
theorem for_listH {σ : Type} {l : Addr} {ol : Obj} {vs : List Value} {m₀ : Str → Option Value} (Led : σ → List (Addr × Obj)) (ps : σ → List (Str × Value)) (P : Nat → σ → Prop) (c₀ : σ)
    (hh : A.handled = none) (lo : ListOb ol vs) (hl : ∀ c : σ, (l, ol) ∈ Led c) (F : Fr h₀ env.locals s.heap m₀) (N : News h₀ env.locals s.heap (Led c₀)) (hk : ∀ p ∈ ps c₀, m₀ p.1 = some p.2) (hp : P 0 c₀)
    (turn : ∀ (c : σ) i v (u : Str → Option Value) h tk I o, vs[i]? = some v → (∀ p ∈ Led c, p.1 ≠ I) → P i c →
      Fr h₀ env.locals h (fun y => if y = x then some v else kstB u (ps c) y) → News h₀ env.locals h (Led c ++ [(I, o)]) →
      wpAny (model prog w) A (execs body env) (HPost h₀ env.locals Led ps P I o (i + 1) { s with heap := h, toks := tk } Q) E { s with heap := h, toks := tk })
    (done : ∀ (c : σ) (u : Str → Option Value) h tk, P vs.length c → Fr h₀ env.locals h (kstB u (ps c)) → News h₀ env.locals h (Led c) → Q .next { s with heap := h, toks := tk }) :
    wpAny (model prog w) A (pyIter (.ref l)) (fun it s₂ => LoopAtV prog w A h₀ env x body Q E it s₂) E s := by
  have hol := (N _ (hl c₀)).1
  have hls : s.heap.IsList l vs.toArray := lo.isList hol
  have hne : l ≠ s.heap.objs.size := Nat.ne_of_lt (Heap.lt_size hol)
  refine wpAny_pyIter_list hls ?_
  have W := Walks.list (prog := prog) (w := w) hh s.heap.objs.size l hne vs.toArray
  refine loop_h (s := { s with heap := s.heap.push { cls := .type "list_iterator", data := .fields #[.ref l, .int 0 0] } }) Led ps P c₀ [(l, ol)] W rfl (fun c p hp' => by rw [List.mem_singleton.mp hp']; exact hl c) (fun i h hs => ?_) (next_is_new F) ?_ ?_
    ⟨⟨_, Heap.get?_push_size _ rfl, rfl, rfl⟩, hls.at fun o e => Heap.get?_push_of_some _ e⟩ (F.push _) (fun p hp => ⟨Heap.get?_push_of_some _ (N p hp).1, (N p hp).2⟩) hk hp ?_ ?_
  · obtain ⟨⟨o, ho, _⟩, _⟩ := hs
    exact ⟨o, ho⟩
  · intro hm
    rcases List.mem_cons.mp hm with e | hm
    · exact absurd F.ns.lt (e ▸ Nat.lt_irrefl _)
    · exact (N _ (hl c₀)).2.1 ((List.mem_singleton.mp hm).symm)
  · intro p hp' e
    exact absurd (Heap.lt_size (N p hp').1) (e ▸ Nat.lt_irrefl _)
  · intro c i v u h tk o hi hv hne' hP F' N'
    exact turn c i v u h tk _ o (by simpa using hv) hne' hP F' N'
  · intro c u h tk hP F' N'
    rw [List.size_toArray] at hP
    exact done c u h tk hP F' N'
theorem for_rangeH {σ : Type} {r : Addr} {a₀ b₀ : Int} {t₀ u₀ v₀ : Tok} {n : Nat} {m₀ : Str → Option Value} (Led : σ → List (Addr × Obj)) (ps : σ → List (Str × Value)) (P : Nat → σ → Prop) (c₀ : σ)
    (hh : A.handled = none) (hr : IsRange s.heap r a₀ b₀ 1 t₀ u₀ v₀) (hsmall : Builtin.Range.small a₀ b₀ 1 = true) (hn : Builtin.Range.rangeSize a₀ b₀ 1 = (n : Int)) (F : Fr h₀ env.locals s.heap m₀) (N : News h₀ env.locals s.heap (Led c₀)) (hk : ∀ p ∈ ps c₀, m₀ p.1 = some p.2) (hp : P 0 c₀)
    (turn : ∀ (c : σ) (i : Nat) t (u : Str → Option Value) h tk I o, i < n → (∀ p ∈ Led c, p.1 ≠ I) → P i c →
      Fr h₀ env.locals h (fun y => if y = x then some (.int (a₀ + (i : Int)) t) else kstB u (ps c) y) → News h₀ env.locals h (Led c ++ [(I, o)]) →
      wpAny (model prog w) A (execs body env) (HPost h₀ env.locals Led ps P I o (i + 1) { s with heap := h, toks := tk } Q) E { s with heap := h, toks := tk })
    (done : ∀ (c : σ) (u : Str → Option Value) h tk, P n c → Fr h₀ env.locals h (kstB u (ps c)) → News h₀ env.locals h (Led c) → Q .next { s with heap := h, toks := tk }) :
    wpAny (model prog w) A (pyIter (.ref r)) (fun it s₂ => LoopAtV prog w A h₀ env x body Q E it s₂) E s := by
  refine wpAny_pyIter_range hr hsmall ?_
  have W := Walks.range (prog := prog) (w := w) (A := A) hh s.heap.objs.size a₀ 1 n
  refine loop_h (s := { s with heap := s.heap.push { cls := .type "range_iterator", data := .fields #[rawInt a₀, rawInt (Builtin.Range.rangeSize a₀ b₀ 1), rawInt 1] } }) Led ps P c₀ [] W rfl (fun c p hp' => nomatch hp') (fun i h hs => ⟨_, hs⟩) (next_is_new F) ?_ ?_
    (by show IsRangeIter _ _ _ _ _; rw [hn]; simpa using Heap.get?_push_size _ rfl) (F.push _) (fun p hp => ⟨Heap.get?_push_of_some _ (N p hp).1, (N p hp).2⟩) hk hp ?_ ?_
  · intro hm
    exact absurd F.ns.lt ((List.mem_singleton.mp hm) ▸ Nat.lt_irrefl _)
  · intro p hp' e
    exact absurd (Heap.lt_size (N p hp').1) (e ▸ Nat.lt_irrefl _)
  · intro c i v u h tk o hi hv hne' hP F' N'
    obtain ⟨t, rfl⟩ := hv
    rw [Int.mul_one] at *
    exact turn c i t u h tk _ o hi hne' hP F' N'
  · intro c u h tk hP F' N'
    exact done c u h tk hP F' N'
end
/-- where the ways of an if meet -/
noncomputable def JEnd {σ : Type} (h₀ : Heap) (L : Addr) (Led : σ → List (Addr × Obj)) (ps : σ → List (Str × Value)) (P : σ → Prop) (s₁ s₂ : Shared) : Prop :=
  ∃ c' h' tk m' news', s₂ = { s₁ with heap := h', toks := tk } ∧ Fr h₀ L h' m' ∧ News h₀ L h' news' ∧ (∀ p ∈ Led c', p ∈ news') ∧ (∀ p ∈ ps c', m' p.1 = some p.2) ∧ P c'
noncomputable def JPost {σ : Type} (h₀ : Heap) (L : Addr) (Led : σ → List (Addr × Obj)) (ps : σ → List (Str × Value)) (P : σ → Prop) (s₁ : Shared) (Q : Flow → Shared → Prop) (f : Flow) (s₂ : Shared) : Prop :=
  match f with
  | .next => JEnd h₀ L Led ps P s₁ s₂
  | f => Q f s₂
theorem JEnd.intro {σ : Type} {h₀ : Heap} {L : Addr} {Led : σ → List (Addr × Obj)} {ps : σ → List (Str × Value)} {P : σ → Prop} {s₁ : Shared} {h' : Heap} {tk : Nat} {m' : Str → Option Value} {news' : List (Addr × Obj)} (c' : σ)
    (F : Fr h₀ L h' m') (N : News h₀ L h' news') (h1 : ∀ p ∈ Led c', p ∈ news') (h4 : ∀ p ∈ ps c', m' p.1 = some p.2) (h6 : P c') :
    JEnd h₀ L Led ps P s₁ { s₁ with heap := h', toks := tk } := ⟨c', h', tk, m', news', rfl, F, N, h1, h4, h6⟩
theorem join_ex {σ : Type} {prog : Program} {w : World} {A : Around} {E : Value → Shared → Prop} {s : Shared} {env : Env} {h₀ : Heap} {L : Addr} {K : Flow → Shared → Prop} {st : Stmt} {m₀ : Str → Option Value} (Led : σ → List (Addr × Obj)) (ps : σ → List (Str × Value)) (P : σ → Prop) (_F : Fr h₀ L s.heap m₀)
    (h1 : wpAny (model prog w) A (exec st env) (JPost h₀ L Led ps P s K) E s)
    (h2 : ∀ (c : σ) (u : Str → Option Value) h tk, P c → Fr h₀ L h (kstB u (ps c)) → News h₀ L h (Led c) → K .next { s with heap := h, toks := tk }) :
    wpAny (model prog w) A (exec st env) K E s := by
  refine wpAny_mono h1 (fun f s' q => ?_) fun _ _ e => e
  cases f with
  | next =>
    obtain ⟨c, h', tk, m', news', rfl, H9⟩ := q
    have F' := H9.1
    have N' := H9.2.1
    have hn := H9.2.2.1
    have k1 := H9.2.2.2.1
    have hp := H9.2.2.2.2
    clear H9
    exact h2 c m' h' tk hp (kstH k1 F') fun p hp' => N' p (hn p hp')
  | _ => exact q
theorem cut_ex {σ : Type} {prog : Program} {w : World} {A : Around} {E : Value → Shared → Prop} {s : Shared} {env : Env} {h₀ h' : Heap} {tk' : Nat} {L : Addr} {K : Flow → Shared → Prop} {st : Stmt} {m₀ : Str → Option Value} {Nl : List (Addr × Obj)} (Led : σ → List (Addr × Obj)) (ps : σ → List (Str × Value)) (P : σ → Prop) (c₀ : σ)
    (F : Fr h₀ L h' m₀) (N : News h₀ L h' Nl) (hn : ∀ p ∈ Led c₀, p ∈ Nl) (hk : ∀ p ∈ ps c₀, m₀ p.1 = some p.2) (hp : P c₀)
    (h : ∀ (c : σ) (u : Str → Option Value) h tk, P c → Fr h₀ L h (kstB u (ps c)) → News h₀ L h (Led c) → wpAny (model prog w) A (exec st env) K E { s with heap := h, toks := tk }) :
    wpAny (model prog w) A (exec st env) K E { s with heap := h', toks := tk' } :=
  h c₀ m₀ h' tk' hp (kstH hk F) fun p hp' => N p (hn p hp')
theorem SpG.call {H : Heap → Prop} {f : Addr} {d u : Nat} {vs : List Value} {R : Value → List (Addr × Obj) → Prop} (C : SpG H f d u vs R)
    {w : World} {mean : ExcName → Option Value} {mg mb : Str → Option Value} {dp un : Nat} {gd : Option (List Code)} {cn : Str} {cs : Scope} {a : Addr} {ccd : Value} {cl : List (Str × Addr)} {outer : List Env} {A₀ : Around} {base h₀ : Heap} {L : Addr} {m : Str → Option Value} {s : Shared} {rest : List (Addr × Obj)} {Q E : Value → Shared → Prop}
    (hH : H h₀) (B : Below A₀ base outer h₀) (F : Fr h₀ L s.heap m) (X : (hd.heap_1 w.params).In h₀) (N : News h₀ L s.heap rest) (T : Top q0 (looseW q0 []) mean mg mb h₀)
    (hk : cs.kind = .function) (hd' : dp + d < recursionLimit) (hu : un + u < cLine)
    (ret : ∀ v own' h' tk', Fr h₀ L h' m → News h₀ L h' (own' ++ rest) → Apart own' rest → R v own' → Q v { s with heap := h', toks := tk' }) :
      wpAny (model Challenge.rw_pb0353_01.row.prog w) (ktrTop dp un gd cn cs L a ccd cl outer) (PySem.call (.ref f) vs) Q E s :=
  C w mean mg mb dp un gd cn cs a ccd cl outer A₀ base h₀ L m s rest Q E hH B F X N T hk hd' hu ret
/-- what the law's loop has built -/
structure LS where
  ws : List Value
  we : Nat
  t : Int
  tt : Tok
  ep : Nat
  S : Str
  tS : Tok
  dv : List Value
  gd : Nat
  tv : List Value
  gt : Nat
  rv : List Value
  gr : Nat
  objs : List (Addr × Obj)
noncomputable abbrev ledL (pa wl da ta ra : Nat) (c : LS) : List (Addr × Obj) := (ra, listOf c.rv.toArray c.gr) :: (ta, listOf c.tv.toArray c.gt) :: (da, listOf c.dv.toArray c.gd) :: (pa, listOf #[.ref wl, .int c.t c.tt] c.ep) :: (wl, listOf c.ws.toArray c.we) :: c.objs
noncomputable def Rw (objs : List (Addr × Obj)) (v : Value) (r : Str × Str × Nat) : Prop := ∃ T a b e, v = .ref T ∧ (T, tupObj [.str r.1 a, .str r.2.1 b, .int (r.2.2 : Nat) e]) ∈ objs
noncomputable def Pr (objs : List (Addr × Obj)) (v : Value) (r : Str × Nat) : Prop := ∃ T a e, v = .ref T ∧ (T, tupObj [.str r.1 a, .int (r.2 : Nat) e]) ∈ objs
noncomputable def rmksOf (rows : List Row) : List Str := (rows.filter fun p => p.1 == Str.ofString "remark").map (·.2.1)
structure LOk (rows : List Row) (c : LS) : Prop where
  pool : PoolOk c.ws c.t
  src : c.S.cps.toList = flat rows
  due : Paired (Rw c.objs) c.dv (place rows 0)
  tok : Paired (Pr c.objs) c.tv (toks rows 0)
  rmk : StrsAre c.rv (rmksOf rows)
noncomputable def Off (pa wl da ta ra : Nat) (objs : List (Addr × Obj)) : Prop := (∀ p ∈ objs, pa ≠ p.1) ∧ (∀ p ∈ objs, wl ≠ p.1) ∧ (∀ p ∈ objs, da ≠ p.1) ∧ (∀ p ∈ objs, ta ≠ p.1) ∧ (∀ p ∈ objs, ra ≠ p.1)
theorem Rw.mono {objs objs' : List (Addr × Obj)} (hs : ∀ p ∈ objs, p ∈ objs') (v : Value) (r : Str × Str × Nat) (h : Rw objs v r) : Rw objs' v r := by
  obtain ⟨T, a, b, e, rfl, hm⟩ := h
  exact ⟨T, a, b, e, rfl, hs _ hm⟩
theorem Pr.mono {objs objs' : List (Addr × Obj)} (hs : ∀ p ∈ objs, p ∈ objs') (v : Value) (r : Str × Nat) (h : Pr objs v r) : Pr objs' v r := by
  obtain ⟨T, a, e, rfl, hm⟩ := h
  exact ⟨T, a, e, rfl, hs _ hm⟩
theorem paired_snoc {α β : Type} {R : α → β → Prop} {l₁ : List α} {l₂ : List β} (h : Paired R l₁ l₂) {a : α} {b : β} (hr : R a b) : Paired R (l₁ ++ [a]) (l₂ ++ [b]) := by
  induction h with
  | nil => exact .cons hr .nil
  | cons r _ ih => exact .cons r ih
theorem strsAre_snoc {vs : List Value} {xs : List Str} (h : StrsAre vs xs) (x : Str) (t : Tok) : StrsAre (vs ++ [.str x t]) (xs ++ [x]) := by
  induction h with
  | nil => exact .cons x t .nil
  | cons y u _ ih => exact .cons y u ih
theorem lenR_len {S : Str} {rows : List Row} (h : S.cps.toList = flat rows) : S.length = lenR rows := by rw [← len_codes, h]; rfl
theorem rmks_app (a b : List Row) : rmksOf (a ++ b) = rmksOf a ++ rmksOf b := by unfold rmksOf; rw [List.filter_append, List.map_append]
theorem flat_one (k t u : Str) : flat [(k, t, u)] = t.cps.toList := by show t.cps.toList ++ [] = _; rw [List.append_nil]
/-- a row with a token is laid -/
theorem LOk.row {rows : List Row} {c : LS} (h : LOk rows c) {k t u : Str} (hk : ¬ k = Str.ofString "remark") (hu : u ≠ Str.ofString "") {ws' : List Value} {t' : Int} {we' : Nat} {tt' : Tok} {ep' gd' gt' gr' : Nat} {tS' : Tok} {objs' : List (Addr × Obj)} {T1 T2 : Addr} {a b e a2 e2 : Tok}
    (hp : PoolOk ws' t') (hs : ∀ p ∈ c.objs, p ∈ objs') (h1 : (T1, tupObj [.str k a, .str t b, .int (c.S.length : Nat) e]) ∈ objs') (h2 : (T2, tupObj [.str u a2, .int (c.S.length : Nat) e2]) ∈ objs') :
    LOk (rows ++ [(k, t, u)]) ⟨ws', we', t', tt', ep', c.S ++ t, tS', c.dv ++ [.ref T1], gd', c.tv ++ [.ref T2], gt', c.rv, gr', objs'⟩ := by
  have hl := lenR_len h.src
  refine ⟨hp, ?_, ?_, ?_, ?_⟩
  · show (c.S ++ t).cps.toList = _
    rw [app_codes, h.src, flat_app, flat_one]
  · rw [place_app]
    show Paired _ _ (place rows 0 ++ [(k, t, 0 + lenR rows)])
    rw [Nat.zero_add, ← hl]
    exact paired_snoc (paired_mono h.due (Rw.mono hs)) ⟨T1, a, b, e, rfl, h1⟩
  · rw [toks_app]
    show Paired _ _ (toks rows 0 ++ ((if u = Str.ofString "" then [] else [(u, 0 + lenR rows)]) ++ []))
    rw [if_neg hu, List.append_nil, Nat.zero_add, ← hl]
    exact paired_snoc (paired_mono h.tok (Pr.mono hs)) ⟨T2, a2, e2, rfl, h2⟩
  · rw [rmks_app]
    have e : rmksOf [(k, t, u)] = [] := by
      unfold rmksOf
      rw [List.filter_cons, if_neg (by simpa using hk)]; rfl
    rw [e, List.append_nil]; exact h.rmk
/-- a row with no token -/
theorem LOk.mute {rows : List Row} {c : LS} (h : LOk rows c) {k t : Str} (hk : ¬ k = Str.ofString "remark") {ws' : List Value} {t' : Int} {we' : Nat} {tt' : Tok} {ep' gd' gt' gr' : Nat} {tS' : Tok} {objs' : List (Addr × Obj)} {T1 : Addr} {a b e : Tok}
    (hp : PoolOk ws' t') (hs : ∀ p ∈ c.objs, p ∈ objs') (h1 : (T1, tupObj [.str k a, .str t b, .int (c.S.length : Nat) e]) ∈ objs') :
    LOk (rows ++ [(k, t, Str.ofString "")]) ⟨ws', we', t', tt', ep', c.S ++ t, tS', c.dv ++ [.ref T1], gd', c.tv, gt', c.rv, gr', objs'⟩ := by
  have hl := lenR_len h.src
  refine ⟨hp, ?_, ?_, ?_, ?_⟩
  · show (c.S ++ t).cps.toList = _
    rw [app_codes, h.src, flat_app, flat_one]
  · rw [place_app]
    show Paired _ _ (place rows 0 ++ [(k, t, 0 + lenR rows)])
    rw [Nat.zero_add, ← hl]
    exact paired_snoc (paired_mono h.due (Rw.mono hs)) ⟨T1, a, b, e, rfl, h1⟩
  · rw [toks_app]
    show Paired _ _ (toks rows 0 ++ ((if Str.ofString "" = Str.ofString "" then [] else [(Str.ofString "", 0 + lenR rows)]) ++ []))
    rw [if_pos rfl, List.append_nil, List.append_nil]
    exact paired_mono h.tok (Pr.mono hs)
  · rw [rmks_app]
    have e : rmksOf [(k, t, Str.ofString "")] = [] := by
      unfold rmksOf
      rw [List.filter_cons, if_neg (by simpa using hk)]; rfl
    rw [e, List.append_nil]; exact h.rmk
/-- a remark and the gap behind it -/
theorem LOk.remark {rows : List Row} {c : LS} (h : LOk rows c) {m : Str} {ws' : List Value} {t' : Int} {we' : Nat} {tt' : Tok} {ep' gd' gt' gr' : Nat} {tS' tm : Tok} {objs' : List (Addr × Obj)} {T1 T2 : Addr} {a b e a2 b2 e2 : Tok}
    (hp : PoolOk ws' t') (hs : ∀ p ∈ c.objs, p ∈ objs') (h1 : (T1, tupObj [.str (Str.ofString "remark") a, .str m b, .int (c.S.length : Nat) e]) ∈ objs') (h2 : (T2, tupObj [.str (Str.ofString "gap") a2, .str (Str.ofString " ") b2, .int ((c.S.length : Int) + (m.length : Int)) e2]) ∈ objs') :
    LOk (rows ++ [rmkR m, gapR (Str.ofString " ")]) ⟨ws', we', t', tt', ep', c.S ++ (m ++ Str.ofString " "), tS', c.dv ++ [.ref T1] ++ [.ref T2], gd', c.tv, gt', c.rv ++ [.str m tm], gr', objs'⟩ := by
  have hl := lenR_len h.src
  refine ⟨hp, ?_, ?_, ?_, ?_⟩
  · show (c.S ++ (m ++ Str.ofString " ")).cps.toList = _
    rw [app_codes, app_codes, h.src, flat_app]
    show _ = flat rows ++ (m.cps.toList ++ ((Str.ofString " ").cps.toList ++ []))
    rw [List.append_nil]
  · rw [place_app]
    show Paired _ _ (place rows 0 ++ [(Str.ofString "remark", m, 0 + lenR rows), (Str.ofString "gap", Str.ofString " ", 0 + lenR rows + m.length)])
    rw [Nat.zero_add, ← hl, show [(Str.ofString "remark", m, c.S.length), (Str.ofString "gap", Str.ofString " ", c.S.length + m.length)] = [(Str.ofString "remark", m, c.S.length)] ++ [(Str.ofString "gap", Str.ofString " ", c.S.length + m.length)] from rfl, ← List.append_assoc]
    refine paired_snoc (paired_snoc (paired_mono h.due (Rw.mono hs)) ⟨T1, a, b, e, rfl, h1⟩) ⟨T2, a2, b2, e2, rfl, ?_⟩
    rw [show ((c.S.length : Int) + (m.length : Int)) = ((c.S.length + m.length : Nat) : Int) by omega] at h2
    exact h2
  · rw [toks_app]
    have e : toks [rmkR m, gapR (Str.ofString " ")] (0 + lenR rows) = [] := by
      show (if Str.ofString "" = Str.ofString "" then [] else _) ++ ((if Str.ofString "" = Str.ofString "" then [] else _) ++ []) = _
      rw [if_pos rfl, if_pos rfl]; rfl
    rw [e, List.append_nil]
    exact paired_mono h.tok (Pr.mono hs)
  · rw [rmks_app]
    have e : rmksOf [rmkR m, gapR (Str.ofString " ")] = [m] := by
      unfold rmksOf
      have d1 : (Str.ofString "remark" == Str.ofString "remark") = true := by decide
      have d2 : ¬ (Str.ofString "gap" == Str.ofString "remark") = true := by decide
      rw [List.filter_cons, if_pos (show ((rmkR m).1 == Str.ofString "remark") = true from d1), List.filter_cons, if_neg (show ¬ ((gapR (Str.ofString " ")).1 == Str.ofString "remark") = true from d2)]; rfl
    rw [e]; exact strsAre_snoc h.rmk m tm
theorem LOk.start (ws : List Value) (we : Nat) (t : Int) (tt : Tok) (ep : Nat) (tS : Tok) (gd gt gr : Nat) (hp : PoolOk ws t) : LOk [] ⟨ws, we, t, tt, ep, Str.ofString "", tS, [], gd, [], gt, [], gr, []⟩ := ⟨hp, (show (Str.ofString "").cps.toList = [] by decide), .nil, .nil, .nil⟩
theorem Off.nil (pa wl da ta ra : Nat) : Off pa wl da ta ra [] := ⟨fun _ h => absurd h List.not_mem_nil, fun _ h => absurd h List.not_mem_nil, fun _ h => absurd h List.not_mem_nil, fun _ h => absurd h List.not_mem_nil, fun _ h => absurd h List.not_mem_nil⟩
theorem Off.cons {pa wl da ta ra : Nat} {objs : List (Addr × Obj)} (h : Off pa wl da ta ra objs) {x : Nat} {o : Obj} (h1 : pa ≠ x) (h2 : wl ≠ x) (h3 : da ≠ x) (h4 : ta ≠ x) (h5 : ra ≠ x) : Off pa wl da ta ra ((x, o) :: objs) := by
  refine ⟨?_, ?_, ?_, ?_, ?_⟩
  all_goals (intro p hp; rcases List.mem_cons.mp hp with rfl | hp)
  · exact h1
  · exact h.1 p hp
  · exact h2
  · exact h.2.1 p hp
  · exact h3
  · exact h.2.2.1 p hp
  · exact h4
  · exact h.2.2.2.1 p hp
  · exact h5
  · exact h.2.2.2.2 p hp
theorem range_facts {n : Int} (n0 : 0 ≤ n) (n1 : n < 10) : Builtin.Range.small 0 n 1 = true ∧ Builtin.Range.rangeSize 0 n 1 = (n.toNat : Int) := by
  have key : ∀ m : Fin 10, Builtin.Range.small 0 (m.val : Int) 1 = true ∧ Builtin.Range.rangeSize 0 (m.val : Int) 1 = ((m.val : Int).toNat : Int) := by decide
  obtain ⟨m, rfl⟩ := Int.eq_ofNat_of_zero_le n0
  exact key ⟨m, Int.ofNat_lt.mp n1⟩
noncomputable def LP (pa wl da ta ra : Nat) (i : Nat) (c : LS) : Prop := Off pa wl da ta ra c.objs ∧ ∃ rows, Turns i rows ∧ LOk rows c
theorem toks_len (rows : List Row) (n : Nat) : (toks rows n).length ≤ rows.length := by
  induction rows generalizing n with
  | nil => exact Nat.le_refl _
  | cons p r ih =>
    obtain ⟨k, t, u⟩ := p
    have := ih (n + t.length)
    simp only [toks, List.length_append, List.length_cons]
    split <;> simp only [List.length_nil, List.length_cons] <;> omega
theorem rmks_len (rows : List Row) : (rmksOf rows).length ≤ rows.length := by
  unfold rmksOf
  rw [List.length_map]; exact List.length_filter_le _ _
theorem LOk.sizes {rows : List Row} {c : LS} (h : LOk rows c) : c.dv.length = rows.length ∧ c.tv.length ≤ rows.length ∧ c.rv.length ≤ rows.length ∧ c.S.length = lenR rows := by
  refine ⟨?_, ?_, ?_, lenR_len h.src⟩
  · rw [h.due.length, place_length]
  · rw [h.tok.length]; exact toks_len _ _
  · rw [h.rmk.length]; exact rmks_len _
theorem LP.sizes {rows : List Row} {c : LS} {i : Nat} (h : LOk rows c) (hT : Turns i rows) (hi : i < 10) : c.dv.length ≤ 45 ∧ c.tv.length ≤ 45 ∧ c.rv.length ≤ 45 ∧ c.S.length ≤ 630 := by
  obtain ⟨a, b, d, e⟩ := h.sizes
  have h1 := hT.len
  have h2 := flat_len hT.fine
  have h3 : lenR rows ≤ 14 * rows.length := h2
  omega
theorem reI {h₀ h : Heap} {L : Addr} {pa wl da ta ra : Nat} {c : LS} {I : Addr} {o : Obj} (N : News h₀ L h (ledL pa wl da ta ra c ++ [(I, o)])) : News h₀ L h ((I, o) :: ledL pa wl da ta ra c) := fun p hp => N p (by
  rcases List.mem_cons.mp hp with rfl | hp
  · exact List.mem_append_right _ (.head _)
  · exact List.mem_append_left _ hp)
structure JMark : Prop where
  on : True
theorem jMark : JMark := ⟨trivial⟩
noncomputable def OffI (pa wl da ta ra I : Nat) (objs : List (Addr × Obj)) : Prop := Off pa wl da ta ra objs ∧ ∀ p ∈ objs, I ≠ p.1
theorem OffI.cons {pa wl da ta ra I : Nat} {objs : List (Addr × Obj)} (h : OffI pa wl da ta ra I objs) {x : Nat} {o : Obj} (h1 : pa ≠ x) (h2 : wl ≠ x) (h3 : da ≠ x) (h4 : ta ≠ x) (h5 : ra ≠ x) (h6 : I ≠ x) : OffI pa wl da ta ra I ((x, o) :: objs) :=
  ⟨h.1.cons h1 h2 h3 h4 h5, apart_all h6 h.2⟩
noncomputable def PJ (pa wl da ta ra I : Nat) (rows : List Row) (c : LS) : Prop := OffI pa wl da ta ra I c.objs ∧ LOk rows c
theorem flip_ne {x : Nat} {objs : List (Addr × Obj)} (h : ∀ p ∈ objs, x ≠ p.1) : ∀ p ∈ objs, p.1 ≠ x := fun p hp => Ne.symm (h p hp)
theorem piece_fine {k x y : Str} (h : (k, x, y) ∈ pieces) : x.length ≤ 14 ∧ ¬ k = Str.ofString "remark" ∧ y ≠ Str.ofString "" := by
  have h1 : ∀ p ∈ pieces, p.2.1.length ≤ 14 ∧ ¬ p.1 = Str.ofString "remark" ∧ p.2.2 ≠ Str.ofString "" := by decide +kernel
  exact h1 _ h
noncomputable def DOk (k x : Str) (d : List Row) : Prop := d = [] ∨ d = [dotR] ∧ k = Str.ofString "number" ∧ x ∈ nodots
theorem sizesJ {rows blk : List Row} {c : LS} {i : Nat} (h : LOk (rows ++ blk) c) (hT : Turns i rows) (hi : i < 10) (hb : blk.length ≤ 5) (hf : ∀ p ∈ blk, fine p.2.1 = true) : c.dv.length ≤ 50 ∧ c.tv.length ≤ 50 ∧ c.rv.length ≤ 50 ∧ c.S.length ≤ 700 := by
  obtain ⟨a, b, d, e⟩ := h.sizes
  have h1 := hT.len
  have h2 := flat_len (rows := rows ++ blk) fun p hp => (List.mem_append.mp hp).elim (hT.fine p) (hf p)
  have h3 : lenR (rows ++ blk) ≤ 14 * (rows ++ blk).length := h2
  rw [List.length_append] at h3 a b d
  omega
theorem fine_piece {k x y : Str} (h : (k, x, y) ∈ pieces) : ∀ p ∈ [((k, x, y) : Row)], fine p.2.1 = true := by
  intro p hp
  rw [List.mem_singleton.mp hp]; exact (fine_p _ h).1
theorem dOk_fine {k x : Str} {d : List Row} (h : DOk k x d) : ∀ p ∈ d, fine p.2.1 = true := by
  rcases h with rfl | ⟨rfl, _⟩
  · intro p hp; cases hp
  · intro p hp; rw [List.mem_singleton.mp hp]; decide +kernel
theorem dOk_len {k x : Str} {d : List Row} (h : DOk k x d) : d.length ≤ 1 := by rcases h with rfl | ⟨rfl, _⟩ <;> decide
theorem fine_pd {k x y : Str} {d : List Row} (h : (k, x, y) ∈ pieces) (hd : DOk k x d) : ∀ p ∈ ((k, x, y) : Row) :: d, fine p.2.1 = true := by
  intro p hp
  rcases List.mem_cons.mp hp with rfl | hp
  · exact (fine_p _ h).1
  · exact dOk_fine hd p hp
theorem fine_pdg {k x y g : Str} {d : List Row} (h : (k, x, y) ∈ pieces) (hd : DOk k x d) (hg : g ∈ gaps5) : ∀ p ∈ ((k, x, y) : Row) :: (d ++ [gapR g]), fine p.2.1 = true := by
  intro p hp
  rcases List.mem_cons.mp hp with rfl | hp
  · exact (fine_p _ h).1
  rcases List.mem_append.mp hp with hp | hp
  · exact dOk_fine hd p hp
  · rw [List.mem_singleton.mp hp]; exact fine_g _ hg
theorem led_ne {pa wl da ta ra I : Nat} {c : LS} (j1 : @Ne Nat ra I) (j2 : @Ne Nat ta I) (j3 : @Ne Nat da I) (j4 : @Ne Nat pa I) (j5 : @Ne Nat wl I) (j6 : ∀ p ∈ c.objs, I ≠ p.1) : ∀ p ∈ ledL pa wl da ta ra c, p.1 ≠ I := by
  intro p hp
  rcases List.mem_cons.mp hp with rfl | hp
  · exact j1
  rcases List.mem_cons.mp hp with rfl | hp
  · exact j2
  rcases List.mem_cons.mp hp with rfl | hp
  · exact j3
  rcases List.mem_cons.mp hp with rfl | hp
  · exact j4
  rcases List.mem_cons.mp hp with rfl | hp
  · exact j5
  · exact Ne.symm (j6 p hp)
theorem LOk.repool {rows : List Row} {c : LS} (h : LOk rows c) {ws' : List Value} {t' : Int} (we' : Nat) (tt' : Tok) (ep' : Nat) (hp : PoolOk ws' t') : LOk rows ⟨ws', we', t', tt', ep', c.S, c.tS, c.dv, c.gd, c.tv, c.gt, c.rv, c.gr, c.objs⟩ := ⟨hp, h.src, h.due, h.tok, h.rmk⟩
theorem LOk.cast {rows rows' : List Row} {c : LS} (h : LOk rows c) (e : rows = rows') : LOk rows' c := e ▸ h
theorem nodot_of {k x y : Str} (h : (k, x, y) ∈ pieces) (hk : (k == Str.ofString "number") = true) (hx : (Builtin.Str.occurrences x (Str.ofString ".") 0 x.length 1).isEmpty = true) : DOk k x [dotR] := by
  have h1 : ∀ p ∈ pieces, (p.1 == Str.ofString "number") = true → (Builtin.Str.occurrences p.2.1 (Str.ofString ".") 0 p.2.1.length 1).isEmpty = true → p.2.1 ∈ nodots := by decide +kernel
  exact .inr ⟨rfl, by rw [beq_iff_eq] at hk; exact hk, h1 _ h hk hx⟩
theorem sign_piece {k x y : Str} (h : (k, x, y) ∈ pieces) (hk : k = Str.ofString "sign") : y = x := by
  have h1 : ∀ p ∈ pieces, p.1 = Str.ofString "sign" → p.2.2 = p.2.1 := by decide +kernel
  exact h1 _ h hk
theorem dOk_sign {k x : Str} {d : List Row} (h : DOk k x d) (hk : k = Str.ofString "sign") : d = [] := by
  rcases h with h | ⟨_, h, _⟩
  · exact h
  · rw [hk] at h; exact absurd h (by decide)
theorem closer_any {x : Str} (h : ([Str.ofString ";", Str.ofString ",", Str.ofString "]", Str.ofString "}"].any fun z => z == x) = true) : x ∈ closers := by
  obtain ⟨z, hz, e⟩ := List.any_eq_true.mp h
  rw [beq_iff_eq] at e; rw [← e]; exact hz
theorem fine_len {x : Str} (h : fine x = true) : x.length ≤ 14 := by
  unfold fine at h
  rw [Bool.and_eq_true] at h
  exact of_decide_eq_true h.1
theorem turn_close {pa wl da ta ra i : Nat} {rows d : List Row} {k x y : Str} {c : LS} {I : Nat} (hT : Turns i rows) (hpc : (k, x, y) ∈ pieces) (hk : k = Str.ofString "sign") (hx : x ∈ closers) (hd : DOk k x d) (h : PJ pa wl da ta ra I (rows ++ (k, x, y) :: d) c) : LP pa wl da ta ra (i + 1) c := by
  have e1 := dOk_sign hd hk
  have e2 := sign_piece hpc hk
  subst e1 e2 hk
  exact ⟨h.1.1, _, .snoc hT (.close hx), h.2⟩
theorem turn_gap {pa wl da ta ra i : Nat} {rows d : List Row} {k x y g : Str} {c : LS} {I : Nat} (hT : Turns i rows) (hpc : (k, x, y) ∈ pieces) (hd : DOk k x d) (hg : g ∈ gaps5) (h : PJ pa wl da ta ra I (rows ++ (k, x, y) :: (d ++ [gapR g])) c) : LP pa wl da ta ra (i + 1) c :=
  ⟨h.1.1, _, .snoc hT (.gap hpc hd hg (.inl rfl)), h.2⟩
theorem turn_rmk {pa wl da ta ra i : Nat} {rows d : List Row} {k x y g m : Str} {c : LS} {I : Nat} (hT : Turns i rows) (hpc : (k, x, y) ∈ pieces) (hd : DOk k x d) (hg : g ∈ gaps5) (hm : m ∈ rmks5) (h : PJ pa wl da ta ra I ((rows ++ (k, x, y) :: (d ++ [gapR g])) ++ [rmkR m, gapR (Str.ofString " ")]) c) : LP pa wl da ta ra (i + 1) c :=
  ⟨h.1.1, _, .snoc hT (.gap hpc hd hg (.inr ⟨m, hm, rfl⟩)), h.2.cast (by simp)⟩
theorem sub_cons {α : Type} {a : α} {l N : List α} (h1 : a ∈ N) (h2 : ∀ p ∈ l, p ∈ N) : ∀ p ∈ a :: l, p ∈ N := by
  intro p hp
  rcases List.mem_cons.mp hp with rfl | hp
  · exact h1
  · exact h2 p hp
theorem sub_tail {α : Type} {x : α} {l N : List α} (h : ∀ p ∈ l, p ∈ N) : ∀ p ∈ l, p ∈ x :: N := fun p hp => .tail _ (h p hp)
theorem eq_of_b {a b : Str} (h : (a == b) = true) : a = b := by rw [beq_iff_eq] at h; exact h
theorem no_close {b : Bool} {P : Prop} (h : b = false) : b = true → P := fun h2 => Bool.noConfusion (h2.symm.trans h)
theorem LOk.tail0 {rows : List Row} {c : LS} (h : LOk rows c) {x y : Str} (hx : x = Str.ofString "") : LOk (rows ++ tailR x y) { c with S := c.S ++ x } := by
  subst hx
  have e : tailR (Str.ofString "") y = [] := by unfold tailR; rw [if_pos rfl]
  rw [e, List.append_nil]
  refine ⟨h.pool, ?_, h.due, h.tok, h.rmk⟩
  show (c.S ++ Str.ofString "").cps.toList = _
  rw [app_codes, h.src, show (Str.ofString "").cps.toList = [] by decide, List.append_nil]
end
section
open PySem PySem.W PyProof.Rows PySem.Spec PySem.Calls
open Classical in
theorem ne_dat {prog : Program} {w : World} {A : Around} {E : Value → Shared → Prop} {s : Shared} {a b : Value} {d e : Dat} {Q : Value → Shared → Prop} (ra : ∃ as, Reads s.heap a (kqdP d) as) (rb : ∃ bs, Reads s.heap b (kqdP e) bs)
    (ha : kqdOk 9 d = true) (hb : kqdOk 9 e = true) (hu : A.units + 64 < cLine) (h : Q (.bool (!decide (d = e))) s) : wpAny (model prog w) A (compareOp .NotEq a b) Q E s := by
  obtain ⟨as, ra⟩ := ra
  obtain ⟨bs, rb⟩ := rb
  have la := kqd_lay 9 d ha
  have lb := kqd_lay 9 e hb
  have e1 : PyData.eqv (kqdP d) (kqdP e) = decide (d = e) := by
    have q := kqd_eqv 9 d e 9 ha hb
    by_cases hq : d = e
    · rw [decide_eq_true hq]; exact q.mpr hq
    · rw [decide_eq_false hq]; exact Bool.eq_false_iff.mpr fun x => hq (q.mp x)
  refine ne_dataH ra rb ?_ ?_ hu (by rw [e1]; exact h)
  · unfold SeqAt.shaped; rw [la.1, Bool.true_and]; exact decide_eq_true (Nat.le_trans la.2 (by decide))
  · unfold SeqAt.shaped; rw [lb.1, Bool.true_and]; exact decide_eq_true (Nat.le_trans lb.2 (by decide))
/-- a row as it lies -/
noncomputable def RowAt (h : Heap) (v : Value) (r : Str × Str × Nat) : Prop := ∃ T a b e, v = .ref T ∧ h.IsTuple T #[.str r.1 a, .str r.2.1 b, .int (r.2.2 : Nat) e]
noncomputable def rowD (r : Str × Str × Nat) : Dat := .tuple [.str r.1, .str r.2.1, .int (r.2.2 : Nat)]
theorem RowAt.reads {h : Heap} {v : Value} {r : Str × Str × Nat} (a : RowAt h v r) : ∃ as, Reads h v (kqdP (rowD r)) as := by
  obtain ⟨T, x, y, z, rfl, o, ho, hc, n, hd⟩ := a
  exact ⟨_, reads_tuple_at ho hc hd (ReadsAll.cons (Reads.str _ _) (ReadsAll.cons (Reads.str _ _) (ReadsAll.cons (Reads.int _ _) ReadsAll.nil)))⟩
theorem rows_reads {h : Heap} {vs : List Value} {rows : List (Str × Str × Nat)} (a : Paired (RowAt h) vs rows) : ∃ as, ReadsAll h vs (kqdPs (rows.map rowD)) as := by
  induction a with
  | nil => exact ⟨_, ReadsAll.nil⟩
  | cons r _ ih =>
    obtain ⟨as, q⟩ := r.reads
    obtain ⟨bs, p⟩ := ih
    exact ⟨_, ReadsAll.cons q p⟩
theorem rows_list {h : Heap} {D : Addr} {vs : List Value} {rows : List (Str × Str × Nat)} (hl : h.IsList D vs.toArray) (a : Paired (RowAt h) vs rows) : ∃ as, Reads h (.ref D) (kqdP (.list (rows.map rowD))) as := by
  obtain ⟨as, q⟩ := rows_reads a
  obtain ⟨o, ho, hc, n, hd⟩ := hl
  exact ⟨_, reads_list_at ho hc hd (by simpa using q)⟩
theorem rows_ok {rows : List (Str × Str × Nat)} (h : ∀ r ∈ rows, PyData.strOk r.1 = true ∧ PyData.strOk r.2.1 = true) : kqdOk 9 (.list (rows.map rowD)) = true := by
  show (rows.map rowD).all (kqdOk 8) = true
  rw [List.all_eq_true]
  intro d hd
  obtain ⟨r, hr, rfl⟩ := List.mem_map.mp hd
  obtain ⟨a, b⟩ := h r hr
  show ([Dat.str r.1, .str r.2.1, .int (r.2.2 : Nat)] : List Dat).all (kqdOk 7) = true
  simp [kqdOk, a, b]
theorem Rw.at {objs : List (Addr × Obj)} {h : Heap} (hn : ∀ p ∈ objs, h.get? p.1 = some p.2) {v : Value} {r : Str × Str × Nat} (a : Rw objs v r) : RowAt h v r := by
  obtain ⟨T, x, y, z, rfl, hm⟩ := a
  exact ⟨T, x, y, z, rfl, _, hn _ hm, rfl, _, rfl⟩
/-- a token's row -/
noncomputable def PrAt (h : Heap) (v : Value) (r : Str × Nat) : Prop := ∃ T a e, v = .ref T ∧ h.IsTuple T #[.str r.1 a, .int (r.2 : Nat) e]
noncomputable def prD (r : Str × Nat) : Dat := .tuple [.str r.1, .int (r.2 : Nat)]
theorem PrAt.reads {h : Heap} {v : Value} {r : Str × Nat} (a : PrAt h v r) : ∃ as, Reads h v (kqdP (prD r)) as := by
  obtain ⟨T, x, z, rfl, o, ho, hc, n, hd⟩ := a
  exact ⟨_, reads_tuple_at ho hc hd (ReadsAll.cons (Reads.str _ _) (ReadsAll.cons (Reads.int _ _) ReadsAll.nil))⟩
theorem pr_ok {r : Str × Nat} (h : PyData.strOk r.1 = true) : kqdOk 9 (prD r) = true := by
  show ([Dat.str r.1, .int (r.2 : Nat)] : List Dat).all (kqdOk 8) = true
  simp [kqdOk, h]
theorem Pr.at {objs : List (Addr × Obj)} {h : Heap} (hn : ∀ p ∈ objs, h.get? p.1 = some p.2) {v : Value} {r : Str × Nat} (a : Pr objs v r) : PrAt h v r := by
  obtain ⟨T, x, z, rfl, hm⟩ := a
  exact ⟨T, x, z, rfl, _, hn _ hm, rfl, _, rfl⟩
theorem fresh_none (h : Heap) : h.get? h.objs.size = none := by
  cases e : h.get? h.objs.size with
  | none => rfl
  | some o => exact absurd (Heap.lt_size e) (Nat.lt_irrefl _)
theorem RowAt.keep {h h' : Heap} {v : Value} {i : Str × Str × Nat} (a : RowAt h v i) (hk : ∀ b o, h.get? b = some o → h'.get? b = some o) : RowAt h' v i := by
  obtain ⟨T, x, y, z, rfl, o, ho, r⟩ := a
  exact ⟨T, x, y, z, rfl, o, hk _ _ ho, r⟩
theorem RowAt.inj {h : Heap} {v : Value} {i j : Str × Str × Nat} (a : RowAt h v i) (b : RowAt h v j) : i = j := by
  obtain ⟨T, x, y, z, rfl, o, ho, _, n, hd⟩ := a
  obtain ⟨T', x', y', z', e, o', ho', _, n', hd'⟩ := b
  cases e
  rw [ho] at ho'
  cases ho'
  rw [hd] at hd'
  injection hd' with e1 _
  have e2 := congrArg Array.toList e1
  simp only [List.cons.injEq, Value.str.injEq, Value.int.injEq, Int.natCast_inj, and_true] at e2
  obtain ⟨i1, i2, i3⟩ := i
  obtain ⟨j1, j2, j3⟩ := j
  simp only at e2
  obtain ⟨⟨rfl, _⟩, ⟨rfl, _⟩, rfl, _⟩ := e2
  rfl
section
variable {w : World} {A : Around} {E : Value → Shared → Prop} {s : Shared} {env : Env} {h₀ : Heap} {L : Addr} {m : Str → Option Value} {iter : PySem.Expr} {pos px p1 p2 p3 p4 p5 p6 p7 p8 : Pos} {k k2 k3 : Nat} {Q : Value → Shared → Prop}
theorem lc_rows (_F₀ : Fr h₀ L s.heap m) (X : (hd.heap_1 w.params).In h₀) (hh : A.handled = none) (hs : ∀ x, foldedSetIterable iter env x = pure x)
    (h : wpAny (model Challenge.rw_pb0353_01.row.prog w) A (eval iter env) (fun xv s₁ => Hold (∃ ax ol vs news its, xv = .ref ax ∧ (∀ b o, s.heap.get? b = some o → s₁.heap.get? b = some o) ∧ Fr h₀ L s₁.heap m ∧ News h₀ L s₁.heap news ∧ (ax, ol) ∈ news ∧ ListOb ol vs ∧ vs.length ≤ sizeLine ∧ Paired (ItemIs s.heap) vs its ∧
      (∀ D h' tk ys, h'.IsList D ys.toArray → Fr h₀ L h' m → News h₀ L h' news → Paired (RowAt h') ys its → Q (.ref D) { s₁ with heap := h', toks := tk }))) E s) :
    wpAny (model Challenge.rw_pb0353_01.row.prog w) A (eval (.ListComp (.Tuple [.Attribute (.Name (Str.ofString "item") p1) (Str.ofString "kind") p2, .Attribute (.Name (Str.ofString "item") p3) (Str.ofString "text") p4, .Attribute (.Name (Str.ofString "item") p5) (Str.ofString "place") p6] k p7) [⟨.Name (Str.ofString "item") px, iter, [], 0⟩] (cScope "item") pos) env) Q E s := by
  refine wpAny_ListComp_tup (fun _ => true) (fun v ws => ∀ i, ItemIs s.heap v i → ∃ a b e, ws = #[.str i.1 a, .str i.2.1 b, .int (i.2.2 : Nat) e]) hh (by decide) (by decide) rfl (by decide) rfl (wpAny_mono h (fun xv s₁ h₁ => ?_) fun _ _ e => e) hs
  obtain ⟨ax, ol, vs, news, its, rfl, H9⟩ := h₁
  have hks := H9.1
  have F := H9.2.1
  have N := H9.2.2.1
  have hm := H9.2.2.2.1
  have lo := H9.2.2.2.2.1
  have hsz := H9.2.2.2.2.2.1
  have hp := H9.2.2.2.2.2.2.1
  have hq := H9.2.2.2.2.2.2.2
  clear H9
  refine ⟨ax, vs.toArray, rfl, lo.isList (N _ hm).1, by rw [List.size_toArray]; exact hsz, ?_, ?_, ?_⟩
  · intro C v s₂ m₂ E' hv hn hmv hk
    exact wpAny_tests_nil ⟨rfl, keeps_tok⟩
  · intro C v s₂ m₂ E' hv _ hn hmv hk
    obtain ⟨i, hi⟩ := paired_mem hp v (by simpa using hv)
    have X' : (hd.heap_1 w.params).In s₂.heap := fun a o e => hk a o (F.keep _ _ (X a o e))
    have hi2 : ItemIs s₂.heap v i := (hi.keep hks).keep hk
    refine Tuple_ (spliced_more (el_kind hn hmv X' hi2 fun t1 => spliced_more (el_text hn hmv X' hi2 fun t2 => spliced_more (el_place hn hmv X' hi2 fun t3 => spliced_none ?_))))
    refine wpAny_newObj_type ⟨⟨_, _, rfl, fresh_none _, ⟨_, Heap.get?_push_size _ rfl, rfl, _, rfl⟩, fun j hj => ?_⟩, ⟨_, _, rfl, fun b o e => Heap.get?_push_of_some _ e⟩⟩ (by size_fits)
    rw [hj.inj hi]; exact ⟨_, _, _, rfl⟩
  · intro D h' tk ys hD hl hpp hk
    have hpp' : Paired (TupIs (fun v ws => ∀ i, ItemIs s.heap v i → ∃ a b e, ws = #[.str i.1 a, .str i.2.1 b, .int (i.2.2 : Nat) e]) h') vs ys.toList := by
      have e : vs.toArray.toList.filter (fun _ => true) = vs := filter_yes vs
      rw [e] at hpp; exact hpp
    refine hq D h' tk ys.toList (by simpa using hl) ⟨F.ns.keeps hk, fun b o e => hk _ _ (F.keep _ _ e), F.above⟩ (fun p hp' => ⟨hk _ _ (N p hp').1, (N p hp').2⟩) (paired_comp hp hpp' fun a b c r g => ?_)
    obtain ⟨T, ws, rfl, ht, hg⟩ := g
    obtain ⟨x, y, z, rfl⟩ := hg b r
    exact ⟨T, x, y, z, rfl, ht⟩
noncomputable def rTest (h : Heap) (q : Str × Str × Nat → Bool) (v : Value) : Bool := @decide (∃ i, RowAt h v i ∧ q i = true) (Classical.propDecidable _)
theorem rTest_is {h : Heap} {q : Str × Str × Nat → Bool} {v : Value} {i : Str × Str × Nat} (a : RowAt h v i) : rTest h q v = q i := by
  unfold rTest
  cases hq : q i with
  | true => exact (@decide_eq_true _ (Classical.propDecidable _) ⟨i, a, hq⟩)
  | false => exact (@decide_eq_false _ (Classical.propDecidable _) (fun ⟨j, b, e⟩ => by rw [← a.inj b, hq] at e; cases e))
theorem el_row0 {C : Addr} {m₂ : Str → Option Value} {v : Value} {i : Str × Str × Nat} (hn : s.heap.Ns C m₂) (hmv : m₂ (Str.ofString "row") = some v) (a : RowAt s.heap v i) (h : ∀ t, Q (.str i.1 t) { s with toks := s.toks + 1 }) :
    wpAny (model Challenge.rw_pb0353_01.row.prog w) A (eval (.Subscript (.Name (Str.ofString "row") p1) (.Constant (.int 0) k p2) p3) (compEnv (cScope "row") C env)) Q E s := by
  obtain ⟨T, x, y, z, rfl, ht⟩ := a
  refine Subscript_Constant (wpAny_Name (wpAny_loadName_local rfl rfl hn hmv (wpAny_Constant_int ?_)))
  exact ⟨"tuple", _, slot_tuple_getitem.lookup, ht.typeIs, getItem_tuple ht (by decide) (by decide) rfl rfl (h x)⟩
theorem el_row1 {C : Addr} {m₂ : Str → Option Value} {v : Value} {i : Str × Str × Nat} (hn : s.heap.Ns C m₂) (hmv : m₂ (Str.ofString "row") = some v) (a : RowAt s.heap v i) (h : ∀ t, Q (.str i.2.1 t) { s with toks := s.toks + 1 }) :
    wpAny (model Challenge.rw_pb0353_01.row.prog w) A (eval (.Subscript (.Name (Str.ofString "row") p1) (.Constant (.int 1) k p2) p3) (compEnv (cScope "row") C env)) Q E s := by
  obtain ⟨T, x, y, z, rfl, ht⟩ := a
  refine Subscript_Constant (wpAny_Name (wpAny_loadName_local rfl rfl hn hmv (wpAny_Constant_int ?_)))
  exact ⟨"tuple", _, slot_tuple_getitem.lookup, ht.typeIs, getItem_tuple ht (by decide) (by decide) rfl rfl (h y)⟩
theorem el_rname {C : Addr} {m₂ : Str → Option Value} {v : Value} (hn : s.heap.Ns C m₂) (hv : m₂ (Str.ofString "row") = some v) (h : Q v s) :
    wpAny (model Challenge.rw_pb0353_01.row.prog w) A (eval (.Name (Str.ofString "row") p1) (compEnv (cScope "row") C env)) Q E s :=
  wpAny_Name (wpAny_loadName_local rfl rfl hn hv h)
theorem rtests_notin {C : Addr} {m₂ : Str → Option Value} {v : Value} {i : Str × Str × Nat} (hn : s.heap.Ns C m₂) (hmv : m₂ (Str.ofString "row") = some v) (hi : RowAt s.heap v i) :
    TestsT Challenge.rw_pb0353_01.row.prog w A [.Compare (.Subscript (.Name (Str.ofString "row") p1) (.Constant (.int 0) k2 p2) p7) [.NotIn] [.Tuple [.Constant (.str (Str.ofString "gap")) 0 p3, .Constant (.str (Str.ofString "remark")) 0 p4] k p5] p6] (compEnv (cScope "row") C env)
      (fun ok s₃ => ok = (!(i.1 == Str.ofString "gap") && !(i.1 == Str.ofString "remark")) ∧ Keeps s s₃) E s := by
  refine wpAny_tests_one (wpAny_isTrue_Compare1 (el_row0 hn hmv hi fun t => Tuple_ (spliced_more (Constant_str (spliced_more (Constant_str (spliced_none ?_)))))))
  refine wpAny_newObj_type (notin_tuple_strs ⟨_, Heap.get?_push_size _ rfl, rfl, _, rfl⟩ (.cons _ _ (.cons _ _ .nil)) (wpAny_truthy_bool ⟨?_, ?_⟩)) (by size_fits)
  · simp only [List.any_cons, List.any_nil, Bool.or_false, Bool.not_or]
    rw [beq_comm' _ i.1, beq_comm' _ i.1]
  · exact ⟨_, _, rfl, fun b o e => Heap.get?_push_of_some _ e⟩
theorem rtests_ne {C : Addr} {m₂ : Str → Option Value} {v : Value} {i : Str × Str × Nat} (hn : s.heap.Ns C m₂) (hmv : m₂ (Str.ofString "row") = some v) (hi : RowAt s.heap v i) :
    TestsT Challenge.rw_pb0353_01.row.prog w A [.Compare (.Subscript (.Name (Str.ofString "row") p1) (.Constant (.int 0) k2 p2) p7) [.NotEq] [.Constant (.str (Str.ofString "gap")) 0 p3] p6] (compEnv (cScope "row") C env)
      (fun ok s₃ => ok = (!(i.1 == Str.ofString "gap")) ∧ Keeps s s₃) E s :=
  wpAny_tests_one (wpAny_isTrue_Compare1 (el_row0 hn hmv hi fun t => Constant_str (PyProof.Rows.ne_str (wpAny_truthy_bool ⟨rfl, ⟨_, _, rfl, fun b o e => e⟩⟩))))
/-- the rows kept -/
theorem lc_keep (_F₀ : Fr h₀ L s.heap m) (X : (hd.heap_1 w.params).In h₀) (hh : A.handled = none) (hs : ∀ x, foldedSetIterable iter env x = pure x)
    (h : wpAny (model Challenge.rw_pb0353_01.row.prog w) A (eval iter env) (fun xv s₁ => Hold (∃ ax ol vs news its, xv = .ref ax ∧ Fr h₀ L s₁.heap m ∧ News h₀ L s₁.heap news ∧ (ax, ol) ∈ news ∧ ListOb ol vs ∧ vs.length ≤ sizeLine ∧ Paired (RowAt s₁.heap) vs its ∧
      (∀ D oD h' tk ys, ListOb oD ys → Fr h₀ L h' m → News h₀ L h' ((D, oD) :: news) → (∀ q ∈ news, q.1 ≠ D) → ys.length = (its.filter keepK).length → Q (.ref D) { s₁ with heap := h', toks := tk }))) E s) :
    wpAny (model Challenge.rw_pb0353_01.row.prog w) A (eval (.ListComp (.Name (Str.ofString "row") p1) [⟨.Name (Str.ofString "row") px, iter, [.Compare (.Subscript (.Name (Str.ofString "row") p2) (.Constant (.int 0) k2 p3) p7) [.NotIn] [.Tuple [.Constant (.str (Str.ofString "gap")) 0 p4, .Constant (.str (Str.ofString "remark")) 0 p5] k p6] p8], 0⟩] (cScope "row") pos) env) Q E s := by
  refine lc_rule (h₀ := h₀) (L := L) (m := m) hh (by decide) (by decide) rfl (by decide) rfl hs (wpAny_mono h (fun xv s₁ h₁ => ?_) fun _ _ e => e)
  obtain ⟨ax, ol, vs, news, its, rfl, H9⟩ := h₁
  have F := H9.1
  have N := H9.2.1
  have hm := H9.2.2.1
  have lo := H9.2.2.2.1
  have hsz := H9.2.2.2.2.1
  have hp := H9.2.2.2.2.2.1
  have hq := H9.2.2.2.2.2.2
  clear H9
  refine ⟨rTest s₁.heap keepK, fun v y => y = v, ax, ol, vs, news, rfl, F, N, hm, lo, hsz, ?_, ?_, ?_⟩
  · intro C v s₂ m₂ E' hv hn hmv hk
    obtain ⟨i, hi⟩ := paired_mem hp v hv
    rw [rTest_is hi]
    exact rtests_notin hn hmv (hi.keep hk)
  · intro C v s₂ m₂ E' hv _ hn hmv hk
    exact el_rname hn hmv ⟨rfl, s₂.heap, s₂.toks, rfl, fun _ _ e => e⟩
  · intro D oD h' tk ys ho F' N' hne hy
    refine hq D oD h' tk ys ho F' N' hne ?_
    rw [paired_eqs hy]
    exact (paired_filter hp fun a b r => rTest_is r).length
noncomputable def gapK (i : Str × Str × Nat) : Bool := !(i.1 == Str.ofString "gap")
/-- the texts of the rows that are no gaps -/
theorem lc_spc (_F₀ : Fr h₀ L s.heap m) (X : (hd.heap_1 w.params).In h₀) (hh : A.handled = none) (hs : ∀ x, foldedSetIterable iter env x = pure x)
    (h : wpAny (model Challenge.rw_pb0353_01.row.prog w) A (eval iter env) (fun xv s₁ => Hold (∃ ax ol vs news its, xv = .ref ax ∧ Fr h₀ L s₁.heap m ∧ News h₀ L s₁.heap news ∧ (ax, ol) ∈ news ∧ ListOb ol vs ∧ vs.length ≤ sizeLine ∧ Paired (RowAt s₁.heap) vs its ∧
      (∀ D oD h' tk ys, ListOb oD ys → Fr h₀ L h' m → News h₀ L h' ((D, oD) :: news) → (∀ q ∈ news, q.1 ≠ D) → StrsAre ys ((its.filter gapK).map (·.2.1)) → Q (.ref D) { s₁ with heap := h', toks := tk }))) E s) :
    wpAny (model Challenge.rw_pb0353_01.row.prog w) A (eval (.ListComp (.Subscript (.Name (Str.ofString "row") p1) (.Constant (.int 1) k p2) p3) [⟨.Name (Str.ofString "row") px, iter, [.Compare (.Subscript (.Name (Str.ofString "row") p4) (.Constant (.int 0) k2 p5) p6) [.NotEq] [.Constant (.str (Str.ofString "gap")) 0 p7] p8], 0⟩] (cScope "row") pos) env) Q E s := by
  refine lc_rule (h₀ := h₀) (L := L) (m := m) hh (by decide) (by decide) rfl (by decide) rfl hs (wpAny_mono h (fun xv s₁ h₁ => ?_) fun _ _ e => e)
  obtain ⟨ax, ol, vs, news, its, rfl, H9⟩ := h₁
  have F := H9.1
  have N := H9.2.1
  have hm := H9.2.2.1
  have lo := H9.2.2.2.1
  have hsz := H9.2.2.2.2.1
  have hp := H9.2.2.2.2.2.1
  have hq := H9.2.2.2.2.2.2
  clear H9
  refine ⟨rTest s₁.heap gapK, fun v y => ∀ i, RowAt s₁.heap v i → ∃ t, y = .str i.2.1 t, ax, ol, vs, news, rfl, F, N, hm, lo, hsz, ?_, ?_, ?_⟩
  · intro C v s₂ m₂ E' hv hn hmv hk
    obtain ⟨i, hi⟩ := paired_mem hp v hv
    rw [rTest_is hi]
    exact rtests_ne hn hmv (hi.keep hk)
  · intro C v s₂ m₂ E' hv _ hn hmv hk
    obtain ⟨i, hi⟩ := paired_mem hp v hv
    refine el_row1 hn hmv (hi.keep hk) fun t => ⟨fun j hj => ?_, keeps_tok⟩
    rw [hj.inj hi]; exact ⟨t, rfl⟩
  · intro D oD h' tk ys ho F' N' hne hy
    exact hq D oD h' tk ys ho F' N' hne (paired_strs (f := fun i => i.2.1) (paired_comp (paired_filter hp fun a b r => rTest_is r) hy fun a b c r g => g b r))
end
theorem tail_one {x y : Str} (hx : x ≠ Str.ofString "") : tailR x y = [(Str.ofString "stray", x, y)] := by unfold tailR; rw [if_neg hx]
theorem ne_of_b {a b : Str} (h : (a != b) = true) : a ≠ b := by simpa using h
theorem eq_of_nb {a b : Str} (h : (a != b) = false) : a = b := by simpa using h
theorem tail_row {rows : List Row} {c : LS} (h : LOk rows c) {x y : Str} (hx : x ≠ Str.ofString "") (hy : y ≠ Str.ofString "") {ws' : List Value} {t' : Int} {we' : Nat} {tt' : Tok} {ep' gd' gt' gr' : Nat} {tS' : Tok} {objs' : List (Addr × Obj)} {T1 T2 : Addr} {a b e a2 e2 : Tok}
    (hp : PoolOk ws' t') (hs : ∀ p ∈ c.objs, p ∈ objs') (h1 : (T1, tupObj [.str (Str.ofString "stray") a, .str x b, .int (c.S.length : Nat) e]) ∈ objs') (h2 : (T2, tupObj [.str y a2, .int (c.S.length : Nat) e2]) ∈ objs') :
    LOk (rows ++ tailR x y) ⟨ws', we', t', tt', ep', c.S ++ x, tS', c.dv ++ [.ref T1], gd', c.tv ++ [.ref T2], gt', c.rv, gr', objs'⟩ := by
  rw [tail_one hx]; exact h.row (by decide) hy hp hs h1 h2
theorem tail_mute {rows : List Row} {c : LS} (h : LOk rows c) {x y : Str} (hx : x ≠ Str.ofString "") (hy : y = Str.ofString "") {ws' : List Value} {t' : Int} {we' : Nat} {tt' : Tok} {ep' gd' gt' gr' : Nat} {tS' : Tok} {objs' : List (Addr × Obj)} {T1 : Addr} {a b e : Tok}
    (hp : PoolOk ws' t') (hs : ∀ p ∈ c.objs, p ∈ objs') (h1 : (T1, tupObj [.str (Str.ofString "stray") a, .str x b, .int (c.S.length : Nat) e]) ∈ objs') :
    LOk (rows ++ tailR x y) ⟨ws', we', t', tt', ep', c.S ++ x, tS', c.dv ++ [.ref T1], gd', c.tv, gt', c.rv, gr', objs'⟩ := by
  subst hy
  rw [tail_one hx]; exact h.mute (by decide) hp hs h1
noncomputable def PT (pa wl da ta ra : Nat) (rows : List Row) (x y S : Str) (c : LS) : Prop := Off pa wl da ta ra c.objs ∧ c.S = S ∧ LOk (rows ++ tailR x y) { c with S := c.S ++ x }
/-- all that the law needs to know of its rows -/
structure Facts (rows : List Row) (S : Str) (its : List (Str × Str × Nat)) : Prop where
  items : Items S 0 its
  chain : Chain S 0 (toks rows 0)
  joined : Txt.join (Str.ofString "") (its.map (·.2.1)) = S
  rmks : (its.filter remK).map (·.2.1) = rmksOf rows
  ok : ∀ r ∈ its, PyData.strOk r.1 = true ∧ PyData.strOk r.2.1 = true
  len : its.length ≤ 46
  wide : ((its.map (·.2.1)).map (·.length)).sum + (its.map (·.2.1)).length * 64 ≤ 16777216
  size : S.length ≤ 700
theorem kinds_ok {rows : List Row} (h : Law rows) : ∀ p ∈ rows, PyData.strOk p.1 = true := by
  induction h with
  | nil => intro p hp; cases hp
  | stray _ _ => intro p hp; rw [List.mem_singleton.mp hp]; show PyData.strOk (Str.ofString "stray") = true; decide +kernel
  | @solid k t u r h _ ih =>
    intro p hp
    rcases List.mem_cons.mp hp with rfl | hp
    · have h1 : ∀ k ∈ solidK, PyData.strOk k = true := by decide +kernel
      exact h1 _ h.2.2.1
    · exact ih p hp
  | gap _ _ _ ih =>
    intro p hp
    rcases List.mem_cons.mp hp with rfl | hp
    · show PyData.strOk (Str.ofString "gap") = true; decide +kernel
    · exact ih p hp
  | rmk _ _ ih =>
    intro p hp
    rcases List.mem_cons.mp hp with rfl | hp
    · show PyData.strOk (Str.ofString "remark") = true; decide +kernel
    · exact ih p hp
theorem place_mem {rows : List Row} {n : Nat} {r : Str × Str × Nat} (h : r ∈ place rows n) : ∃ p ∈ rows, p.1 = r.1 ∧ p.2.1 = r.2.1 := by
  induction rows generalizing n with
  | nil => cases h
  | cons p rs ih =>
    obtain ⟨k, t, u⟩ := p
    rcases List.mem_cons.mp h with rfl | h
    · exact ⟨_, .head _, rfl, rfl⟩
    · obtain ⟨q, hq, e⟩ := ih h
      exact ⟨q, .tail _ hq, e⟩
theorem rows_fine {i : Nat} {rows : List Row} {x y : Str} (hT : Turns i rows) (htl : (x, y) ∈ tails) : ∀ p ∈ rows ++ tailR x y, fine p.2.1 = true := fun p hp => (List.mem_append.mp hp).elim (hT.fine p) (tailR_fine htl p)
theorem fine_ok {t : Str} (h : fine t = true) : PyData.strOk t = true := by unfold fine at h; rw [Bool.and_eq_true] at h; exact h.2
theorem sum_le {rows : List Row} (h : ∀ p ∈ rows, fine p.2.1 = true) : ((rows.map (·.2.1)).map (·.length)).sum ≤ 14 * rows.length := by
  induction rows with
  | nil => exact Nat.zero_le _
  | cons p r ih =>
    have h1 := fine_len (h p (.head _))
    have h2 := ih fun q hq => h q (.tail _ hq)
    simp only [List.map_cons, List.sum_cons, List.length_cons]
    omega
theorem facts_of {i : Nat} {rows : List Row} {x y S : Str} (hT : Turns i rows) (hi : i < 10) (htl : (x, y) ∈ tails) (hS : S.cps.toList = flat (rows ++ tailR x y)) : Facts (rows ++ tailR x y) S (place (rows ++ tailR x y) 0) := by
  have hL : Law (rows ++ tailR x y) := (hT.law _ (tail_law htl).1 (tail_law htl).2).1
  have hf := rows_fine hT htl
  have h1 := hT.len
  have h2 := tailR_len x y
  have h3 : (rows ++ tailR x y).length ≤ 46 := by rw [List.length_append]; omega
  have h4 := flat_len hf
  have hs0 : suf S 0 = flat (rows ++ tailR x y) := hS
  refine ⟨items_of hL.lex S 0 hs0, hL.chain 0 hs0, ?_, ?_, ?_, by rw [place_length]; exact h3, ?_, ?_⟩
  · rw [place_map]
    refine str_ext ?_
    show (Builtin.Str.glued _ _).cps.toList = _
    rw [StrLaws.glued_eq_join, join0_codes, hS]
  · exact place_filter (fun k => k == Str.ofString "remark") _ 0
  · intro r hr
    obtain ⟨p, hp, e1, e2⟩ := place_mem hr
    rw [← e1, ← e2]
    exact ⟨kinds_ok hL p hp, fine_ok (hf p hp)⟩
  · rw [place_map, List.length_map]
    have := sum_le hf
    omega
  · rw [← len_codes, hS]; omega
open Classical in
theorem ne_same {prog : Program} {w : World} {A : Around} {E : Value → Shared → Prop} {s : Shared} {a b : Value} {d : Dat} {Q : Value → Shared → Prop} (ra : ∃ as, Reads s.heap a (kqdP d) as) (rb : ∃ bs, Reads s.heap b (kqdP d) bs)
    (ha : kqdOk 9 d = true) (hu : A.units + 64 < cLine) (h : Q (.bool false) s) : wpAny (model prog w) A (compareOp .NotEq a b) Q E s := by
  refine ne_dat ra rb ha ha hu ?_
  rw [decide_eq_true rfl]; exact h
theorem bne_no {a : Str} {P : Prop} (h : (a != a) = true) : P := absurd h (by simp)
/-- what the law is to do -/
noncomputable def LawQ (s1 : Shared) (fl : Flow) (s' : Shared) : Prop := ∃ h' tk t m', fl = .ret (.bool true) ∧ s' = { s1 with heap := h', toks := tk } ∧ Fr s1.heap t h' m'
end
section
open PySem PySem.W PyProof.Rows PySem.Spec PySem.Calls
theorem apart_full {c : Sc} {p p' : Nat} {tp tp' : Tok} {rv rv' : List Value} {rn rn' : Nat} {po po' : Obj} {R : List (Addr × Obj)} (h : Apart (full c p tp rv rn po) R) : Apart (full c p' tp' rv' rn' po') R := by
  intro q hq r hr
  have h1 : ∃ q0 ∈ full c p tp rv rn po, q0.1 = q.1 := by
    rcases List.mem_cons.mp hq with rfl | hq
    · exact ⟨_, .head _, rfl⟩
    rcases List.mem_cons.mp hq with rfl | hq
    · exact ⟨_, .tail _ (.head _), rfl⟩
    rcases List.mem_cons.mp hq with rfl | hq
    · exact ⟨_, .tail _ (.tail _ (.head _)), rfl⟩
    rcases List.mem_cons.mp hq with rfl | hq
    · exact ⟨_, .tail _ (.tail _ (.tail _ (.head _))), rfl⟩
    rcases List.mem_cons.mp hq with rfl | hq
    · exact ⟨_, .tail _ (.tail _ (.tail _ (.tail _ (.head _)))), rfl⟩
    rcases List.mem_cons.mp hq with rfl | hq
    · exact ⟨_, .tail _ (.tail _ (.tail _ (.tail _ (.tail _ (.head _))))), rfl⟩
    rw [List.mem_singleton.mp hq]
    exact ⟨_, .tail _ (.tail _ (.tail _ (.tail _ (.tail _ (.tail _ (.head _)))))), rfl⟩
  obtain ⟨q0, h2, e⟩ := h1
  rw [← e]; exact h q0 h2 r hr
open Classical in
theorem ne_strs {prog : Program} {w : World} {A : Around} {E : Value → Shared → Prop} {s : Shared} {h₀ : Heap} {L : Addr} {news : List (Addr × Obj)} {a b : Addr} {oa ob : Obj} {xs ys : List Value} {zs : List Str} {Q : Value → Shared → Prop} (N : News h₀ L s.heap news) (ma : (a, oa) ∈ news) (la : ListOb oa xs) (ha : StrsAre xs zs) (mb : (b, ob) ∈ news) (lb : ListOb ob ys) (hb : StrsAre ys zs) (ok : ∀ z ∈ zs, PyData.strOk z = true) (hu : A.units + 64 < cLine) (h : Q (.bool false) s) :
    wpAny (model prog w) A (compareOp .NotEq (.ref a) (.ref b)) Q E s := by
  have hko : ∀ d ∈ zs.map Dat.str, kqdOk 8 d = true := by
    intro d hd
    obtain ⟨x, hx, rfl⟩ := List.mem_map.mp hd
    exact ok x hx
  refine kqd_ne N ma la.1 la.2.choose_spec (datAll_strs ha) (fun _ h => h) mb lb.1 lb.2.choose_spec (datAll_strs hb) (fun _ h => h) hko hko hu ?_
  rw [decide_eq_true rfl]; exact h
/-- the scanner, as it lies when it is made -/
theorem reader_of {h₀ h : Heap} {L : Addr} {R : List (Addr × Obj)} {S : Str} {tS : Tok} {sx sd : Nat} {c1 : Int} {k1 : Tok} {c2 : Int} {k2 : Tok} {c3 : Int} {k3 : Tok} {tp : Tok} {c4 : Int} {k4 : Tok} {wa : Nat} {wv : List Value} {ex ed : Nat} {g1 : Int} {j1 : Tok} {rl : Nat} {g2 : Int} {j2 : Tok} {pl : Nat} {po : Obj}
    (N : News h₀ L h ((meL sx sd c1 k1 S tS c2 k2 ex c3 k3 0 tp c4 k4 wa ++ [(wa, tupObj wv)]) ++ (errL ex ed g1 j1 rl g2 j2 pl [] 0 po ++ R))) (A8 : Apart (meL sx sd c1 k1 S tS c2 k2 ex c3 k3 0 tp c4 k4 wa ++ [(wa, tupObj wv)]) (errL ex ed g1 j1 rl g2 j2 pl [] 0 po ++ R)) (A9 : Apart (errL ex ed g1 j1 rl g2 j2 pl [] 0 po) R)
    (hS : S.length ≤ 1048576) (hw : StrsAre wv kwords) (n1 : @Ne Nat sx sd) (n2 : @Ne Nat sx wa) (n3 : @Ne Nat sd wa) (l1 : @Ne Nat rl ex) (l2 : @Ne Nat rl ed) (l3 : @Ne Nat rl pl) (l4 : @Ne Nat pl ex) (l5 : @Ne Nat pl ed) :
    ∃ sc : Sc, sc.Ok ∧ sc.S = S ∧ sc.tS = tS ∧ sc.x = sx ∧ News h₀ L h (full sc 0 tp [] 0 po ++ R) ∧ Apart (full sc 0 tp [] 0 po) R := by
  refine ⟨⟨sx, sd, c1, k1, S, tS, c2, k2, ex, c3, k3, c4, k4, wa, wv, ed, g1, j1, rl, g2, j2, pl⟩, ⟨hS, hw, n1, n2, n3, ?_, ?_, ?_, ?_, ?_, ?_, ?_, ?_, ?_, ?_, ?_, ?_, l1, l2, l3, l4, l5⟩, rfl, rfl, rfl, fun p hp => N p (by rw [← List.append_assoc]; exact hp), ?_⟩
  · exact A8 _ (.head _) _ (.head _)
  · exact A8 _ (.tail _ (.head _)) _ (.head _)
  · exact A8 _ (.tail _ (.tail _ (.head _))) _ (.head _)
  · exact A8 _ (.head _) _ (.tail _ (.head _))
  · exact A8 _ (.tail _ (.head _)) _ (.tail _ (.head _))
  · exact A8 _ (.tail _ (.tail _ (.head _))) _ (.tail _ (.head _))
  · exact A8 _ (.head _) _ (.tail _ (.tail _ (.head _)))
  · exact A8 _ (.tail _ (.head _)) _ (.tail _ (.tail _ (.head _)))
  · exact A8 _ (.tail _ (.tail _ (.head _))) _ (.tail _ (.tail _ (.head _)))
  · exact A8 _ (.head _) _ (.tail _ (.tail _ (.tail _ (.head _))))
  · exact A8 _ (.tail _ (.head _)) _ (.tail _ (.tail _ (.tail _ (.head _))))
  · exact A8 _ (.tail _ (.tail _ (.head _))) _ (.tail _ (.tail _ (.tail _ (.head _))))
  · intro p hp q hq
    have hp' : p ∈ (meL sx sd c1 k1 S tS c2 k2 ex c3 k3 0 tp c4 k4 wa ++ [(wa, tupObj wv)]) ++ errL ex ed g1 j1 rl g2 j2 pl [] 0 po := hp
    rcases List.mem_append.mp hp' with h | h
    · exact A8 p h q (List.mem_append_right _ hq)
    · exact A9 p h q hq
/-- what the law needs of its second source -/
structure Facts2 (its : List (Str × Str × Nat)) (S2 : Str) (itt : List (Str × Str × Nat)) : Prop where
  items : Items S2 0 itt
  ok : ∀ r ∈ itt, PyData.strOk r.2.1 = true
  len : itt.length ≤ 92
  size : S2.length ≤ 1400
  eq : (its.filter keepK).map (·.2.1) = (itt.filter keepK).map (·.2.1)
theorem spc_mem : ∀ (l : List Row), ∀ p ∈ spc l, p ∈ l ∨ p = gapR (Str.ofString " ")
  | [], p, hp => by cases hp
  | [_], p, hp => .inl hp
  | a :: b :: r, p, hp => by
    have e : spc (a :: b :: r) = a :: gapR (Str.ofString " ") :: spc (b :: r) := rfl
    rw [e] at hp
    rcases List.mem_cons.mp hp with rfl | hp
    · exact .inl (.head _)
    rcases List.mem_cons.mp hp with rfl | hp
    · exact .inr rfl
    rcases spc_mem (b :: r) p hp with h | h
    · exact .inl (.tail _ h)
    · exact .inr h
theorem spc_len : ∀ (l : List Row), (spc l).length ≤ 2 * l.length
  | [] => Nat.le_refl _
  | [_] => by show 1 ≤ 2; decide
  | a :: b :: r => by
    have e : spc (a :: b :: r) = a :: gapR (Str.ofString " ") :: spc (b :: r) := rfl
    have := spc_len (b :: r)
    rw [e]
    simp only [List.length_cons] at *
    omega
noncomputable def keepR (k : Str) : Bool := !(k == Str.ofString "gap") && !(k == Str.ofString "remark")
theorem keep_noGap (l : List Row) : (l.filter noGap).filter (fun p => keepR p.1) = l.filter fun p => keepR p.1 := by
  rw [List.filter_filter]
  refine List.filter_congr fun p _ => ?_
  unfold keepR noGap
  cases (p.1 == Str.ofString "gap") <;> simp
theorem facts2_of {i : Nat} {rows : List Row} {x y : Str} (hT : Turns i rows) (hi : i < 10) (htl : (x, y) ∈ tails) : ∃ itt, Facts2 (place (rows ++ tailR x y) 0) (Txt.join (Str.ofString " ") (((place (rows ++ tailR x y) 0).filter gapK).map (·.2.1))) itt := by
  have hL := spaced_law hT htl
  have hf := rows_fine hT htl
  have hgr : ((place (rows ++ tailR x y) 0).filter gapK).map (·.2.1) = ((rows ++ tailR x y).filter noGap).map (·.2.1) := place_filter (fun k => !(k == Str.ofString "gap")) _ 0
  rw [hgr]
  have h1 := hT.len
  have h2 := tailR_len x y
  have h3 : (rows ++ tailR x y).length ≤ 46 := by rw [List.length_append]; omega
  have h4 : ((rows ++ tailR x y).filter noGap).length ≤ 46 := Nat.le_trans (List.length_filter_le _ _) h3
  have hsf : ∀ p ∈ spc ((rows ++ tailR x y).filter noGap), fine p.2.1 = true := fun p hp => by
    rcases spc_mem _ p hp with h | rfl
    · exact hf p (List.mem_filter.mp h).1
    · show fine (Str.ofString " ") = true; decide +kernel
  have h5 := spc_len ((rows ++ tailR x y).filter noGap)
  have h6 := flat_len hsf
  have e : (Txt.join (Str.ofString " ") (((rows ++ tailR x y).filter noGap).map (·.2.1))).cps.toList = flat (spc ((rows ++ tailR x y).filter noGap)) := by
    show (Builtin.Str.glued _ _).cps.toList = _
    rw [StrLaws.glued_eq_join, join_codes]
  refine ⟨place (spc ((rows ++ tailR x y).filter noGap)) 0, items_of hL.lex _ 0 e, ?_, by rw [place_length]; omega, ?_, ?_⟩
  · intro r hr
    obtain ⟨p, hp, _, e2⟩ := place_mem hr
    rw [← e2]; exact fine_ok (hsf p hp)
  · rw [← len_codes, e]; omega
  · have e1 := place_filter keepR (rows ++ tailR x y) 0
    have e2 := place_filter keepR (spc ((rows ++ tailR x y).filter noGap)) 0
    rw [spc_filter keepR (by decide), keep_noGap] at e2
    exact e1.trans e2.symm
theorem spaced_wide {rows : List Row} {S : Str} {its : List (Str × Str × Nat)} (h : Facts rows S its) : ((((its.filter gapK).map (·.2.1)).map (·.length)).sum + ((its.filter gapK).map (·.2.1)).length * 64) ≤ 16777216 := by
  have h1 := h.wide
  have h2 : ∀ l : List (Str × Str × Nat), (((l.filter gapK).map (·.2.1)).map (·.length)).sum ≤ ((l.map (·.2.1)).map (·.length)).sum := by
    intro l
    induction l with
    | nil => exact Nat.le_refl _
    | cons a l ih =>
      rw [List.filter_cons]
      split
      · simp only [List.map_cons, List.sum_cons]; omega
      · simp only [List.map_cons, List.sum_cons]; omega
  have h3 := h2 its
  have h4 : ((its.filter gapK).map (·.2.1)).length ≤ (its.map (·.2.1)).length := by
    rw [List.length_map, List.length_map]; exact List.length_filter_le _ _
  have h5 : ((its.filter gapK).map (·.2.1)).length * 64 ≤ (its.map (·.2.1)).length * 64 := Nat.mul_le_mul_right _ h4
  omega
theorem toks_mem {rows : List Row} {n : Nat} {r : Str × Nat} (h : r ∈ toks rows n) : ∃ p ∈ rows, p.2.2 = r.1 := by
  induction rows generalizing n with
  | nil => cases h
  | cons p rs ih =>
    obtain ⟨k, t, u⟩ := p
    rcases List.mem_append.mp h with h | h
    · split at h
      · cases h
      · rw [List.mem_singleton.mp h]; exact ⟨_, .head _, rfl⟩
    · obtain ⟨q, hq, e⟩ := ih h
      exact ⟨q, .tail _ hq, e⟩
theorem pieces_tok : ∀ p ∈ pieces, PyData.strOk p.2.2 = true := by decide +kernel
theorem tails_tok : ∀ p ∈ tails, PyData.strOk p.2 = true := by decide +kernel
theorem toks_ok {i : Nat} {rows : List Row} {x y : Str} (hT : Turns i rows) (htl : (x, y) ∈ tails) : ∀ r ∈ toks (rows ++ tailR x y) 0, PyData.strOk r.1 = true := by
  intro r hr
  obtain ⟨p, hp, e⟩ := toks_mem hr
  rw [← e]
  have h0 : PyData.strOk (Str.ofString "") = true := by decide +kernel
  rcases List.mem_append.mp hp with hp | hp
  · rcases hT.mem p hp with h | ⟨g, _, rfl⟩ | ⟨m, _, rfl⟩
    · exact pieces_tok p h
    · exact h0
    · exact h0
  · unfold tailR at hp
    split at hp
    · cases hp
    · rw [List.mem_singleton.mp hp]; exact tails_tok _ htl
theorem app_mid {α : Type} {A R : List α} {x : α} : ∀ p ∈ A ++ R, p ∈ A ++ (R ++ [x]) := fun _ h => (List.mem_append.mp h).elim (List.mem_append_left _) fun h => List.mem_append_right _ (List.mem_append_left _ h)
theorem app_ne {A R : List (Addr × Obj)} {I : Addr} (h1 : ∀ p ∈ A, p.1 ≠ I) (h2 : ∀ p ∈ R, p.1 ≠ I) : ∀ p ∈ A ++ R, p.1 ≠ I := fun p h => (List.mem_append.mp h).elim (h1 p) (h2 p)
theorem law_post (ns : List Int) : Challenge.rw_pb0353_01.row.claim.post [ofPy (PyData.list (List.map PyData.int ns))] (.bool true) [ofPy (PyData.list (List.map PyData.int ns))] = true := by wrow_post
theorem law_raises (ns : List Int) : ∀ cls, Challenge.rw_pb0353_01.row.claim.raises [ofPy (PyData.list (List.map PyData.int ns))] cls = false := raisesW_false (by wrow_none_raised)
end
theorem rst_LawG : Hold True := by (w_top off); first | walk1 | exact True.intro
theorem warm_LawG : ∀ P, (Challenge.rw_pb0353_01, hd.heap_1 P) = (Challenge.rw_pb0353_01, hd.heap_1 P) := by k_fill; intro P; rfl
local macro_rules | `(tactic| walk_at "call ref") => `(tactic| refine Hold.out ?_)
local macro_rules | `(tactic| walk_at "exec For") => `(tactic| refine Hold.out ?_)
local macro_rules | `(tactic| walk_at "pyIter str") => `(tactic| refine Hold.out ?_)
local macro_rules | `(tactic| walk_at "pyIter ref") => `(tactic| refine Hold.out ?_)
local macro_rules | `(tactic| walk_at "GPost") => `(tactic| (dsimp only [GPost]))
local macro_rules | `(tactic| walk_at "GEnd") => `(tactic| refine Hold.out ?_)
local macro_rules | `(tactic| walk_at "exec For Name Call cons nil") => `(tactic| refine Hold.out ?_)
local macro_rules | `(tactic| walk_at "call builtin:len") => `(tactic| ((with_reducible show wpAny _ _ (call (Value.builtin "len") [Value.ref _]) _ _ _); refine Hold.out ?_))
local macro_rules | `(tactic| walk_at "apart1") => `(tactic| with_reducible assumption)
local macro_rules | `(tactic| walk_at "exec If") => `(tactic| ((rename JMark => hMk9); refine Hold.out ?_))
local macro_rules | `(tactic| walk_at "exec Assign cons BoolOp") => `(tactic| ((rename JMark => hMk9); refine Hold.out ?_))
local macro_rules | `(tactic| walk_at "JPost") => `(tactic| (dsimp only [JPost]))
local macro_rules | `(tactic| walk_at "JEnd") => `(tactic| refine Hold.out ?_)
local macro_rules | `(tactic| walk_at "mem2") => `(tactic| first | exact List.mem_cons_self | (refine List.mem_cons_of_mem _ ?_; walk_at "mem2"))
local macro_rules | `(tactic| walk_at "cn2") => `(tactic| first | exact fun _ h9 => h9 | (refine' sub_cons ?q1 ?q2; (case q1 => walk_at "mem2"); (case q2 => walk_at "cn2")) | (refine' sub_tail ?q3; (case q3 => walk_at "cn2")))
local macro_rules | `(tactic| walk_at "HPost") => `(tactic| (dsimp only [HPost]))
local macro_rules | `(tactic| walk_at "HEnd") => `(tactic| refine Hold.out ?_)
local macro_rules | `(tactic| walk_at "ka1") => `(tactic| first | exact List.forall_mem_nil _ | (refine List.forall_mem_cons.mpr ⟨by exact rfl, ?_⟩; walk_at "ka1"))
local macro_rules | `(tactic| walk_at "LawQ") => `(tactic| refine Hold.out ?_)
local macro_rules | `(tactic| walk_at "exec Assign cons Call") => `(tactic| ((rename JMark => hMk9); refine Hold.out ?_))
local macro_rules | `(tactic| walk_at "exec For Name Name cons nil") => `(tactic| refine Hold.out ?_)
theorem kqn : namesOk q0 (looseW q0 []) (namesW q0 []) = true := by
  rw [Fast.te17448422675489707002, Fast.te821141287760084731]; kernel_rfl
theorem kqi : importsNone q0 = true := by
  rw [Fast.te2458874890965802552]; kernel_rfl
local macro_rules | `(tactic| k_qdec) => `(tactic| first | exact kqn | exact kqi)
noncomputable def LW1 : PSigma fun G : (World → Shared → Shared → (Str → Option Value) → (Str → Option Value) → Addr → Addr → Nat → Nat → Nat → Nat → Nat → Nat → Nat → Int → Prop) × (World → Shared → Shared → (Str → Option Value) → (Str → Option Value) → Addr → Addr → Nat → Nat → Nat → Nat → Nat → Nat → Nat → Int → Prop) => (∀ (w : World) (s0 s1 : Shared) (mg mb : Str → Option Value) (fa w7 : Addr) (sl pa wl tk3 da ta ra : Nat) (n : Int) (KX : (hd.heap_1 w.params).In s1.heap) (T : Top q0 (looseW q0 []) (ExcName.means s0.heap) mg mb s1.heap) (B1 : Below callerA s1.heap [] s1.heap) (hpw : @Ne Nat pa wl) (p1 : @Ne Nat pa da) (p2 : @Ne Nat pa ta) (p3 : @Ne Nat pa ra) (p4 : @Ne Nat wl da) (p5 : @Ne Nat wl ta) (p6 : @Ne Nat wl ra) (p7 : @Ne Nat da ta) (p8 : @Ne Nat da ra) (p9 : @Ne Nat ta ra) (n0 : 0 ≤ n) (n1 : n < 10), G.1 w s0 s1 mg mb fa w7 sl pa wl tk3 da ta ra n) → (∀ (w : World) (s0 s1 : Shared) (mg mb : Str → Option Value) (fa w7 : Addr) (sl pa wl tk3 da ta ra : Nat) (n : Int) (KX : (hd.heap_1 w.params).In s1.heap) (T : Top q0 (looseW q0 []) (ExcName.means s0.heap) mg mb s1.heap) (B1 : Below callerA s1.heap [] s1.heap) (hpw : @Ne Nat pa wl) (p1 : @Ne Nat pa da) (p2 : @Ne Nat pa ta) (p3 : @Ne Nat pa ra) (p4 : @Ne Nat wl da) (p5 : @Ne Nat wl ta) (p6 : @Ne Nat wl ra) (p7 : @Ne Nat da ta) (p8 : @Ne Nat da ra) (p9 : @Ne Nat ta ra) (n0 : 0 ≤ n) (n1 : n < 10), G.2 w s0 s1 mg mb fa w7 sl pa wl tk3 da ta ra n) → PySem.Challenge.rw_pb0353_01.Holds := ⟨(_, _), fun hT hD => hd (by
    k_go0
    (all_goals try k_fold)
    rename_i w s0 s1 mg mb G Y fa o pm doc kV ho hg KX X V GL T B TE TW w9 w8 M w7 w6 hcd ns hs hlay0 hLy hr1 hl2 w4 w3 sl vs w0 hL ra wl1 r0 hI hr hc1 hc2 K0 hD h1 F N0
    refine wpAny_mono (Q := LawQ s1) (E := fun _ _ => False) ?walk ?post ?err
    case walk =>
      have B1 : Below callerA s1.heap [] s1.heap := K0
      clear G Y ho hg X V GL B TE TW M hcd hs hlay0 hLy hr1 hl2 ra wl1 r0 hr hc2 hD K0
      (try dsimp only); (try k_fold)
      walk_at "steps"
      have hvl := hI.length
      refine Hold.out ?_
      refine' SpG.call (stock_sp sl vs ns hI (by omega)) hL B1 F KX N0 T ?kK ?kd ?ku ?_
      (case kK => rfl)
      (case kd => decide)
      (case ku => (simp [callerA, Around.deeper]; decide))
      rintro v9 o9 h9 tk9 F9 N9 A9 ⟨pa, wl, ws, we, t0, tt0, ep, rfl, rfl, hpw, hok⟩
      clear hL hI hvl hc1 N0 F A9
      simp only [List.append_nil] at N9
      (try k_sweep); (try dsimp only); (try k_fold)
      walk_at "steps"
      (rename Fr _ _ _ _ => F0)
      refine For_invVF F0 rfl rfl ?_
      (try k_fold)
      walk_at "steps"
      rename_i tk3 _ da _ l1a _ _ ta _ l1b _ _ ra _ l1c _ N1
      simp only [poolL] at N1
      have p1 : @Ne Nat pa da := by k_ne
      have p2 : @Ne Nat pa ta := by k_ne
      have p3 : @Ne Nat pa ra := by k_ne
      have p4 : @Ne Nat wl da := by k_ne
      have p5 : @Ne Nat wl ta := by k_ne
      have p6 : @Ne Nat wl ra := by k_ne
      have p7 : @Ne Nat da ta := by k_ne
      have p8 : @Ne Nat da ra := by k_ne
      have p9 : @Ne Nat ta ra := by k_ne
      clear l1a l1b l1c
      refine Hold.out ?_
      refine' callPick (pick_sp pa wl ws we t0 tt0 ep hpw hok 10 _ (by decide) (by decide)) ?k1 ?k2 ?k3 ?k4 ?kp ?ka ?k5 ?kK ?kd ?ku ?_
      walk_at "useP"
      intro n n0 n1 tn ws1 we1 t1 tt1 ep1 h9 tk9 F9 N9 hok1
      dsimp only [poolL, List.nil_append, List.cons_append] at N9
      (try k_sweep); (try dsimp only); (try k_fold)
      walk_at "steps"
      (rename News _ _ _ _ => N2)
      (rename Fr _ _ _ _ => F2)
      (rename IsRange _ _ _ _ _ _ _ _ => R2)
      obtain ⟨rs, rz⟩ := range_facts n0 n1
      have N3 : News s1.heap s1.heap.objs.size _ (ledL pa wl da ta ra ⟨ws1, we1, t1, tt1, ep1, Str.ofString "", tk3, [], 0, [], 0, [], 0, []⟩) := fun p hp => N2 p (by
        simp only [ledL, List.mem_cons, List.not_mem_nil, or_false] at hp ⊢
        rcases hp with h | h | h | h | h <;> simp only [h, true_or, or_true])
      refine Hold.out ?_
      refine for_rangeH (ledL pa wl da ta ra) (fun c => [(Str.ofString "pool", .ref pa), (Str.ofString "source", .str c.S c.tS), (Str.ofString "due", .ref da), (Str.ofString "tokens", .ref ta), (Str.ofString "remarks", .ref ra)]) (LP pa wl da ta ra) _ rfl R2 rs rz F2 N3 (by ((try dsimp only); walk_at "ka1")) ⟨Off.nil _ _ _ _ _, [], .nil, LOk.start _ _ _ _ _ _ _ _ _ hok1⟩ ?turn ?done
      case turn => dsimp only; exact hT w s0 s1 mg mb fa w7 sl pa wl tk3 da ta ra n KX T B1 hpw p1 p2 p3 p4 p5 p6 p7 p8 p9 n0 n1
      case done => dsimp only [qk]; exact hD w s0 s1 mg mb fa w7 sl pa wl tk3 da ta ra n KX T B1 hpw p1 p2 p3 p4 p5 p6 p7 p8 p9 n0 n1
    case post =>
      rintro fl s' ⟨h', tk, t, m', rfl, rfl, F'⟩
      exact goodW_bool F' hg (law_raises ns) (law_post ns)
    case err => exact fun _ _ h => h.elim)⟩
namespace law_turn_at
noncomputable def St (w : World) (s0 : Shared) (s1 : Shared) (mg : Str → Option Value) (mb : Str → Option Value) (fa : Addr) (w7 : Addr) (sl : Nat) (pa : Nat) (wl : Nat) (tk3 : Nat) (da : Nat) (ta : Nat) (ra : Nat) (n : Int) : Prop := ∀ (KX : (hd.heap_1 w.params).In s1.heap) (T : Top q0 (looseW q0 []) (ExcName.means s0.heap) mg mb s1.heap) (B1 : Below callerA s1.heap [] s1.heap) (hpw : @Ne Nat pa wl) (p1 : @Ne Nat pa da) (p2 : @Ne Nat pa ta) (p3 : @Ne Nat pa ra) (p4 : @Ne Nat wl da) (p5 : @Ne Nat wl ta) (p6 : @Ne Nat wl ra) (p7 : @Ne Nat da ta) (p8 : @Ne Nat da ra) (p9 : @Ne Nat ta ra) (n0 : 0 ≤ n) (n1 : n < 10), LW1.1.1 w s0 s1 mg mb fa w7 sl pa wl tk3 da ta ra n
noncomputable def Pz (z : (World) × (Shared) × (Shared) × (Str → Option Value) × (Str → Option Value) × (Addr) × (Addr) × (Nat) × (Nat) × (Nat) × (Nat) × (Nat) × (Nat) × (Nat) × (Int)) : Prop := St (z.1) (z.2.1) (z.2.2.1) (z.2.2.2.1) (z.2.2.2.2.1) (z.2.2.2.2.2.1) (z.2.2.2.2.2.2.1) (z.2.2.2.2.2.2.2.1) (z.2.2.2.2.2.2.2.2.1) (z.2.2.2.2.2.2.2.2.2.1) (z.2.2.2.2.2.2.2.2.2.2.1) (z.2.2.2.2.2.2.2.2.2.2.2.1) (z.2.2.2.2.2.2.2.2.2.2.2.2.1) (z.2.2.2.2.2.2.2.2.2.2.2.2.2.1) (z.2.2.2.2.2.2.2.2.2.2.2.2.2.2)
theorem ne : Nonempty ((World) × (Shared) × (Shared) × (Str → Option Value) × (Str → Option Value) × (Addr) × (Addr) × (Nat) × (Nat) × (Nat) × (Nat) × (Nat) × (Nat) × (Nat) × (Int)) := ⟨((Classical.choice ctx_ne).w, (Classical.choice ctx_ne).s, (Classical.choice ctx_ne).s, fun _ => none, fun _ => none, default, default, default, default, default, default, default, default, default, default)⟩
noncomputable def z : (World) × (Shared) × (Shared) × (Str → Option Value) × (Str → Option Value) × (Addr) × (Addr) × (Nat) × (Nat) × (Nat) × (Nat) × (Nat) × (Nat) × (Nat) × (Int) := ec ne Pz
@[irreducible] noncomputable def w : World := z.1
@[irreducible] noncomputable def s0 : Shared := z.2.1
@[irreducible] noncomputable def s1 : Shared := z.2.2.1
@[irreducible] noncomputable def mg : Str → Option Value := z.2.2.2.1
@[irreducible] noncomputable def mb : Str → Option Value := z.2.2.2.2.1
@[irreducible] noncomputable def fa : Addr := z.2.2.2.2.2.1
@[irreducible] noncomputable def w7 : Addr := z.2.2.2.2.2.2.1
@[irreducible] noncomputable def sl : Nat := z.2.2.2.2.2.2.2.1
@[irreducible] noncomputable def pa : Nat := z.2.2.2.2.2.2.2.2.1
@[irreducible] noncomputable def wl : Nat := z.2.2.2.2.2.2.2.2.2.1
@[irreducible] noncomputable def tk3 : Nat := z.2.2.2.2.2.2.2.2.2.2.1
@[irreducible] noncomputable def da : Nat := z.2.2.2.2.2.2.2.2.2.2.2.1
@[irreducible] noncomputable def ta : Nat := z.2.2.2.2.2.2.2.2.2.2.2.2.1
@[irreducible] noncomputable def ra : Nat := z.2.2.2.2.2.2.2.2.2.2.2.2.2.1
@[irreducible] noncomputable def n : Int := z.2.2.2.2.2.2.2.2.2.2.2.2.2.2
theorem main : St w s0 s1 mg mb fa w7 sl pa wl tk3 da ta ra n := by
  intro KX T B1 hpw p1 p2 p3 p4 p5 p6 p7 p8 p9 n0 n1
  unfold LW1
  dsimp only
  rintro ⟨ws, we, t, tt, ep, S, tS, dv, gd, tv, gt, rv, gr, objs⟩ i tk u h tk I o hi hne ⟨hoff, rows, hT, hO⟩ F4 N4
  obtain ⟨z1, z2, z3, z4⟩ := LP.sizes hO hT (by omega)
  obtain ⟨o1, o2, o3, o4, o5⟩ := hoff
  have j1 : @Ne Nat ra I := hne _ (.head _)
  have j2 : @Ne Nat ta I := hne _ (.tail _ (.head _))
  have j3 : @Ne Nat da I := hne _ (.tail _ (.tail _ (.head _)))
  have j4 : @Ne Nat pa I := hne _ (.tail _ (.tail _ (.tail _ (.head _))))
  have j5 : @Ne Nat wl I := hne _ (.tail _ (.tail _ (.tail _ (.tail _ (.head _)))))
  have j6 : ∀ p ∈ objs, I ≠ p.1 := fun p hp => Ne.symm (hne p (.tail _ (.tail _ (.tail _ (.tail _ (.tail _ hp))))))
  have N5 := reI N4
  clear N4 hne
  dsimp only at z1 z2 z3 z4 o1 o2 o3 o4 o5 N5 F4 ⊢
  have hP := hO.pool
  have q1 : dv.toArray.size ≤ sizeLine := by rw [List.size_toArray, sizeLine_eq]; omega
  have q2 : tv.toArray.size ≤ sizeLine := by rw [List.size_toArray, sizeLine_eq]; omega
  have q3 : rv.toArray.size ≤ sizeLine := by rw [List.size_toArray, sizeLine_eq]; omega
  (try k_fold)
  walk_at "steps"
  refine Hold.out ?_
  refine' callE12 (piece_E pa wl ws we t tt ep hpw hP) (fun _ _ h => h) ?k1 ?k2 ?k3 ?k4 ?kp ?ka ?k5 ?kK ?kd ?ku ?_
  walk_at "useP"
  intro a1 k tk1 x tx y ty ws2 we2 t2 tt2 ep2 h9 tk9 F9 N9 A9 hS9
  have hP2 := hS9.1
  have hpc := hS9.2
  clear hS9
  dsimp only [poolL, List.nil_append, List.cons_append] at N9
  have e1 : @Ne Nat a1 ra := A9 _ (.head _) _ (.tail _ (.head _))
  have e2 : @Ne Nat a1 ta := A9 _ (.head _) _ (.tail _ (.tail _ (.head _)))
  have e3 : @Ne Nat a1 da := A9 _ (.head _) _ (.tail _ (.tail _ (.tail _ (.head _))))
  have o3' := flip_ne o3
  have o4' := flip_ne o4
  have o5' := flip_ne o5
  obtain ⟨y1, y2, y3⟩ := piece_fine hpc
  have hMk := jMark
  clear A9 N5 F4
  (try k_sweep); (try dsimp only); (try k_fold)
  walk_at "steps"
  rename_i tkA D1 _ L1 _ tkB D2 _ L2 _ t3 _ _ _ F6 N6
  rw [List.push_toArray, List.push_toArray] at N6
  refine Hold.out ?_
  refine cut_ex (fun c => (I, o) :: ledL pa wl da ta ra c) (fun c => [(Str.ofString "kind", .str k tk1), (Str.ofString "text", .str x tx), (Str.ofString "pool", .ref pa), (Str.ofString "source", .str c.S c.tS), (Str.ofString "due", .ref da), (Str.ofString "tokens", .ref ta), (Str.ofString "remarks", .ref ra)]) (PJ pa wl da ta ra I (rows ++ [(k, x, y)])) ⟨ws2, we2, t2, tt2, ep2, S ++ x, t3, dv ++ [.ref D1], gd + 1, tv ++ [.ref D2], gt + 1, rv, gr, (D2, tupObj [.str y ty, .int (S.length : Int) (tkB + 1)]) :: (D1, tupObj [.str k tk1, .str x tx, .int (S.length : Int) (tkA + 1)]) :: objs⟩ F6 N6 ?cn (by ((try dsimp only); walk_at "ka1")) ?cp ?_
  case cn => ((try dsimp only [ledL]); walk_at "cn2")
  case cp =>
    refine ⟨?_, hO.row y2 y3 hP2 (fun p hp => .tail _ (.tail _ hp)) (.tail _ (.head _)) (.head _)⟩
    (repeat ((rename _ ∧ _ => hA9); (obtain ⟨hB9, hC9⟩ := hA9)))
    (refine' OffI.cons ?_ ?o1 ?o2 ?o3 ?o4 ?o5 ?o6; (case o1 => (first | with_reducible assumption | exact Nat.ne_of_lt (by with_reducible assumption))); (case o2 => (first | with_reducible assumption | exact Nat.ne_of_lt (by with_reducible assumption))); (case o3 => (first | with_reducible assumption | exact Nat.ne_of_lt (by with_reducible assumption))); (case o4 => (first | with_reducible assumption | exact Nat.ne_of_lt (by with_reducible assumption))); (case o5 => (first | with_reducible assumption | exact Nat.ne_of_lt (by with_reducible assumption))); (case o6 => (first | with_reducible assumption | exact Nat.ne_of_lt (by with_reducible assumption))))
    (refine' OffI.cons ?_ ?o1 ?o2 ?o3 ?o4 ?o5 ?o6; (case o1 => (first | with_reducible assumption | exact Nat.ne_of_lt (by with_reducible assumption))); (case o2 => (first | with_reducible assumption | exact Nat.ne_of_lt (by with_reducible assumption))); (case o3 => (first | with_reducible assumption | exact Nat.ne_of_lt (by with_reducible assumption))); (case o4 => (first | with_reducible assumption | exact Nat.ne_of_lt (by with_reducible assumption))); (case o5 => (first | with_reducible assumption | exact Nat.ne_of_lt (by with_reducible assumption))); (case o6 => (first | with_reducible assumption | exact Nat.ne_of_lt (by with_reducible assumption))))
    exact ⟨⟨o1, o2, o3, o4, o5⟩, j6⟩
  clear F6 N6 hO hP hP2 L1 L2 o1 o2 o3 o4 o5 o3' o4' o5' j6 q1 q2 q3 z1 z2 z3 z4 e1 e2 e3
  rintro ⟨ws, we, t, tt, ep, S, tS, dv, gd, tv, gt, rv, gr, objs⟩ u1 h tk ⟨⟨⟨o1, o2, o3, o4, o5⟩, j6⟩, hO⟩ F4 N4
  obtain ⟨z1, z2, z3, z4⟩ := sizesJ hO hT (by omega) (show 1 ≤ 5 by decide) (fine_piece hpc)
  have hP := hO.pool
  have o3' := flip_ne o3
  have o4' := flip_ne o4
  have o5' := flip_ne o5
  dsimp only at z1 z2 z3 z4 o1 o2 o3 o4 o5 o3' o4' o5' hP j6 N4 F4 ⊢
  have q1 : dv.toArray.size ≤ sizeLine := by rw [List.size_toArray, sizeLine_eq]; omega
  have q2 : tv.toArray.size ≤ sizeLine := by rw [List.size_toArray, sizeLine_eq]; omega
  refine join_ex (fun c => (I, o) :: ledL pa wl da ta ra c) (fun c => [(Str.ofString "kind", .str k tk1), (Str.ofString "text", .str x tx), (Str.ofString "pool", .ref pa), (Str.ofString "source", .str c.S c.tS), (Str.ofString "due", .ref da), (Str.ofString "tokens", .ref ta), (Str.ofString "remarks", .ref ra)]) (fun c => ∃ d, DOk k x d ∧ PJ pa wl da ta ra I (rows ++ (k, x, y) :: d) c) F4 ?_ ?_
  · (rename JMark => hMk9); clear hMk9
    have hJ0 : PJ pa wl da ta ra I (rows ++ (k, x, y) :: []) ⟨ws, we, t, tt, ep, S, tS, dv, gd, tv, gt, rv, gr, objs⟩ := ⟨⟨⟨o1, o2, o3, o4, o5⟩, j6⟩, hO⟩
    (try k_fold)
    walk_at "steps"
    all_goals first | ((with_reducible show Hold (JEnd _ _ _ _ _ _ _)); exact JEnd.intro ⟨ws, we, t, tt, ep, S, tS, dv, gd, tv, gt, rv, gr, objs⟩ (by assumption) (by assumption) (fun _ h => h) (by ((try dsimp only); walk_at "ka1")) ⟨[], .inl rfl, hJ0⟩) | skip
    refine Hold.out ?_
    refine' callPick (pick_sp pa wl ws we t tt ep hpw hP 3 _ (by decide) (by decide)) ?k1 ?k2 ?k3 ?k4 ?kp ?ka ?k5 ?kK ?kd ?ku ?_
    walk_at "useP"
    intro r r0 r1 tr ws2 we2 t2 tt2 ep2 h9 tk9 F9 N9 hP2
    clear N4 F4
    dsimp only [poolL, List.nil_append, List.cons_append] at N9
    (try k_sweep); (try dsimp only); (try k_fold)
    walk_at "steps"
    · rename_i tkA D1 _ L1 _ tkB D2 _ L2 _ t3 _ _ _ F6 N6
      rw [List.push_toArray, List.push_toArray] at N6
      refine JEnd.intro ⟨ws2, we2, t2, tt2, ep2, S ++ Str.ofString "..", t3, dv ++ [.ref D1], gd + 1, tv ++ [.ref D2], gt + 1, rv, gr, (D2, tupObj [.str (Str.ofString "..") tkB, .int (S.length : Int) (tkB + 1 + 1)]) :: (D1, tupObj [.str (Str.ofString "sign") tkA, .str (Str.ofString "..") (tkA + 1), .int (S.length : Int) (tkA + 1 + 1 + 1)]) :: objs⟩ F6 N6 (by ((try dsimp only [ledL]); walk_at "cn2")) (by ((try dsimp only); walk_at "ka1")) ⟨[dotR], nodot_of hpc (by assumption) (by assumption), ?_, (LOk.row hO (k := Str.ofString "sign") (t := Str.ofString "..") (u := Str.ofString "..") (T1 := D1) (T2 := D2) (by decide) (by decide) hP2 (fun p hp => .tail _ (.tail _ hp)) (.tail _ (.head _)) (.head _)).cast (rows' := rows ++ (k, x, y) :: [dotR]) (by rw [List.append_assoc]; rfl)⟩
      clear hJ0
      (repeat ((rename _ ∧ _ => hA9); (obtain ⟨hB9, hC9⟩ := hA9)))
      (refine' OffI.cons ?_ ?o1 ?o2 ?o3 ?o4 ?o5 ?o6; (case o1 => (first | with_reducible assumption | exact Nat.ne_of_lt (by with_reducible assumption))); (case o2 => (first | with_reducible assumption | exact Nat.ne_of_lt (by with_reducible assumption))); (case o3 => (first | with_reducible assumption | exact Nat.ne_of_lt (by with_reducible assumption))); (case o4 => (first | with_reducible assumption | exact Nat.ne_of_lt (by with_reducible assumption))); (case o5 => (first | with_reducible assumption | exact Nat.ne_of_lt (by with_reducible assumption))); (case o6 => (first | with_reducible assumption | exact Nat.ne_of_lt (by with_reducible assumption))))
      (refine' OffI.cons ?_ ?o1 ?o2 ?o3 ?o4 ?o5 ?o6; (case o1 => (first | with_reducible assumption | exact Nat.ne_of_lt (by with_reducible assumption))); (case o2 => (first | with_reducible assumption | exact Nat.ne_of_lt (by with_reducible assumption))); (case o3 => (first | with_reducible assumption | exact Nat.ne_of_lt (by with_reducible assumption))); (case o4 => (first | with_reducible assumption | exact Nat.ne_of_lt (by with_reducible assumption))); (case o5 => (first | with_reducible assumption | exact Nat.ne_of_lt (by with_reducible assumption))); (case o6 => (first | with_reducible assumption | exact Nat.ne_of_lt (by with_reducible assumption))))
      exact ⟨⟨o1, o2, o3, o4, o5⟩, j6⟩
    · exact JEnd.intro ⟨ws2, we2, t2, tt2, ep2, S, tS, dv, gd, tv, gt, rv, gr, objs⟩ (by assumption) (by assumption) (by ((try dsimp only [ledL]); walk_at "cn2")) (by ((try dsimp only); walk_at "ka1")) ⟨[], .inl rfl, hJ0.1, hJ0.2.repool _ _ _ hP2⟩
  · clear N4 F4 hO hP o1 o2 o3 o4 o5 o3' o4' o5' j6 q1 q2 z1 z2 z3 z4
    rintro ⟨ws, we, t, tt, ep, S, tS, dv, gd, tv, gt, rv, gr, objs⟩ u2 h tk ⟨d, hd0, ⟨⟨⟨o1, o2, o3, o4, o5⟩, j6⟩, hO⟩⟩ F4 N4
    dsimp only at o1 o2 o3 o4 o5 j6 N4 F4 ⊢
    have hP := hO.pool
    dsimp only at hP
    have hJ1 : PJ pa wl da ta ra I (rows ++ (k, x, y) :: d) ⟨ws, we, t, tt, ep, S, tS, dv, gd, tv, gt, rv, gr, objs⟩ := ⟨⟨⟨o1, o2, o3, o4, o5⟩, j6⟩, hO⟩
    (try k_fold)
    walk_at "steps"
    refine Hold.out ?_
    refine join_ex (σ := LS × Bool) (fun c => (I, o) :: ledL pa wl da ta ra c.1) (fun c => [(Str.ofString "close", .bool c.2), (Str.ofString "pool", .ref pa), (Str.ofString "source", .str c.1.S c.1.tS), (Str.ofString "due", .ref da), (Str.ofString "tokens", .ref ta), (Str.ofString "remarks", .ref ra)]) (fun c => PJ pa wl da ta ra I (rows ++ (k, x, y) :: d) c.1 ∧ (c.2 = true → k = Str.ofString "sign" ∧ x ∈ closers)) F4 ?_ ?_
    · (rename JMark => hMk9); clear hMk9
      (try k_fold)
      walk_at "steps"
      all_goals first | ((with_reducible show Hold (JEnd _ _ _ _ _ _ _)); exact JEnd.intro (⟨ws, we, t, tt, ep, S, tS, dv, gd, tv, gt, rv, gr, objs⟩, _) (by assumption) (by assumption) (by ((try dsimp only [ledL]); walk_at "cn2")) (by ((try dsimp only); walk_at "ka1")) ⟨hJ1, no_close (by assumption)⟩) | skip
      refine Hold.out ?_
      refine' callPick (pick_sp pa wl ws we t tt ep hpw hP 2 _ (by decide) (by decide)) ?k1 ?k2 ?k3 ?k4 ?kp ?ka ?k5 ?kK ?kd ?ku ?_
      walk_at "useP"
      intro r r0 r1 tr ws2 we2 t2 tt2 ep2 h9 tk9 F9 N9 hP2
      dsimp only [poolL, List.nil_append, List.cons_append] at N9
      (try k_sweep); (try dsimp only); (try k_fold)
      walk_at "steps"
      all_goals first | ((with_reducible show Hold (JEnd _ _ _ _ _ _ _)); exact JEnd.intro (⟨ws2, we2, t2, tt2, ep2, S, tS, dv, gd, tv, gt, rv, gr, objs⟩, false) (by assumption) (by assumption) (by ((try dsimp only [ledL]); walk_at "cn2")) (by ((try dsimp only); walk_at "ka1")) ⟨⟨hJ1.1, hJ1.2.repool _ _ _ hP2⟩, fun h => absurd h Bool.false_ne_true⟩) | ((with_reducible show Hold (JEnd _ _ _ _ _ _ _)); exact JEnd.intro (⟨ws2, we2, t2, tt2, ep2, S, tS, dv, gd, tv, gt, rv, gr, objs⟩, _) (by assumption) (by assumption) (by ((try dsimp only [ledL]); walk_at "cn2")) (by ((try dsimp only); walk_at "ka1")) ⟨⟨hJ1.1, hJ1.2.repool _ _ _ hP2⟩, fun _ => ⟨eq_of_b (by assumption), closer_any (by assumption)⟩⟩) | skip
    · clear N4 F4 hO hP o1 o2 o3 o4 o5 j6 hJ1
      rintro ⟨⟨ws, we, t, tt, ep, S, tS, dv, gd, tv, gt, rv, gr, objs⟩, b⟩ u3 h tk ⟨⟨⟨⟨o1, o2, o3, o4, o5⟩, j6⟩, hO⟩, hb⟩ F4 N4
      have hb1 : (((k, x, y) : Row) :: d).length ≤ 5 := by have := dOk_len hd0; simp only [List.length_cons]; omega
      obtain ⟨z1, z2, z3, z4⟩ := sizesJ hO hT (by omega) hb1 (fine_pd hpc hd0)
      have hP := hO.pool
      have o3' := flip_ne o3
      have o4' := flip_ne o4
      have o5' := flip_ne o5
      dsimp only at z1 z2 z3 z4 o1 o2 o3 o4 o5 o3' o4' o5' hP j6 N4 F4 hb ⊢
      have q1 : dv.toArray.size ≤ sizeLine := by rw [List.size_toArray, sizeLine_eq]; omega
      have hJ2 : PJ pa wl da ta ra I (rows ++ (k, x, y) :: d) ⟨ws, we, t, tt, ep, S, tS, dv, gd, tv, gt, rv, gr, objs⟩ := ⟨⟨⟨o1, o2, o3, o4, o5⟩, j6⟩, hO⟩
      cases b
      · (rename JMark => hMk9); clear hMk9
        (try k_fold)
        walk_at "steps"
        refine Hold.out ?_
        refine' callE7 (gap_E pa wl ws we t tt ep hpw hP) (fun _ _ h => h) ?k1 ?k2 ?k3 ?k4 ?kp ?ka ?k5 ?kK ?kd ?ku ?_
        walk_at "useP"
        intro g tg ws2 we2 t2 tt2 ep2 h9 tk9 F9 N9 A9 hS9
        have hP2 := hS9.1
        have hg := hS9.2
        clear hS9
        clear A9
        dsimp only [poolL, List.nil_append, List.cons_append] at N9
        have hg5 : g ∈ gaps5 := hg
        have y4 : g.length ≤ 14 := fine_len (fine_g _ hg5)
        have hMk := jMark
        (try k_sweep); (try dsimp only); (try k_fold)
        walk_at "steps"
        rename_i tkA D1 _ L1 _ t3 _ _ _ F6 N6
        rw [List.push_toArray] at N6
        refine Hold.out ?_
        refine cut_ex (fun c => (I, o) :: ledL pa wl da ta ra c) (fun c => [(Str.ofString "close", .bool false), (Str.ofString "pool", .ref pa), (Str.ofString "source", .str c.S c.tS), (Str.ofString "due", .ref da), (Str.ofString "tokens", .ref ta), (Str.ofString "remarks", .ref ra)]) (PJ pa wl da ta ra I (rows ++ (k, x, y) :: (d ++ [gapR g]))) ⟨ws2, we2, t2, tt2, ep2, S ++ g, t3, dv ++ [.ref D1], gd + 1, tv, gt, rv, gr, (D1, tupObj [.str (Str.ofString "gap") tkA, .str g tg, .int (S.length : Int) (tkA + 1 + 1)]) :: objs⟩ F6 N6 ?cn (by ((try dsimp only); walk_at "ka1")) ?cp ?_
        case cn => ((try dsimp only [ledL]); walk_at "cn2")
        case cp =>
          refine ⟨?_, (hO.mute (k := Str.ofString "gap") (t := g) (T1 := D1) (by decide) hP2 (fun p hp => .tail _ hp) (.head _)).cast (List.append_assoc _ _ _)⟩
          clear hJ2
          (repeat ((rename _ ∧ _ => hA9); (obtain ⟨hB9, hC9⟩ := hA9)))
          (refine' OffI.cons ?_ ?o1 ?o2 ?o3 ?o4 ?o5 ?o6; (case o1 => (first | with_reducible assumption | exact Nat.ne_of_lt (by with_reducible assumption))); (case o2 => (first | with_reducible assumption | exact Nat.ne_of_lt (by with_reducible assumption))); (case o3 => (first | with_reducible assumption | exact Nat.ne_of_lt (by with_reducible assumption))); (case o4 => (first | with_reducible assumption | exact Nat.ne_of_lt (by with_reducible assumption))); (case o5 => (first | with_reducible assumption | exact Nat.ne_of_lt (by with_reducible assumption))); (case o6 => (first | with_reducible assumption | exact Nat.ne_of_lt (by with_reducible assumption))))
          exact ⟨⟨o1, o2, o3, o4, o5⟩, j6⟩
        clear F6 N6 hO hP hP2 L1 o1 o2 o3 o4 o5 o3' o4' o5' j6 q1 z1 z2 z3 z4 hJ2 hb1
        rintro ⟨ws, we, t, tt, ep, S, tS, dv, gd, tv, gt, rv, gr, objs⟩ u1 h tk ⟨⟨⟨o1, o2, o3, o4, o5⟩, j6⟩, hO⟩ F4 N4
        have hb1 : (((k, x, y) : Row) :: (d ++ [gapR g])).length ≤ 5 := by have := dOk_len hd0; simp only [List.length_cons, List.length_append, List.length_nil]; omega
        obtain ⟨z1, z2, z3, z4⟩ := sizesJ hO hT (by omega) hb1 (fine_pdg hpc hd0 hg5)
        have hP := hO.pool
        have o3' := flip_ne o3
        have o4' := flip_ne o4
        have o5' := flip_ne o5
        dsimp only at z1 z2 z3 z4 o1 o2 o3 o4 o5 o3' o4' o5' hP j6 N4 F4 ⊢
        have q1 : dv.toArray.size ≤ sizeLine := by rw [List.size_toArray, sizeLine_eq]; omega
        have q3 : rv.toArray.size ≤ sizeLine := by rw [List.size_toArray, sizeLine_eq]; omega
        have q4 : ∀ v, (dv.toArray.push v).size ≤ sizeLine := by intro v; rw [Array.size_push, List.size_toArray, sizeLine_eq]; omega
        have hJ3 : PJ pa wl da ta ra I (rows ++ (k, x, y) :: (d ++ [gapR g])) ⟨ws, we, t, tt, ep, S, tS, dv, gd, tv, gt, rv, gr, objs⟩ := ⟨⟨⟨o1, o2, o3, o4, o5⟩, j6⟩, hO⟩
        (rename JMark => hMk9); clear hMk9
        (try k_fold)
        walk_at "steps"
        refine Hold.out ?_
        refine' callPick (pick_sp pa wl ws we t tt ep hpw hP 4 _ (by decide) (by decide)) ?k1 ?k2 ?k3 ?k4 ?kp ?ka ?k5 ?kK ?kd ?ku ?_
        walk_at "useP"
        intro r r0 r1 tr ws2 we2 t2 tt2 ep2 h9 tk9 F9 N9 hP2
        dsimp only [poolL, List.nil_append, List.cons_append] at N9
        (try k_sweep); (try dsimp only); (try k_fold)
        walk_at "steps"
        all_goals first | ((with_reducible show Hold (HEnd _ _ _ _ _ _ _ _ _ _)); exact HEnd.intro ⟨ws2, we2, t2, tt2, ep2, S, tS, dv, gd, tv, gt, rv, gr, objs⟩ (by assumption) (by assumption) (by ((try dsimp only [ledL]); walk_at "cn2")) (by walk_at "mem2") (led_ne j1 j2 j3 j4 j5 j6) (by ((try dsimp only); walk_at "ka1")) (turn_gap hT hpc hd0 hg5 ⟨hJ3.1, hJ3.2.repool _ _ _ hP2⟩)) | skip
        refine Hold.out ?_
        refine' callE7 (rmk_E pa wl ws2 we2 t2 tt2 ep2 hpw hP2) (fun _ _ h => h) ?k1 ?k2 ?k3 ?k4 ?kp ?ka ?k5 ?kK ?kd ?ku ?_
        walk_at "useP"
        intro m tm ws3 we3 t3 tt3 ep3 h9 tk9 F9 N9 A9 hS9
        have hP3 := hS9.1
        have hm := hS9.2
        clear hS9
        clear A9
        dsimp only [poolL, List.nil_append, List.cons_append] at N9
        have hm5 : m ∈ rmks5 := hm
        have y5 : m.length ≤ 14 := fine_len (fine_r _ hm5)
        (try k_sweep); (try dsimp only); (try k_fold)
        walk_at "steps"
        rename_i tkA D1 _ L1 _ _ _ tkB D2 _ L2 _ _ _ _ t4 _ _ _ F6 N6
        simp only [List.push_toArray] at N6
        have hoff : OffI pa wl da ta ra I ((D2, tupObj [.str (Str.ofString "gap") tkB, .str (Str.ofString " ") (tkB + 1), .int ((S.length : Int) + (m.length : Int)) (tkB + 1 + 1 + 1 + 1 + 1 + 1)]) :: (D1, tupObj [.str (Str.ofString "remark") tkA, .str m tm, .int (S.length : Int) (tkA + 1 + 1)]) :: objs) := by
          clear hJ3
          (repeat ((rename _ ∧ _ => hA9); (obtain ⟨hB9, hC9⟩ := hA9)))
          (refine' OffI.cons ?_ ?o1 ?o2 ?o3 ?o4 ?o5 ?o6; (case o1 => (first | with_reducible assumption | exact Nat.ne_of_lt (by with_reducible assumption))); (case o2 => (first | with_reducible assumption | exact Nat.ne_of_lt (by with_reducible assumption))); (case o3 => (first | with_reducible assumption | exact Nat.ne_of_lt (by with_reducible assumption))); (case o4 => (first | with_reducible assumption | exact Nat.ne_of_lt (by with_reducible assumption))); (case o5 => (first | with_reducible assumption | exact Nat.ne_of_lt (by with_reducible assumption))); (case o6 => (first | with_reducible assumption | exact Nat.ne_of_lt (by with_reducible assumption))))
          (refine' OffI.cons ?_ ?o1 ?o2 ?o3 ?o4 ?o5 ?o6; (case o1 => (first | with_reducible assumption | exact Nat.ne_of_lt (by with_reducible assumption))); (case o2 => (first | with_reducible assumption | exact Nat.ne_of_lt (by with_reducible assumption))); (case o3 => (first | with_reducible assumption | exact Nat.ne_of_lt (by with_reducible assumption))); (case o4 => (first | with_reducible assumption | exact Nat.ne_of_lt (by with_reducible assumption))); (case o5 => (first | with_reducible assumption | exact Nat.ne_of_lt (by with_reducible assumption))); (case o6 => (first | with_reducible assumption | exact Nat.ne_of_lt (by with_reducible assumption))))
          exact ⟨⟨o1, o2, o3, o4, o5⟩, j6⟩
        exact HEnd.intro ⟨ws3, we3, t3, tt3, ep3, S ++ (m ++ Str.ofString " "), t4, dv ++ [.ref D1] ++ [.ref D2], gd + 1 + 1, tv, gt, rv ++ [.str m tm], gr + 1, (D2, tupObj [.str (Str.ofString "gap") tkB, .str (Str.ofString " ") (tkB + 1), .int ((S.length : Int) + (m.length : Int)) (tkB + 1 + 1 + 1 + 1 + 1 + 1)]) :: (D1, tupObj [.str (Str.ofString "remark") tkA, .str m tm, .int (S.length : Int) (tkA + 1 + 1)]) :: objs⟩ F6 N6 (by ((try dsimp only [ledL]); walk_at "cn2")) (by walk_at "mem2") (led_ne j1 j2 j3 j4 j5 hoff.2) (by ((try dsimp only); walk_at "ka1")) (turn_rmk hT hpc hd0 hg5 hm5 ⟨hoff, hO.remark hP3 (fun p hp => .tail _ (.tail _ hp)) (.tail _ (.head _)) (.head _)⟩)
      · (rename JMark => hMk9); clear hMk9
        (try k_fold)
        walk_at "steps"
        exact HEnd.intro ⟨ws, we, t, tt, ep, S, tS, dv, gd, tv, gt, rv, gr, objs⟩ (by assumption) (by assumption) (by ((try dsimp only [ledL]); walk_at "cn2")) (by walk_at "mem2") (led_ne j1 j2 j3 j4 j5 j6) (by ((try dsimp only); walk_at "ka1")) (turn_close hT hpc (hb rfl).1 (hb rfl).2 hd0 hJ2)
end law_turn_at
theorem law_turn (w : World) (s0 s1 : Shared) (mg mb : Str → Option Value) (fa w7 : Addr) (sl pa wl tk3 da ta ra : Nat) (n : Int) (KX : (hd.heap_1 w.params).In s1.heap) (T : Top q0 (looseW q0 []) (ExcName.means s0.heap) mg mb s1.heap) (B1 : Below callerA s1.heap [] s1.heap) (hpw : @Ne Nat pa wl) (p1 : @Ne Nat pa da) (p2 : @Ne Nat pa ta) (p3 : @Ne Nat pa ra) (p4 : @Ne Nat wl da) (p5 : @Ne Nat wl ta) (p6 : @Ne Nat wl ra) (p7 : @Ne Nat da ta) (p8 : @Ne Nat da ra) (p9 : @Ne Nat ta ra) (n0 : 0 ≤ n) (n1 : n < 10) : LW1.1.1 w s0 s1 mg mb fa w7 sl pa wl tk3 da ta ra n := by
  have h9 : law_turn_at.Pz (ec law_turn_at.ne law_turn_at.Pz) := by with_unfolding_all exact law_turn_at.main
  exact eps law_turn_at.ne h9 (w, s0, s1, mg, mb, fa, w7, sl, pa, wl, tk3, da, ta, ra, n) KX T B1 hpw p1 p2 p3 p4 p5 p6 p7 p8 p9 n0 n1
namespace law_done_at
noncomputable def St (w : World) (s0 : Shared) (s1 : Shared) (mg : Str → Option Value) (mb : Str → Option Value) (fa : Addr) (w7 : Addr) (sl : Nat) (pa : Nat) (wl : Nat) (tk3 : Nat) (da : Nat) (ta : Nat) (ra : Nat) (n : Int) : Prop := ∀ (KX : (hd.heap_1 w.params).In s1.heap) (T : Top q0 (looseW q0 []) (ExcName.means s0.heap) mg mb s1.heap) (B1 : Below callerA s1.heap [] s1.heap) (hpw : @Ne Nat pa wl) (p1 : @Ne Nat pa da) (p2 : @Ne Nat pa ta) (p3 : @Ne Nat pa ra) (p4 : @Ne Nat wl da) (p5 : @Ne Nat wl ta) (p6 : @Ne Nat wl ra) (p7 : @Ne Nat da ta) (p8 : @Ne Nat da ra) (p9 : @Ne Nat ta ra) (n0 : 0 ≤ n) (n1 : n < 10), LW1.1.2 w s0 s1 mg mb fa w7 sl pa wl tk3 da ta ra n
noncomputable def Pz (z : (World) × (Shared) × (Shared) × (Str → Option Value) × (Str → Option Value) × (Addr) × (Addr) × (Nat) × (Nat) × (Nat) × (Nat) × (Nat) × (Nat) × (Nat) × (Int)) : Prop := St (z.1) (z.2.1) (z.2.2.1) (z.2.2.2.1) (z.2.2.2.2.1) (z.2.2.2.2.2.1) (z.2.2.2.2.2.2.1) (z.2.2.2.2.2.2.2.1) (z.2.2.2.2.2.2.2.2.1) (z.2.2.2.2.2.2.2.2.2.1) (z.2.2.2.2.2.2.2.2.2.2.1) (z.2.2.2.2.2.2.2.2.2.2.2.1) (z.2.2.2.2.2.2.2.2.2.2.2.2.1) (z.2.2.2.2.2.2.2.2.2.2.2.2.2.1) (z.2.2.2.2.2.2.2.2.2.2.2.2.2.2)
theorem ne : Nonempty ((World) × (Shared) × (Shared) × (Str → Option Value) × (Str → Option Value) × (Addr) × (Addr) × (Nat) × (Nat) × (Nat) × (Nat) × (Nat) × (Nat) × (Nat) × (Int)) := ⟨((Classical.choice ctx_ne).w, (Classical.choice ctx_ne).s, (Classical.choice ctx_ne).s, fun _ => none, fun _ => none, default, default, default, default, default, default, default, default, default, default)⟩
noncomputable def z : (World) × (Shared) × (Shared) × (Str → Option Value) × (Str → Option Value) × (Addr) × (Addr) × (Nat) × (Nat) × (Nat) × (Nat) × (Nat) × (Nat) × (Nat) × (Int) := ec ne Pz
@[irreducible] noncomputable def w : World := z.1
@[irreducible] noncomputable def s0 : Shared := z.2.1
@[irreducible] noncomputable def s1 : Shared := z.2.2.1
@[irreducible] noncomputable def mg : Str → Option Value := z.2.2.2.1
@[irreducible] noncomputable def mb : Str → Option Value := z.2.2.2.2.1
@[irreducible] noncomputable def fa : Addr := z.2.2.2.2.2.1
@[irreducible] noncomputable def w7 : Addr := z.2.2.2.2.2.2.1
@[irreducible] noncomputable def sl : Nat := z.2.2.2.2.2.2.2.1
@[irreducible] noncomputable def pa : Nat := z.2.2.2.2.2.2.2.2.1
@[irreducible] noncomputable def wl : Nat := z.2.2.2.2.2.2.2.2.2.1
@[irreducible] noncomputable def tk3 : Nat := z.2.2.2.2.2.2.2.2.2.2.1
@[irreducible] noncomputable def da : Nat := z.2.2.2.2.2.2.2.2.2.2.2.1
@[irreducible] noncomputable def ta : Nat := z.2.2.2.2.2.2.2.2.2.2.2.2.1
@[irreducible] noncomputable def ra : Nat := z.2.2.2.2.2.2.2.2.2.2.2.2.2.1
@[irreducible] noncomputable def n : Int := z.2.2.2.2.2.2.2.2.2.2.2.2.2.2
theorem main : St w s0 s1 mg mb fa w7 sl pa wl tk3 da ta ra n := by
  intro KX T B1 hpw p1 p2 p3 p4 p5 p6 p7 p8 p9 n0 n1
  unfold LW1
  dsimp only
  skip
  rintro ⟨ws, we, t, tt, ep, S, tS, dv, gd, tv, gt, rv, gr, objs⟩ u h tk ⟨hoff, rows, hT, hO⟩ F4 N4
  have hi9 : n.toNat < 10 := by omega
  obtain ⟨z1, z2, z3, z4⟩ := LP.sizes hO hT hi9
  obtain ⟨o1, o2, o3, o4, o5⟩ := hoff
  have hP := hO.pool
  have o3' := flip_ne o3
  have o4' := flip_ne o4
  have o5' := flip_ne o5
  dsimp only at z1 z2 z3 z4 o1 o2 o3 o4 o5 o3' o4' o5' hP N4 F4 ⊢
  have q1 : dv.toArray.size ≤ sizeLine := by rw [List.size_toArray, sizeLine_eq]; omega
  have q2 : tv.toArray.size ≤ sizeLine := by rw [List.size_toArray, sizeLine_eq]; omega
  (try k_fold)
  walk_at "steps"
  refine Hold.out ?_
  refine' callE10 (tail_E pa wl ws we t tt ep hpw hP) (fun _ _ h => h) ?k1 ?k2 ?k3 ?k4 ?kp ?ka ?k5 ?kK ?kd ?ku ?_
  walk_at "useP"
  intro a1 x tx y ty ws2 we2 t2 tt2 ep2 h9 tk9 F9 N9 A9 hS9
  have hP2 := hS9.1
  have htl := hS9.2
  clear hS9
  dsimp only [poolL, List.nil_append, List.cons_append] at N9
  have e1 : @Ne Nat a1 ra := A9 _ (.head _) _ (.head _)
  have e2 : @Ne Nat a1 ta := A9 _ (.head _) _ (.tail _ (.head _))
  have e3 : @Ne Nat a1 da := A9 _ (.head _) _ (.tail _ (.tail _ (.head _)))
  have y1 : x.length ≤ 14 := fine_len (fine_t _ htl)
  clear A9 N4 F4
  have hMk := jMark
  (try k_sweep); (try dsimp only); (try k_fold)
  walk_at "steps"
  refine Hold.out ?_
  (rename Fr _ _ _ _ => F5)
  refine join_ex (ledL pa wl da ta ra) (fun c => [(Str.ofString "tail", .str x tx), (Str.ofString "pool", .ref pa), (Str.ofString "source", .str c.S tS), (Str.ofString "due", .ref da), (Str.ofString "tokens", .ref ta), (Str.ofString "remarks", .ref ra)]) (PT pa wl da ta ra rows x y S) F5 ?_ ?_
  · (rename JMark => hMk9); clear hMk9
    (try k_fold)
    walk_at "steps"
    · rename_i hx tkA D1 _ L1 _ _ hy tkB D2 _ L2 _ F6 N6
      rw [List.push_toArray, List.push_toArray] at N6
      refine JEnd.intro ⟨ws2, we2, t2, tt2, ep2, S, tS, dv ++ [.ref D1], gd + 1, tv ++ [.ref D2], gt + 1, rv, gr, (D2, tupObj [.str y ty, .int (S.length : Int) (tkB + 1)]) :: (D1, tupObj [.str (Str.ofString "stray") tkA, .str x tx, .int (S.length : Int) (tkA + 1 + 1)]) :: objs⟩ F6 N6 (by ((try dsimp only [ledL]); walk_at "cn2")) (by ((try dsimp only); walk_at "ka1")) ⟨?_, rfl, tail_row hO (ne_of_b hx) (ne_of_b hy) hP2 (fun p hp => .tail _ (.tail _ hp)) (.tail _ (.head _)) (.head _)⟩
      (repeat ((rename _ ∧ _ => hA9); (obtain ⟨hB9, hC9⟩ := hA9)))
      (refine' Off.cons ?_ ?o1 ?o2 ?o3 ?o4 ?o5; (case o1 => (first | with_reducible assumption | exact Nat.ne_of_lt (by with_reducible assumption))); (case o2 => (first | with_reducible assumption | exact Nat.ne_of_lt (by with_reducible assumption))); (case o3 => (first | with_reducible assumption | exact Nat.ne_of_lt (by with_reducible assumption))); (case o4 => (first | with_reducible assumption | exact Nat.ne_of_lt (by with_reducible assumption))); (case o5 => (first | with_reducible assumption | exact Nat.ne_of_lt (by with_reducible assumption))))
      (refine' Off.cons ?_ ?o1 ?o2 ?o3 ?o4 ?o5; (case o1 => (first | with_reducible assumption | exact Nat.ne_of_lt (by with_reducible assumption))); (case o2 => (first | with_reducible assumption | exact Nat.ne_of_lt (by with_reducible assumption))); (case o3 => (first | with_reducible assumption | exact Nat.ne_of_lt (by with_reducible assumption))); (case o4 => (first | with_reducible assumption | exact Nat.ne_of_lt (by with_reducible assumption))); (case o5 => (first | with_reducible assumption | exact Nat.ne_of_lt (by with_reducible assumption))))
      exact ⟨o1, o2, o3, o4, o5⟩
    · rename_i hx tkA D1 _ L1 _ F6 N6 _ hy
      rw [List.push_toArray] at N6
      refine JEnd.intro ⟨ws2, we2, t2, tt2, ep2, S, tS, dv ++ [.ref D1], gd + 1, tv, gt, rv, gr, (D1, tupObj [.str (Str.ofString "stray") tkA, .str x tx, .int (S.length : Int) (tkA + 1 + 1)]) :: objs⟩ F6 N6 (by ((try dsimp only [ledL]); walk_at "cn2")) (by ((try dsimp only); walk_at "ka1")) ⟨?_, rfl, tail_mute hO (ne_of_b hx) (eq_of_nb hy) hP2 (fun p hp => .tail _ hp) (.head _)⟩
      (repeat ((rename _ ∧ _ => hA9); (obtain ⟨hB9, hC9⟩ := hA9)))
      (refine' Off.cons ?_ ?o1 ?o2 ?o3 ?o4 ?o5; (case o1 => (first | with_reducible assumption | exact Nat.ne_of_lt (by with_reducible assumption))); (case o2 => (first | with_reducible assumption | exact Nat.ne_of_lt (by with_reducible assumption))); (case o3 => (first | with_reducible assumption | exact Nat.ne_of_lt (by with_reducible assumption))); (case o4 => (first | with_reducible assumption | exact Nat.ne_of_lt (by with_reducible assumption))); (case o5 => (first | with_reducible assumption | exact Nat.ne_of_lt (by with_reducible assumption))))
      exact ⟨o1, o2, o3, o4, o5⟩
    · exact JEnd.intro ⟨ws2, we2, t2, tt2, ep2, S, tS, dv, gd, tv, gt, rv, gr, objs⟩ (by assumption) (by assumption) (by ((try dsimp only [ledL]); walk_at "cn2")) (by ((try dsimp only); walk_at "ka1")) ⟨⟨o1, o2, o3, o4, o5⟩, rfl, (hO.repool _ _ _ hP2).tail0 (eq_of_nb (by assumption))⟩
  · clear hO hP o1 o2 o3 o4 o5 o3' o4' o5' q1 q2 z1 z2 z3 z4 e1 e2 e3 hP2
    (rename JMark => hMk9); clear hMk9
    rintro ⟨ws, we, t, tt, ep, S', tS', dv, gd, tv, gt, rv, gr, objs⟩ u2 h tk ⟨⟨o1, o2, o3, o4, o5⟩, hS, hO⟩ F4 N4
    dsimp only at hS o1 o2 o3 o4 o5 N4 F4 hO ⊢
    subst hS
    have hF := facts_of hT hi9 htl hO.src
    have hF2 := facts2_of hT hi9 htl
    have hTok := toks_ok hT htl
    generalize rows ++ tailR x y = rows3 at *
    have hsz := hF.size
    dsimp only at hF hsz
    have hle : S'.length + x.length ≤ 700 := by rw [← Str.length_append]; exact hsz
    (try k_fold)
    walk_at "steps"
    refine Hold.out ?_
    (rename News _ _ _ _ => N5)
    (rename Fr _ _ _ _ => F5)
    refine' callE4 (source_items_sp _ _ (Nat.le_trans hsz (by decide)) _ hF.items (Nat.le_trans hF.len (by decide))) (fun _ _ h => h) ?k1 ?k2 ?k3 N5 Pick.nil (fun _ h9 => absurd h9 List.not_mem_nil) ?k5 ?kK ?kd ?ku ?_
    (case k1 => k_asm); (case k2 => k_asm); (case k3 => k_asm); (case k5 => k_asm); (case kK => rfl); (case kd => walk_at "room"); (case ku => walk_at "room")
    intro l vs9 ep9 objs2 h9 tk9 F9 N9 A9 hA
    clear N5 F5
    (try dsimp only); (try k_fold)
    walk_at "steps"
    refine Hold.out ?_
    (rename Fr _ _ _ _ => F8)
    refine lc_rows F8 KX rfl (by intro _; rfl) ?_
    (try k_fold)
    walk_at "steps"
    (rename News _ _ _ _ => N5)
    (rename Fr _ _ _ _ => F5)
    refine ⟨l, _, vs9, _, _, rfl, fun _ _ e => e, F5, N5, .head _, .of _ _, by rw [hA.length, sizeLine_eq]; have := hF.len; omega, hA.paired (fun p hp => (N5 p (.tail _ (List.mem_append_left _ hp))).1), ?_⟩
    intro D hD tkD ys hl6 F6 N6 hrow
    clear N5 F5
    (try dsimp only); (try k_fold)
    walk_at "steps"
    refine Hold.out ?_
    have hda : (da, listOf dv.toArray gd) ∈ ((l, listOf vs9.toArray ep9) :: objs2) ++ ledL pa wl da ta ra ⟨ws, we, t, tt, ep, S', tS', dv, gd, tv, gt, rv, gr, objs⟩ := List.mem_append_right _ (.tail _ (.tail _ (.head _)))
    have hob : ∀ p ∈ objs, p ∈ ((l, listOf vs9.toArray ep9) :: objs2) ++ ledL pa wl da ta ra ⟨ws, we, t, tt, ep, S', tS', dv, gd, tv, gt, rv, gr, objs⟩ := fun p hp => List.mem_append_right _ (.tail _ (.tail _ (.tail _ (.tail _ (.tail _ hp)))))
    refine ne_same (rows_list hl6 hrow) (rows_list (ListOb.isList (.of _ _) (N6 _ hda).1) (paired_mono hO.due fun v r a => Rw.at (fun p hp => (N6 p (hob p hp)).1) a)) (rows_ok hF.ok) (by walk_at "room") ?_
    (try dsimp only); (try k_fold)
    walk_at "steps"
    refine Hold.out ?_
    (rename News _ _ _ _ => N5)
    refine' Sp.call (joined_sp l _ vs9 objs2 _ (.of _ _) hA (Nat.le_trans hF.len (by decide)) hF.wide) ?k1 ?k2 ?k3 N5 Pick.app A9 ?k5 ?kK ?kd ?ku ?_
    (case k1 => k_asm); (case k2 => k_asm); (case k3 => k_asm); (case k5 => k_asm); (case kK => rfl); (case kd => walk_at "room"); (case ku => walk_at "room")
    rintro v8 o8 h8 tk8 F8 N8 A8 ⟨rfl, tj, rfl⟩
    clear N5
    rw [hF.joined]
    have hMk := jMark
    (try dsimp only); (try k_fold)
    walk_at "steps"
    all_goals first | ((with_reducible show Hold (LawQ _ _ _)); exact bne_no (by with_reducible assumption)) | skip
    refine Hold.out ?_
    (rename News _ _ _ _ => N5)
    (rename Fr _ _ _ _ => F5)
    refine' cut_ex (σ := Tok) (fun _ => ((l, listOf vs9.toArray ep9) :: objs2) ++ ledL pa wl da ta ra ⟨ws, we, t, tt, ep, S', tS', dv, gd, tv, gt, rv, gr, objs⟩) (fun q => [(Str.ofString "items", .ref l), (Str.ofString "source", .str (S' ++ x) q), (Str.ofString "due", .ref da), (Str.ofString "tokens", .ref ta), (Str.ofString "remarks", .ref ra)]) (fun _ => True) _ F5 N5 (fun _ h => h) ?ka trivial ?_
    (case ka => ((try dsimp only); walk_at "ka1"))
    clear N5 F5 A8 hda hob hle F6 hD hl6 hrow
    generalize hSx : S' ++ x = S at *
    obtain ⟨z1, z2, z3, z4⟩ := LOk.sizes hO
    have z5 := hF.len
    rw [place_length] at z5
    dsimp only at z1 z2 z3 z4 hO
    clear hSx
    (rename JMark => hMk9); clear hMk9
    intro tS u h1 tk1 _ F4 N4
    (try dsimp only at F4 N4 ⊢)
    (try k_fold)
    walk_at "steps"
    refine Hold.out ?_
    (rename News _ _ _ _ => N5)
    obtain ⟨kk, hkk⟩ : ∃ kk, kk = ((place rows3 0).filter keepK).length := ⟨_, rfl⟩
    have hk46 : kk ≤ 46 := by rw [hkk]; exact Nat.le_trans (List.length_filter_le _ _) hF.len
    refine' callE3 (solid_sp l _ vs9 objs2 _ (.of _ _) hA (Nat.le_trans hF.len (by decide))) (fun _ _ h => h) ?k1 ?k2 ?k3 N5 Pick.app A9 ?k5 ?kK ?kd ?ku ?_
    (case k1 => k_asm); (case k2 => k_asm); (case k3 => k_asm); (case k5 => k_asm); (case kK => rfl); (case kd => walk_at "room"); (case ku => walk_at "room")
    intro D2 oD2 ys2 h7 tk7 F7 N7 A7 hS7
    have lD2 := hS7.1
    have hD2 := hS7.2.1
    have hne2 := hS7.2.2
    clear hS7
    clear N5
    have e2 : ys2.toArray.size = kk := by rw [List.size_toArray, hkk, hD2.length]
    (try dsimp only); (try k_fold)
    walk_at "steps"
    refine Hold.out ?_
    (rename News _ _ _ _ => N5)
    refine Calls.call_len_list (lD2.isList (N5 _ (.head _)).1) (by omega) ?_
    rw [e2]
    (try dsimp only); (try k_fold)
    walk_at "steps"
    refine Hold.out ?_
    (rename Fr _ _ _ _ => F8)
    refine lc_keep F8 KX rfl (by intro _; rfl) ?_
    (try k_fold)
    walk_at "steps"
    (rename Fr _ _ _ _ => F5)
    refine ⟨da, listOf dv.toArray gd, dv, _, place rows3 0, rfl, F5, N5, List.mem_append_right _ (.tail _ (.tail _ (.head _))), .of _ _, by rw [sizeLine_eq]; omega, paired_mono hO.due fun v r a => Rw.at (fun p hp => (N5 p (List.mem_append_right _ (.tail _ (.tail _ (.tail _ (.tail _ (.tail _ hp))))))).1) a, ?_⟩
    rw [← hkk]
    intro D3 oD3 h3 tk3 ys3 lD3 F3 N3 hne3 hy3
    have e3 : ys3.toArray.size = kk := by rw [List.size_toArray, hy3]
    clear N5 F5
    (try dsimp only); (try k_fold)
    walk_at "steps"
    refine Hold.out ?_
    refine Calls.call_len_list (lD3.isList (N3 _ (.head _)).1) (by omega) ?_
    rw [e3]
    (try dsimp only); (try k_fold)
    walk_at "steps"
    · exact absurd (rfl : (kk : Int) = kk) (by with_reducible assumption)
    refine Hold.out ?_
    (rename News _ _ _ _ => N5)
    refine' callE3 (remarks_of_sp _ _ (Nat.le_trans hsz (by decide)) _ hF.items (Nat.le_trans hF.len (by decide))) (fun _ _ h => h) ?k1 ?k2 ?k3 N5 Pick.nil (fun _ h9 => absurd h9 List.not_mem_nil) ?k5 ?kK ?kd ?ku ?_
    (case k1 => k_asm); (case k2 => k_asm); (case k3 => k_asm); (case k5 => k_asm); (case kK => rfl); (case kd => walk_at "room"); (case ku => walk_at "room")
    intro D4 oD4 ys4 h6 tk6 F6 N6 A6 hS6
    have lD4 := hS6.1
    have hy4 := hS6.2
    clear hS6
    rw [hF.rmks] at hy4
    clear N5
    (try dsimp only); (try k_fold)
    walk_at "steps"
    refine Hold.out ?_
    have hko : ∀ z ∈ rmksOf rows3, PyData.strOk z = true := by
      intro x hx
      rw [← hF.rmks] at hx
      obtain ⟨r, hr, rfl⟩ := List.mem_map.mp hx
      exact (hF.ok r (List.mem_filter.mp hr).1).2
    (rename News _ _ _ _ => N5)
    refine ne_strs N5 (.head _) lD4 hy4 (.tail _ (.tail _ (.tail _ (List.mem_append_right _ (.head _))))) (.of _ _) hO.rmk hko (by walk_at "room") ?_
    have N6 := news_sub (news' := (da, listOf dv.toArray gd) :: (ta, listOf tv.toArray gt) :: objs) N5 ?sub
    case sub =>
      intro p hp
      refine .tail _ (.tail _ (.tail _ (List.mem_append_right _ (.tail _ ?_))))
      rcases List.mem_cons.mp hp with rfl | hp
      · exact .tail _ (.head _)
      rcases List.mem_cons.mp hp with rfl | hp
      · exact .head _
      · exact .tail _ (.tail _ (.tail _ (.tail _ hp)))
    have hMk := jMark
    clear N5
    (try dsimp only); (try k_fold)
    walk_at "steps"
    refine Hold.out ?_
    (rename Fr _ _ _ _ => F5)
    refine cut_ex (σ := Unit) (fun _ => (da, listOf dv.toArray gd) :: (ta, listOf tv.toArray gt) :: objs) (fun _ => [(Str.ofString "source", .str S tS), (Str.ofString "due", .ref da), (Str.ofString "tokens", .ref ta)]) (fun _ => True) () F5 N6 (fun _ h => h) (by ((try dsimp only); walk_at "ka1")) trivial ?_
    clear F5 N6 lD4 hy4 hkk hk46 hko lD2 lD3 hD2 hy3 e2 e3 A6 A7 A9 hne3 hne2 hA
    (rename JMark => hMk9); clear hMk9
    intro _ u2 h8 tk8 _ F4 N4
    (try dsimp only at F4 N4 ⊢)
    (try k_fold)
    walk_at "steps"
    refine Hold.out ?_
    (rename News _ _ _ _ => N5)
    refine' callE9 mk_err_sp (fun _ _ h => h) ?k1 ?k2 ?k3 N5 Pick.nil (fun _ h9 => absurd h9 List.not_mem_nil) ?k5 ?kK ?kd ?ku ?_
    (case k1 => k_asm); (case k2 => k_asm); (case k3 => k_asm); (case k5 => k_asm); (case kK => rfl); (case kd => walk_at "room"); (case ku => walk_at "room")
    intro ex ed g1 j1 rl g2 j2 pl po h9 tk9 F9 N9 A9 hS9
    have hpo := hS9.1
    have l1 := hS9.2.1
    have l2 := hS9.2.2.1
    have l3 := hS9.2.2.2.1
    have l4 := hS9.2.2.2.2.1
    have l5 := hS9.2.2.2.2.2
    clear hS9
    clear N5
    (try dsimp only); (try k_fold)
    walk_at "steps"
    refine Hold.out ?_
    (rename News _ _ _ _ => N5)
    refine' callE13 (mk_scan_sp S tS ex ed g1 j1 rl g2 j2 pl po hpo l1 l2 l3 l4 l5 (Nat.le_trans hsz (by decide))) (fun _ _ h => h) ?k1 ?k2 ?k3 N5 Pick.nil (fun _ h9 => absurd h9 List.not_mem_nil) ?k5 ?kK ?kd ?ku ?_
    (case k1 => k_asm); (case k2 => k_asm); (case k3 => k_asm); (case k5 => k_asm); (case kK => rfl); (case kd => walk_at "room"); (case ku => walk_at "room")
    intro sx sd c1 k1 c2 k2 c3 k3 tp c4 k4 wa wv h8 tk8 F8 N8 A8 hS8
    have hw := hS8.1
    have n1 := hS8.2.1
    have n2 := hS8.2.2.1
    have n3 := hS8.2.2.2
    clear hS8
    clear N5
    (try dsimp only); (try k_fold)
    walk_at "steps"
    refine Hold.out ?_
    (rename News _ _ _ _ => N5)
    (rename Fr _ _ _ _ => F5)
    obtain ⟨sc, scOk, hsS, hstS, hsx, N6, A6⟩ := reader_of N5 A8 A9 (Nat.le_trans hsz (by decide)) hw n1 n2 n3 l1 l2 l3 l4 l5
    clear N5 A8 A9 hw n1 n2 n3 l1 l2 l3 l4 l5
    subst hsS hstS hsx
    refine For_invVF F5 rfl rfl ?_
    (try k_fold)
    walk_at "steps"
    refine Hold.out ?_
    refine for_listH (σ := (Nat × Tok) × (List Value × Nat × Obj)) (l := ta) (ol := listOf tv.toArray gt) (vs := tv) (fun q => full sc q.1.1 q.1.2 q.2.1 q.2.2.1 q.2.2.2 ++ (da, listOf dv.toArray gd) :: (ta, listOf tv.toArray gt) :: objs) (fun _ => [(Str.ofString "source", .str sc.S sc.tS), (Str.ofString "due", .ref da), (Str.ofString "reader", .ref sc.x)]) (fun i q => Chain sc.S q.1.1 ((toks rows3 0).drop i) ∧ q.1.1 ≤ sc.S.length ∧ PlOb q.2.2.2 q.1.1 ∧ q.2.1.length ≤ q.1.1) ((0, tp), ([], 0, po)) rfl (.of _ _) (fun c => List.mem_append_right _ (.tail _ (.head _))) F5 N6 (by ((try dsimp only); walk_at "ka1")) ⟨hF.chain, Nat.zero_le _, hpo, Nat.zero_le _⟩ ?turn ?done
    case turn =>
      clear N6 F5
      rintro ⟨⟨p, tp⟩, rv, rn, po⟩ i v u h tk I o hv hne ⟨hch, hp, hpo, hrv⟩ F4 N4
      obtain ⟨⟨k, b⟩, r, er, er2, hPr⟩ := paired_get hO.tok hv
      dsimp only at hch hp hpo hrv hne F4 N4 hPr ⊢
      rw [er] at hch
      obtain ⟨n9, hTk, hch9⟩ := hch.tok'
      rw [List.append_assoc] at N4
      have hn9 := hTk.le hp
      have A4 : Apart (full sc p tp rv rn po) (((da, listOf dv.toArray gd) :: (ta, listOf tv.toArray gt) :: objs) ++ [(I, o)]) := by
        intro q hq w hw
        rcases List.mem_append.mp hw with hw | hw
        · exact apart_full A6 q hq w hw
        · rw [List.mem_singleton.mp hw]; exact hne q (List.mem_append_left _ hq)
      (try k_fold)
      walk_at "steps"
      refine Hold.out ?_
      (rename News _ _ _ _ => N5)
      refine' callE15 (take_sp sc scOk rv rn po p tp (Nat.le_trans hsz (by decide)) hpo hrv hp k b n9 hTk) (fun _ _ h => h) ?k1 ?k2 ?k3 N5 Pick.app A4 ?k5 ?kK ?kd ?ku ?_
      (case k1 => k_asm); (case k2 => k_asm); (case k3 => k_asm); (case k5 => k_asm); (case kK => rfl); (case kd => walk_at "room"); (case ku => walk_at "room")
      intro tt dt val g1 j1 g2 j2 g3 j3 tk1 tb1 tp2 rv2 rn2 po2 h9 tk9 F9 N9 A9 hS9
      have hpo2 := hS9.1
      have hrv2 := hS9.2
      clear N5 hS9
      dsimp only [List.cons_append, List.nil_append] at N9
      (try dsimp only); (try k_fold)
      walk_at "steps"
      (rename News _ _ _ _ => N6)
      refine ne_same (d := prD (k, b)) (PrAt.reads ⟨_, tk1, tb1, rfl, _, (N6 _ (.head _)).1, rfl, _, rfl⟩) (PrAt.reads (Pr.at (fun q hq => (N6 q (by (iterate 12 refine List.mem_cons_of_mem _ ?_); exact List.mem_append_left _ hq)).1) hPr)) (pr_ok ?kok) (by walk_at "room") ?_
      case kok => exact hTok (k, b) (List.mem_of_mem_drop (i := i) (by rw [er]; exact .head _))
      have N7 := news_sub (news' := full sc n9 tp2 rv2 rn2 po2 ++ (((da, listOf dv.toArray gd) :: (ta, listOf tv.toArray gt) :: objs) ++ [(I, o)])) N6 (fun q hq => .tail _ (.tail _ (.tail _ hq)))
      clear N6
      (try dsimp only); (try k_fold)
      walk_at "steps"
      exact HEnd.intro ((n9, tp2), (rv2, rn2, po2)) (by assumption) N7 (app_mid (A := full sc n9 tp2 rv2 rn2 po2) (R := (da, listOf dv.toArray gd) :: (ta, listOf tv.toArray gt) :: objs) (x := (I, o))) (List.mem_append_right _ (List.mem_append_right _ (.head _))) (app_ne (A := full sc n9 tp2 rv2 rn2 po2) (R := (da, listOf dv.toArray gd) :: (ta, listOf tv.toArray gt) :: objs) (fun q hq => A9 q (.tail _ (.tail _ hq)) (I, o) (List.mem_append_right _ (.head _))) (fun q hq => hne q (List.mem_append_right _ hq))) (by ((try dsimp only); walk_at "ka1")) ⟨by dsimp only; rw [er2]; exact hch9, hn9, hpo2, hrv2⟩
    case done =>
      clear N6 F5
      rintro ⟨⟨p, tp⟩, rv, rn, po⟩ u h tk ⟨hch, hp, hpo, hrv⟩ F4 N4
      dsimp only at hch hp hpo hrv F4 N4 ⊢
      rw [hO.tok.length, List.drop_length] at hch
      obtain ⟨b9, n9, hTk⟩ := hch.done'
      have A4 : Apart (full sc p tp rv rn po) ((da, listOf dv.toArray gd) :: (ta, listOf tv.toArray gt) :: objs) := apart_full A6
      (try k_fold)
      walk_at "steps"
      refine Hold.out ?_
      (rename Fr _ _ _ _ => F5)
      refine lc_spc F5 KX rfl (by intro _; rfl) ?_
      (try k_fold)
      walk_at "steps"
      refine ⟨da, listOf dv.toArray gd, dv, _, place rows3 0, rfl, F5, N4, List.mem_append_right _ (.head _), .of _ _, by rw [sizeLine_eq]; omega, paired_mono hO.due fun v r a => Rw.at (fun q hq => (N4 q (List.mem_append_right _ (.tail _ (.tail _ hq)))).1) a, ?_⟩
      intro D oD h' tk ys lD F' N' hneD hy
      obtain ⟨itt, hF2⟩ := hF2
      have hwd := spaced_wide hF
      generalize hS2 : Txt.join (Str.ofString " ") (((place rows3 0).filter gapK).map (·.2.1)) = S2 at hF2
      (try dsimp only); (try k_fold)
      walk_at "steps"
      refine join_listC (lD.isList (N' _ (.head _)).1) hy (by decide) hwd ?_
      intro t' k
      rw [hS2]
      have A5 : Apart (full sc p tp rv rn po) [(da, listOf dv.toArray gd)] := fun q hq r hr => A4 q hq r (by rw [List.mem_singleton.mp hr]; exact .head _)
      have N6 := news_sub (news' := full sc p tp rv rn po ++ [(da, listOf dv.toArray gd)]) N' (fun q hq => .tail _ ((List.mem_append.mp hq).elim (List.mem_append_left _) fun h => List.mem_append_right _ (by rw [List.mem_singleton.mp h]; exact .head _)))
      clear N' A4
      (try dsimp only); (try k_fold)
      walk_at "steps"
      refine Hold.out ?_
      (rename News _ _ _ _ => N5)
      refine' callE15 (take_sp sc scOk rv rn po p tp (Nat.le_trans hsz (by decide)) hpo hrv hp _ b9 n9 hTk) (fun _ _ h => h) ?k1 ?k2 ?k3 N5 Pick.app A5 ?k5 ?kK ?kd ?ku ?_
      (case k1 => k_asm); (case k2 => k_asm); (case k3 => k_asm); (case k5 => k_asm); (case kK => rfl); (case kd => walk_at "room"); (case ku => walk_at "room")
      intro tt dt val g1 j1 g2 j2 g3 j3 tk1 tb1 tp2 rv2 rn2 po2 h9 tk9 F9 N9 A9 hS9
      have hpo2 := hS9.1
      have hrv2 := hS9.2
      clear N5 hS9
      dsimp only [List.cons_append, List.nil_append] at N9
      (try dsimp only); (try k_fold)
      walk_at "steps"
      refine Hold.out ?_
      (rename News _ _ _ _ => N5)
      have hF1 : ∀ i ∈ place rows3 0, PyData.strOk i.2.1 = true := fun i hi => (hF.ok i hi).2
      refine' Sp.call (same_tokens_sp sc.S S2 sc.tS t' (Nat.le_trans hsz (by decide)) (Nat.le_trans hF2.size (by decide)) _ _ hF.items hF2.items (Nat.le_trans hF.len (by decide)) (Nat.le_trans hF2.len (by decide)) hF1 hF2.ok) ?k1 ?k2 ?k3 N5 Pick.nil (fun _ h9 => absurd h9 List.not_mem_nil) ?k5 ?kK ?kd ?ku ?_
      (case k1 => k_asm); (case k2 => k_asm); (case k3 => k_asm); (case k5 => k_asm); (case kK => rfl); (case kd => walk_at "room"); (case ku => walk_at "room")
      rintro v6 o6 h6 tk6 F6 N6 A6 ⟨rfl, bb, rfl, hbb⟩
      obtain rfl := hbb.mpr hF2.eq
      clear N5 N6 A6
      (try dsimp only); (try k_fold)
      walk_at "steps"
      exact ⟨_, _, _, _, rfl, rfl, by assumption⟩
end law_done_at
theorem law_done (w : World) (s0 s1 : Shared) (mg mb : Str → Option Value) (fa w7 : Addr) (sl pa wl tk3 da ta ra : Nat) (n : Int) (KX : (hd.heap_1 w.params).In s1.heap) (T : Top q0 (looseW q0 []) (ExcName.means s0.heap) mg mb s1.heap) (B1 : Below callerA s1.heap [] s1.heap) (hpw : @Ne Nat pa wl) (p1 : @Ne Nat pa da) (p2 : @Ne Nat pa ta) (p3 : @Ne Nat pa ra) (p4 : @Ne Nat wl da) (p5 : @Ne Nat wl ta) (p6 : @Ne Nat wl ra) (p7 : @Ne Nat da ta) (p8 : @Ne Nat da ra) (p9 : @Ne Nat ta ra) (n0 : 0 ≤ n) (n1 : n < 10) : LW1.1.2 w s0 s1 mg mb fa w7 sl pa wl tk3 da ta ra n := by
  have h9 : law_done_at.Pz (ec law_done_at.ne law_done_at.Pz) := by with_unfolding_all exact law_done_at.main
  exact eps law_done_at.ne h9 (w, s0, s1, mg, mb, fa, w7, sl, pa, wl, tk3, da, ta, ra, n) KX T B1 hpw p1 p2 p3 p4 p5 p6 p7 p8 p9 n0 n1
theorem law_goal : PySem.Challenge.rw_pb0353_01.Holds := LW1.2 law_turn law_done
end Mine
theorem PySem.Challenge.cw_pb0353_01_holds : PySem.Challenge.rw_pb0353_01.Holds :=
  Mine.law_goal
