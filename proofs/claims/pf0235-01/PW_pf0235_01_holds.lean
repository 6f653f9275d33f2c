import PyProof.Rows.All
import Wide.All
import OpenK.AllK
import Wide.FinOn
import Lean
import PySem.Challenge.RW_pf0235_01
open PySem PySem.W PySem.Calls PyProof.Rows
set_option Elab.async false
set_option maxRecDepth 100000
set_option maxHeartbeats 8000000
set_option linter.all false
set_option compiler.extract_closed false
namespace Mine
noncomputable def runT (p : Program) (w : World) (n₀ : Nat) (ann : Option Value) : Nat → SharedT → Thread → Option SharedT
  | 0, _, _ => none
  | n + 1, s, t => match through t with
    | true => some s
    | false => match Fast.tw6613529449190102663 n₀ ann t with
      | false => none
      | true => match Fast.tw10156331382660048174 (Fast.tw11892475500146522536 Fast.tw14364793385576792824) p w s t with
        | some (s', t') => runT p w n₀ ann n s' t'
        | none => none
theorem runT_spec {p : Program} {w : World} {n₀ : Nat} {ann : Option Value} : ∀ {n : Nat} {s s' : SharedT} {t : Thread}, runT p w n₀ ann n s t = some s' → topRun treeTable p w n₀ ann n s.abs t = some s'.abs
  | 0, _, _, _, h => by cases h
  | n + 1, s, s', t, h => by
    unfold runT at h
    unfold topRun
    rw [← Fast.te6613529449190102663, ← Fast.te10156331382660048174, ← Fast.te11892475500146522536, ← Fast.te14364793385576792824] at h
    cases hk : through t with
    | true => rw [hk] at h; cases h; rfl
    | false =>
      rw [hk] at h
      cases hs : stepOk n₀ ann t with
      | false => rw [hs] at h; cases h
      | true =>
        rw [hs] at h
        cases hT : stepT (denote treeTable) p w s t with
        | none => rw [hT] at h; cases h
        | some r => obtain ⟨s₂, t₂⟩ := r; rw [hT] at h; rw [stepT_spec hT]; exact runT_spec h
noncomputable def plant (l : List Obj) : BT := (l.foldl (fun (x : BT × Nat) o => (x.1.ins x.2 o, x.2 + 1)) (BT.nil, 0)).1
noncomputable abbrev runB (p : Program) (w : World) (os : OsState) (M : Nat) : Option SharedT := runT p w 11 (some (.ref 6)) M ⟨plant (boot_heap w.params).objs.toList, 11, (boot_heap w.params).life, Array.mk [], boot_drawn, boot_toks, os⟩ (topStub p)
theorem left_of {p q : Program} {loose : List Str} {Xt : Shared → Bool} {α : Type} {Yf : Shared → α} {Ya : World → α} {N : Nat} {g0 : Bool} (M : Nat)
    (e : opening p = plainProg p.main.scope.names) (hN : Nat.ble 600 N = true) (f : ∀ s, fenceModules? p s = some s) (le : Nat.ble M N = true)
    (run : ∀ (w : World) (os : OsState), (runB p w os M).map (fun sT => ((staticsOk (importedModules p.main.body) (boot_heap w.params) sT.abs.heap && namesBound p sT.abs.heap && gensDone sT.abs && laidKept (boot_heap w.params) sT.abs.heap),
      Fast.tw4187177175401517315 q loose (importedModules p.main.body) Xt g0 sT.abs, Yf sT.abs)) = some (true, openGood q loose, Ya w)) : LeftO p q loose Xt Yf Ya N g0 := fun w => by
  obtain ⟨⟨h, gs, d, k, os⟩, e0, e'⟩ := Option.map_eq_some_iff.mp (boot_open e hN f w)
  obtain ⟨rfl, rfl, rfl, rfl⟩ : h = boot_heap w.params ∧ gs = Array.mk [] ∧ d = boot_drawn ∧ k = boot_toks := by simpa using e'
  obtain ⟨sT, r0, r1⟩ := Option.map_eq_some_iff.mp (run w os)
  rw [← Fast.te4187177175401517315] at r1
  have r := topRun_mono (N - M) _ _ _ _ (runT_spec r0)
  rw [show M + (N - M) = N by have := Nat.le_of_ble_eq_true le; omega] at r
  have hA : (SharedT.abs ⟨plant (boot_heap w.params).objs.toList, 11, (boot_heap w.params).life, Array.mk [], boot_drawn, boot_toks, os⟩) = ⟨boot_heap w.params, Array.mk [], boot_drawn, boot_toks, os⟩ := by kernel_rfl
  rw [hA] at r
  have z : ((boot_heap w.params).isNs mainGlobals && (Array.mk [] : Array GenState).size == 0, (boot_heap w.params).objs.size, (boot_heap w.params).nsMap mainGlobals "__annotations__") = (true, 11, some (Value.ref 6)) := by kernel_rfl
  obtain ⟨z1, z2, z3⟩ : _ ∧ _ ∧ _ := by simpa only [Prod.mk.injEq] using z
  obtain ⟨l1, l2, l3⟩ : _ ∧ _ ∧ _ := by simpa only [Prod.mk.injEq] using r1
  have t : topFrom treeTable p w N ⟨boot_heap w.params, Array.mk [], boot_drawn, boot_toks, os⟩ = some sT.abs := by
    unfold topFrom
    dsimp only
    rw [z1, z2, z3, r]
    show (match staticsOk (importedModules p.main.body) (boot_heap w.params) sT.abs.heap && namesBound p sT.abs.heap && gensDone sT.abs && laidKept (boot_heap w.params) sT.abs.heap with | true => _ | false => _) = _
    rw [l1]
  unfold openEnds
  rw [e0]
  show (topFrom treeTable p w N _).map _ = _
  rw [t]
  exact congrArg some (Prod.ext l2 l3)
noncomputable def vw : Program := view PySem.Challenge.pw_pf0235_01 [0, 2, 3, 5, 6, 8, 9, 10, 11, 12, 13, 14, 15, 16, 17, 19, 20, 21, 22, 23, 24, 25, 26, 27]
local macro_rules | `(tactic| o_law) => `(tactic| refine holds_law (by rw [Fast.te9446332074065402090]; decide +kernel) fun said => ?_)
local macro_rules | `(tactic| o_head $H) => `(tactic| (
  refine holds_open (q := vw) (loose := []) (Xt := fun s => xlAt vw [] s && recOk (RowW.records (OpenRow.toRowW (PySem.Challenge.rw_pf0235_01).row)) s) (XP := XL vw []) (Yf := Hook.obs $H) (Ya := Hook.val $H) (YP := Hook.says $H) (N := 3566) ?hl (Hook.of $H) (Hook.keeps $H) (fun s e => xl_of s (Bool.and_eq_true_iff.mp e).1) XL.keeps (by rfl) (by rfl) (by rfl) (fun s e => recFacts_of (Bool.and_eq_true_iff.mp e).2) (by rfl) (by first | assumption | decide +kernel) (by decide +kernel) ⟨rfl, rfl, rfl, rfl, rfl, by decide +kernel⟩ ?hw ?hc
  (case hl => exact left_of 1741 rfl (by decide) (fun _ => rfl) (by decide) (fun _ _ => by kernel_rfl))))
open_top hd for PySem.Challenge.rw_pf0235_01
theorem top_off : True := by
  w_top off
  trivial
noncomputable abbrev AA (dp un : Nat) (gd : Option (List Code)) (env : Env) (outer : List Env) : Around := { handled := none, depth := dp, frames := some (env :: outer), guards := gd, units := un }
noncomputable def LeaveP (g : Heap) (s : Shared) (Post : Value → List (Addr × Obj) → Prop) (v : Value) (s' : Shared) : Prop :=
  ∃ h' tk' L' m' news', s' = { s with heap := h', toks := tk' } ∧ Fr g L' h' m' ∧ News g L' h' news' ∧ Post v news'
theorem LeaveP.intro {g h' : Heap} {s : Shared} {Post : Value → List (Addr × Obj) → Prop} {v : Value} {tk' : Nat} {L' : Addr} {m' : Str → Option Value} {news' : List (Addr × Obj)}
    (F : Fr g L' h' m') (N : News g L' h' news') (P : Post v news') : LeaveP g s Post v { s with heap := h', toks := tk' } := ⟨h', tk', L', m', news', rfl, F, N, P⟩
noncomputable def Stays (h h' : Heap) (core : List (Addr × Obj)) : Prop := ∀ b o, h.get? b = some o → (∀ p ∈ core, p.1 ≠ b) → h'.get? b = some o
theorem Stays.nil {h h' : Heap} (x : Stays h h' []) : h.StaysIn h' := fun b o e => x b o e fun _ hp => nomatch hp
section
variable {prog : Program} {w : World} {A₀ : Around} {s : Shared} {base h₀ : Heap} {outer : List Env} {L : Addr} {m mg mb : Str → Option Value} {env : Env} {core : List (Addr × Obj)} {K : Frag} {p : Program} {loose : List Str} {mean : ExcName → Option Value}
  {name qual : Str} {params : Arguments} {body : List Stmt} {scope : Scope} {dV kV doc pm cdv ct oc : Value} {an od : Option Addr} {osl : Array (Option Value)} {f : Addr} {args : List Value} {binds : List (Str × Value)}
  {dp un : Nat} {gd : Option (List Code)} {Q E : Value → Shared → Prop} {R : Result → Shared → Prop}
theorem enterCode (Post : Value → List (Addr × Obj) → Prop)
    (B : Below A₀ base outer h₀) (F : Fr h₀ L s.heap m) (X₀ : K.In h₀) (N : News h₀ L s.heap core) (T : Top p loose mean mg mb h₀) (hf : env.frame = some L) (hke : env.scope.kind = .function)
    (ret : ∀ v h' tk' news', Fr h₀ L h' m → News h₀ L h' news' → Stays s.heap h' core → (∀ p ∈ news', (∀ q ∈ core, q.1 ≠ p.1) → s.heap.get? p.1 = none) → Post v news' → R (.ok (.ret v)) { s with heap := h', toks := tk' })
    (ho : K.lookup f = some ⟨oc, od, .func (fnOf name qual params body scope dV kV doc pm an cdv ct), osl⟩) (hcd : codeIn K cdv qual = true) (hroom : dp < recursionLimit)
    (hbind : BindsTo s (fnOf name qual params body scope dV kV doc pm an cdv ct) ⟨args, []⟩ binds) (hloc : ∀ y ∈ binds, scope.names.lookup y.1 = some .local)
    (h : ∀ g L' h₁, Fr h₀ L g m → Fr g L' h₁ (fun y => binds.reverse.lookup y) → News g L' h₁ core → Below (AA dp un gd env outer) base (env :: outer) g → K.In g → Top p loose mean mg mb g → (∀ q ∈ core, q.1 < L') → Stays s.heap g core →
      wpAny (model prog w) ((AA dp un gd env outer).deeper (envOf qual scope L' f cdv)) (execs body (envOf qual scope L' f cdv))
        (fun fl s' => LeaveP g s Post (match fl with | .ret v => v | _ => .none) s')
        (fun _ _ => False)
        { s with heap := h₁, toks := s.toks + binds.length })
    (hco : scope.isCoroutine = false) (hgen : scope.isGenerator = false) (hk : scope.kind = .function)
    (hcell : ∀ x ∈ scope.names, x.2 ≠ .cell) : codeAny (model prog w) (AA dp un gd env outer) (.call (.ref f) ⟨args, []⟩) R s := by
  have hA : (AA dp un gd env outer).frames = some (env :: outer) := rfl
  obtain ⟨FG, BG, st, lv⟩ := groundX (R := R) B F N hA hf hke
  have stays : Stays s.heap (hideAll s.heap (core.map (·.1))) core := fun b o e hb => hideAll_get _ e fun q => by
    obtain ⟨p, hp, rfl⟩ := List.mem_map.mp q
    exact hb p hp rfl
  refine codeAny_call_def (fd := fnOf name qual params body scope dV kV doc pm an cdv ct) (body := body) (binds := binds) hroom ((X₀.keeps F.keep) _ _ ho) rfl (T.nolimit.keeps F.keep) (codeRec_of (X₀.keeps F.keep) hcd) rfl hbind hcell hloc (fun h₁ hns hk₁ => ?_) hco hgen hk
  refine wpAny_mono (h _ s.heap.objs.size h₁ FG ⟨hns, fun b o e => hk₁ b o (of_hideAll _ e), Nat.le_of_eq (hideAll_size _ _)⟩
    (fun p hp => ⟨hk₁ _ _ (N p hp).1, Nat.ne_of_lt (Heap.lt_size (N p hp).1), hideAll_none _ (List.mem_map_of_mem hp)⟩) BG (X₀.keeps st) (T.keeps st) (fun p hp => Heap.lt_size (N p hp).1) stays) (fun fl s' hl => ?_) (fun _ _ y => y.elim)
  obtain ⟨h', tk', L', m', news', rfl, F', N', hP⟩ := hl
  refine lv _ _ ⟨L', m', news', F', N', fun F'' N'' => ?_⟩
  exact ret _ _ _ _ F'' N'' (fun b o e hb => F'.keep b o (stays b o e hb)) (fun p hp hq => by
    cases e : s.heap.get? p.1 with
    | none => rfl
    | some o => have := (N' p hp).2.2; rw [stays _ _ e hq] at this; cases this) hP
theorem enter (Post : Value → List (Addr × Obj) → Prop)
    (B : Below A₀ base outer h₀) (F : Fr h₀ L s.heap m) (X₀ : K.In h₀) (N : News h₀ L s.heap core) (T : Top p loose mean mg mb h₀) (hf : env.frame = some L) (hke : env.scope.kind = .function)
    (ret : ∀ v h' tk' news', Fr h₀ L h' m → News h₀ L h' news' → Stays s.heap h' core → (∀ p ∈ news', (∀ q ∈ core, q.1 ≠ p.1) → s.heap.get? p.1 = none) → Post v news' → Q v { s with heap := h', toks := tk' })
    (ho : K.lookup f = some ⟨oc, od, .func (fnOf name qual params body scope dV kV doc pm an cdv ct), osl⟩) (hcd : codeIn K cdv qual = true) (hroom : dp < recursionLimit)
    (hbind : BindsTo s (fnOf name qual params body scope dV kV doc pm an cdv ct) ⟨args, []⟩ binds) (hloc : ∀ y ∈ binds, scope.names.lookup y.1 = some .local)
    (h : ∀ g L' h₁, Fr h₀ L g m → Fr g L' h₁ (fun y => binds.reverse.lookup y) → News g L' h₁ core → Below (AA dp un gd env outer) base (env :: outer) g → K.In g → Top p loose mean mg mb g → (∀ q ∈ core, q.1 < L') → Stays s.heap g core →
      wpAny (model prog w) ((AA dp un gd env outer).deeper (envOf qual scope L' f cdv)) (execs body (envOf qual scope L' f cdv))
        (fun fl s' => LeaveP g s Post (match fl with | .ret v => v | _ => .none) s')
        (fun _ _ => False)
        { s with heap := h₁, toks := s.toks + binds.length })
    (hco : scope.isCoroutine = false) (hgen : scope.isGenerator = false) (hk : scope.kind = .function)
    (hcell : ∀ x ∈ scope.names, x.2 ≠ .cell) : wpAny (model prog w) (AA dp un gd env outer) (call (.ref f) args) Q E s :=
  wpAny_call (enterCode Post B F X₀ N T hf hke ret ho hcd hroom hbind hloc h hco hgen hk hcell)
end
theorem newsSub {h₀ : Heap} {L : Addr} {h : Heap} {l l' : List (Addr × Obj)} (N : News h₀ L h l) (hs : ∀ p ∈ l', p ∈ l) : News h₀ L h l' := fun p hp => N p (hs p hp)
theorem newsApp {h₀ : Heap} {L : Addr} {h : Heap} {l l' : List (Addr × Obj)} (N : News h₀ L h l) (N' : News h₀ L h l') : News h₀ L h (l ++ l') := fun p hp => (List.mem_append.mp hp).elim (N p) (N' p)
theorem newsRest {h₀ : Heap} {L : Addr} {h h' : Heap} {core rest : List (Addr × Obj)} (N : News h₀ L h rest) (st : Stays h h' core) (hd : ∀ p ∈ rest, ∀ q ∈ core, q.1 ≠ p.1) : News h₀ L h' rest :=
  fun p hp => ⟨st _ _ (N p hp).1 (hd p hp), (N p hp).2⟩
noncomputable def Halt (P : Prop) : Prop := P
theorem halt {P : Prop} (h : Halt P) : P := h
theorem haltK {k : Nat} {i : OfNat Nat k} {M : Model} {A : Around} {as : List Value} {kw : List (Str × Value)} {Q E : Value → Shared → Prop} {s : Shared} (h : Halt (wpAny M A (call (.ref (@OfNat.ofNat Nat k i)) as kw) Q E s)) : wpAny M A (call (.ref (@OfNat.ofNat Nat k i)) as kw) Q E s := h
theorem haltL {prog : Program} {w : World} {M : Model} {A A' : Around} {h₀ : Heap} {env : Env} {x : Str} {body : List Stmt} {Q : Flow → Shared → Prop} {E E' : Value → Shared → Prop} {v : Value} {s : Shared} (h : Halt (wpAny M A (pyIter v) (fun it s₂ => LoopAtV prog w A' h₀ env x body Q E it s₂) E' s)) : wpAny M A (pyIter v) (fun it s₂ => LoopAtV prog w A' h₀ env x body Q E it s₂) E' s := h
theorem haltT {prog : Program} {w : World} {M : Model} {A A' : Around} {h₀ : Heap} {env : Env} {x : Expr} {body : List Stmt} {Q : Flow → Shared → Prop} {E E' : Value → Shared → Prop} {v : Value} {s : Shared} (h : Halt (wpAny M A (pyIter v) (fun it s₂ => TurnsAt prog w A' h₀ env x body Q E it s₂) E' s)) : wpAny M A (pyIter v) (fun it s₂ => TurnsAt prog w A' h₀ env x body Q E it s₂) E' s := h
theorem haltG {M : Model} {A : Around} {a : Addr} {b : Sem Bool} {Q : Value × List Value → Shared → Prop} {E : Value → Shared → Prop} {s : Shared} (h : Halt (wpAny M A (getMethod (.ref a) (Str.ofString "get") b) Q E s)) : wpAny M A (getMethod (.ref a) (Str.ofString "get") b) Q E s := h
theorem newsUpd {h₀ : Heap} {L : Addr} {h h' : Heap} {d : Addr} {o o₁ o' : Obj} {news news' : List (Addr × Obj)} (N : News h₀ L h news) (U : Upd d o o' news news') (st : Stays h h' [(d, o₁)]) (e : News h₀ L h' [(d, o')]) : News h₀ L h' news' := by
  obtain ⟨pre, post, rfl, rfl, a, b⟩ := U.split
  intro p hp
  rcases List.mem_append.mp hp with hp | hp
  · have z := N p (List.mem_append_left _ hp)
    exact ⟨st _ _ z.1 (fun q hq => by rw [List.mem_singleton.mp hq]; exact Ne.symm (a p hp)), z.2⟩
  · rcases List.mem_cons.mp hp with rfl | hp
    · exact e _ (.head _)
    · have z := N p (List.mem_append_right _ (.tail _ hp))
      exact ⟨st _ _ z.1 (fun q hq => by rw [List.mem_singleton.mp hq]; exact Ne.symm (b p hp)), z.2⟩
theorem newsOne {h₀ : Heap} {L : Addr} {h : Heap} {d : Addr} {o o' : Obj} {news news' : List (Addr × Obj)} (N : News h₀ L h news) (U : Upd d o o' news news') : News h₀ L h [(d, o)] := by
  obtain ⟨pre, post, rfl, rfl, a, b⟩ := U.split
  exact newsSub N fun p hp => by rw [List.mem_singleton.mp hp]; exact List.mem_append_right _ (.head _)
theorem newsOff {h₀ : Heap} {L : Addr} {h : Heap} {news : List (Addr × Obj)} {a : Addr} (N : News h₀ L h news) (e : h.get? a = none) : ∀ p ∈ news, p.1 ≠ a := fun p hp q => by
  have := (N p hp).1; rw [q, e] at this; cases this
section
variable {prog : Program} {w : World} {A₀ : Around} {s : Shared} {base h₀ : Heap} {outer : List Env} {L : Addr} {m mg mb : Str → Option Value} {env : Env} {core : List (Addr × Obj)} {K : Frag} {p : Program} {loose : List Str} {mean : ExcName → Option Value}
  {name qual : Str} {params : Arguments} {body : List Stmt} {scope : Scope} {dV kV doc pm cdv ct oc : Value} {an od : Option Addr} {osl : Array (Option Value)} {f : Addr} {args : List Value} {binds : List (Str × Value)}
  {dp un : Nat} {gd : Option (List Code)} {Q E : Value → Shared → Prop} {R : Result → Shared → Prop}
theorem enterCodeC (Post : Value → List (Addr × Obj) → Prop)
    (B : Below A₀ base outer h₀) (F : Fr h₀ L s.heap m) (X₀ : K.In h₀) (N : News h₀ L s.heap core) (T : Top p loose mean mg mb h₀) (hf : env.frame = some L) (hke : env.scope.kind = .function)
    (ret : ∀ v h' tk' news', Fr h₀ L h' m → News h₀ L h' news' → Stays s.heap h' core → (∀ p ∈ news', (∀ q ∈ core, q.1 ≠ p.1) → s.heap.get? p.1 = none) → Post v news' → R (.ok (.ret v)) { s with heap := h', toks := tk' })
    (ho : K.lookup f = some ⟨oc, od, .func (fnOf name qual params body scope dV kV doc pm an cdv ct), osl⟩) (hcd : codeIn K cdv qual = true) (hroom : dp < recursionLimit)
    (hbind : BindsTo s (fnOf name qual params body scope dV kV doc pm an cdv ct) ⟨args, []⟩ binds) (hkind : (binds.all fun y => scope.names.lookup y.1 == some .local || scope.names.lookup y.1 == some .cell) = true)
    (hnd : ((cellsFrom 0 scope.names []).map (·.1)).Nodup)
    (h : ∀ g L' h₁ tk cells, Fr h₀ L g m → Fr g L' h₁ (bindL (envOfC qual scope L' f cdv).kindOf binds fun _ => none) → News g L' h₁ (cells ++ core) →
      CellsAre (bindC (envOfC qual scope L' f cdv).kindOf binds fun _ => none) (cellsFrom (L' + 1) scope.names []) cells → Below (AA dp un gd env outer) base (env :: outer) g → K.In g → Top p loose mean mg mb g → (∀ q ∈ core, q.1 < L') → Stays s.heap g core →
      wpAny (model prog w) ((AA dp un gd env outer).deeper (envOfC qual scope L' f cdv)) (execs body (envOfC qual scope L' f cdv))
        (fun fl s' => LeaveP g s Post (match fl with | .ret v => v | _ => .none) s')
        (fun _ _ => False)
        { s with heap := h₁, toks := tk })
    (hco : scope.isCoroutine = false) (hgen : scope.isGenerator = false) (hk : scope.kind = .function) : codeAny (model prog w) (AA dp un gd env outer) (.call (.ref f) ⟨args, []⟩) R s := by
  have hA : (AA dp un gd env outer).frames = some (env :: outer) := rfl
  obtain ⟨FG, BG, st, lv⟩ := groundX (R := R) B F N hA hf hke
  have stays : Stays s.heap (hideAll s.heap (core.map (·.1))) core := fun b o e hb => hideAll_get _ e fun q => by
    obtain ⟨p, hp, rfl⟩ := List.mem_map.mp q
    exact hb p hp rfl
  refine codeAny_call_function hroom ((X₀.keeps F.keep) _ _ ho) rfl hco hgen rfl (codeRec_of (X₀.keeps F.keep) hcd) (hbind _ _ _ _ ?_)
  refine wpAny_newFunctionEnv_cells hk (kindsX hkind _) fun env' he s' x => ?_
  subst he
  refine ⟨(T.nolimit.keeps F.keep).keeps x.toInCall.keep, codeAny_func ?_⟩
  obtain ⟨h₁, tk, rfl, _⟩ := x.done
  have hk₁ := x.toInCall.keep
  obtain ⟨cells, NC, Y⟩ := Cl.news (h₀ := s.heap) (Nat.le_refl _) fun n c hm => ⟨x.cell n c (lookup_of_mem_nodup (cellsFrom_names scope.names 0 (s.heap.objs.size + 1) [] [] rfl ▸ hnd) hm), x.above n c hm⟩
  refine wpAny_mono (h _ s.heap.objs.size h₁ tk cells FG ⟨x.toInCall.ns, fun b o e => hk₁ b o (of_hideAll _ e), Nat.le_of_eq (hideAll_size _ _)⟩ (fun p hp => ?_) Y BG (X₀.keeps st) (T.keeps st) (fun p hp => Heap.lt_size (N p hp).1) stays) (fun fl s' hl => ?_) (fun _ _ y => y.elim)
  · rcases List.mem_append.mp hp with hp | hp
    · refine ⟨(NC p hp).1, (NC p hp).2.1, ?_⟩
      cases q : (hideAll s.heap (core.map (·.1))).get? p.1 with
      | none => rfl
      | some o => have := of_hideAll _ q; rw [(NC p hp).2.2] at this; cases this
    · exact ⟨hk₁ _ _ (N p hp).1, Nat.ne_of_lt (Heap.lt_size (N p hp).1), hideAll_none _ (List.mem_map_of_mem hp)⟩
  · obtain ⟨h', tk', L', m', news', rfl, F', N', hP⟩ := hl
    refine lv _ _ ⟨L', m', news', F', N', fun F'' N'' => ?_⟩
    exact ret _ _ _ _ F'' N'' (fun b o e hb => F'.keep b o (stays b o e hb)) (fun p hp hq => by
      cases e : s.heap.get? p.1 with
      | none => rfl
      | some o => have := (N' p hp).2.2; rw [stays _ _ e hq] at this; cases this) hP
theorem enterC (Post : Value → List (Addr × Obj) → Prop)
    (B : Below A₀ base outer h₀) (F : Fr h₀ L s.heap m) (X₀ : K.In h₀) (N : News h₀ L s.heap core) (T : Top p loose mean mg mb h₀) (hf : env.frame = some L) (hke : env.scope.kind = .function)
    (ret : ∀ v h' tk' news', Fr h₀ L h' m → News h₀ L h' news' → Stays s.heap h' core → (∀ p ∈ news', (∀ q ∈ core, q.1 ≠ p.1) → s.heap.get? p.1 = none) → Post v news' → Q v { s with heap := h', toks := tk' })
    (ho : K.lookup f = some ⟨oc, od, .func (fnOf name qual params body scope dV kV doc pm an cdv ct), osl⟩) (hcd : codeIn K cdv qual = true) (hroom : dp < recursionLimit)
    (hbind : BindsTo s (fnOf name qual params body scope dV kV doc pm an cdv ct) ⟨args, []⟩ binds) (hkind : (binds.all fun y => scope.names.lookup y.1 == some .local || scope.names.lookup y.1 == some .cell) = true)
    (hnd : ((cellsFrom 0 scope.names []).map (·.1)).Nodup)
    (h : ∀ g L' h₁ tk cells, Fr h₀ L g m → Fr g L' h₁ (bindL (envOfC qual scope L' f cdv).kindOf binds fun _ => none) → News g L' h₁ (cells ++ core) →
      CellsAre (bindC (envOfC qual scope L' f cdv).kindOf binds fun _ => none) (cellsFrom (L' + 1) scope.names []) cells → Below (AA dp un gd env outer) base (env :: outer) g → K.In g → Top p loose mean mg mb g → (∀ q ∈ core, q.1 < L') → Stays s.heap g core →
      wpAny (model prog w) ((AA dp un gd env outer).deeper (envOfC qual scope L' f cdv)) (execs body (envOfC qual scope L' f cdv))
        (fun fl s' => LeaveP g s Post (match fl with | .ret v => v | _ => .none) s')
        (fun _ _ => False)
        { s with heap := h₁, toks := tk })
    (hco : scope.isCoroutine = false) (hgen : scope.isGenerator = false) (hk : scope.kind = .function) : wpAny (model prog w) (AA dp un gd env outer) (call (.ref f) args) Q E s :=
  wpAny_call (enterCodeC Post B F X₀ N T hf hke ret ho hcd hroom hbind hkind hnd h hco hgen hk)
end
theorem gen_post {M : Model} {A : Around} {x : Sem Flow} {Q : Flow → Shared → Prop} {E : Value → Shared → Prop} {hp : Heap} {tk : Nat} {g0 : Array GenState} {d0 : Drawn} {o0 : OsState}
    (h : ∀ (G : Array GenState) (D : Drawn) (O : OsState) (Q' : Flow → Shared → Prop), (∀ f h' tk', Q f ⟨h', g0, d0, tk', o0⟩ → Q' f ⟨h', G, D, tk', O⟩) → wpAny M A x Q' E ⟨hp, G, D, tk, O⟩) :
    wpAny M A x Q E ⟨hp, g0, d0, tk, o0⟩ := h g0 d0 o0 Q fun _ _ _ z => z
theorem gen_Q {M : Model} {A : Around} {x : Sem Flow} {Q : Flow → Shared → Prop} {E : Value → Shared → Prop} {s : Shared} (h : ∀ Q' : Flow → Shared → Prop, (∀ f s', Q f s' → Q' f s') → wpAny M A x Q' E s) : wpAny M A x Q E s := h Q fun _ _ z => z
theorem lt_self1 {a : Nat} : a < a + 1 := Nat.lt_succ_self a
theorem lt_s {a b : Nat} (h : a < b) : a < b + 1 := Nat.lt_succ_of_lt h
noncomputable abbrev tupO (X : Int) (u : Tok) (Y : Int) (v : Tok) : Obj := { cls := .type "tuple", data := .seq #[.int X u, .int Y v] }
theorem gen_post2 {M : Model} {A : Around} {x : Sem Unit} {y : Sem Flow} {Q : Flow → Shared → Prop} {E : Value → Shared → Prop} {hp : Heap} {tk : Nat} {g0 : Array GenState} {d0 : Drawn} {o0 : OsState}
    (h : ∀ (G : Array GenState) (D : Drawn) (O : OsState) (Q' : Flow → Shared → Prop), (∀ f h' tk', Q f ⟨h', g0, d0, tk', o0⟩ → Q' f ⟨h', G, D, tk', O⟩) → wpAny M A x (fun _ s => wpAny M A y Q' E s) E ⟨hp, G, D, tk, O⟩) :
    wpAny M A x (fun _ s => wpAny M A y Q E s) E ⟨hp, g0, d0, tk, o0⟩ := h g0 d0 o0 Q fun _ _ _ z => z
theorem gen_postE {M : Model} {A : Around} {x : Sem Flow} {Q : Flow → Shared → Prop} {E : Value → Shared → Prop} {hp : Heap} {tk : Nat} {g0 : Array GenState} {d0 : Drawn} {o0 : OsState}
    (h : ∀ (G : Array GenState) (D : Drawn) (O : OsState) (Q' : Flow → Shared → Prop) (E' : Value → Shared → Prop), (∀ f h' tk', Q f ⟨h', g0, d0, tk', o0⟩ → Q' f ⟨h', G, D, tk', O⟩) → (∀ e h' tk', E e ⟨h', g0, d0, tk', o0⟩ → E' e ⟨h', G, D, tk', O⟩) → wpAny M A x Q' E' ⟨hp, G, D, tk, O⟩) :
    wpAny M A x Q E ⟨hp, g0, d0, tk, o0⟩ := h g0 d0 o0 Q E (fun _ _ _ z => z) fun _ _ _ z => z
section
variable {α : Type} {a : α} {l l' k j r : List α}
theorem all_nil {P : α → Prop} : ∀ p ∈ ([] : List α), P p := fun _ h => nomatch h
theorem all_cons {P : α → Prop} (h : P a) (h' : ∀ p ∈ r, P p) : ∀ p ∈ a :: r, P p := List.forall_mem_cons.mpr ⟨h, h'⟩
theorem all_app {P : α → Prop} (h : ∀ p ∈ k, P p) (h' : ∀ p ∈ r, P p) : ∀ p ∈ k ++ r, P p := fun p hp => (List.mem_append.mp hp).elim (h p) (h' p)
theorem all_sub {P : α → Prop} (h : ∀ p ∈ l, P p) (s : ∀ p ∈ k, p ∈ l) : ∀ p ∈ k, P p := fun p hp => h p (s p hp)
theorem ite_cf {β : Type} {b : Bool} {x y : β} (h : b = false) : (if b = true then x else y) = y := by rw [h]; rfl
theorem sub_nil : ∀ p ∈ ([] : List α), p ∈ l := fun _ h => nomatch h
theorem sub_self : ∀ p ∈ l, p ∈ l := fun _ h => h
theorem sub_cons (h : a ∈ l) (h' : ∀ p ∈ r, p ∈ l) : ∀ p ∈ a :: r, p ∈ l := List.forall_mem_cons.mpr ⟨h, h'⟩
theorem sub_app (h : ∀ p ∈ k, p ∈ l) (h' : ∀ p ∈ r, p ∈ l) : ∀ p ∈ k ++ r, p ∈ l := fun p hp => (List.mem_append.mp hp).elim (h p) (h' p)
theorem sub_tail (h : ∀ p ∈ k, p ∈ l) : ∀ p ∈ k, p ∈ a :: l := fun p hp => .tail _ (h p hp)
theorem sub_left (h : ∀ p ∈ k, p ∈ j) : ∀ p ∈ k, p ∈ j ++ l := fun p hp => List.mem_append_left _ (h p hp)
theorem sub_right (h : ∀ p ∈ k, p ∈ l) : ∀ p ∈ k, p ∈ j ++ l := fun p hp => List.mem_append_right _ (h p hp)
theorem mem_head : a ∈ a :: l := .head _
theorem mem_tail {b : α} (h : a ∈ l) : a ∈ b :: l := .tail _ h
theorem mem_left (h : a ∈ j) : a ∈ j ++ l := List.mem_append_left _ h
theorem mem_right (h : a ∈ l) : a ∈ j ++ l := List.mem_append_right _ h
end
structure Hold (P : Prop) : Prop where
  out : P
noncomputable abbrev upd (m : Str → Option Value) (x : Str) (v : Value) : Str → Option Value := fun y => if y = x then some v else m y
theorem upd_ne {m : Str → Option Value} {x z : Str} {v : Value} (h : ¬ z = x) : upd m x v z = m z := if_neg h
noncomputable abbrev seqK (M : Model) (A : Around) (E : Value → Shared → Prop) (env : Env) (rest : List Stmt) (Q : Flow → Shared → Prop) : Flow → Shared → Prop := fun f s' => match f with | .next => wpAny M A (execs rest env) Q E s' | f => Q f s'
noncomputable def isLocal (cs : Scope) (x : Str) : Bool := cs.kind == .function && cs.names.lookup x == some .local && (x == ("__debug__" : Str)) == false
section
variable {M : Model} {A : Around} {E : Value → Shared → Prop} {s : Shared} {env : Env} {st : Stmt} {rest : List Stmt}
theorem execsU {Q : Flow → Shared → Prop} (h : wpAny M A (exec st env) (seqK M A E env rest Q) E s) : wpAny M A (execs (st :: rest) env) Q E s := wpAny_execs_cons h
theorem execs1 {Q : Flow → Shared → Prop} (h : wpAny M A (exec st env) Q E s) : wpAny M A (execs [st] env) Q E s :=
  wpAny_execs_cons (wpAny_mono h (fun f _ q => by cases f <;> first | exact wpAny_execs_nil q | exact q) fun _ _ e => e)
end
section
variable {cs : Scope} {x cn : Str} {ccd : Value} {pos : Pos} {M : Model} {A : Around} {E : Value → Shared → Prop} {a : Addr} {h₀ : Heap} {L : Addr} {cl : List (Str × Addr)} {s : Shared} {m : Str → Option Value} {v : Value}
theorem nameU {Q : Value → Shared → Prop} (hx : true = isLocal cs x) (F : Fr h₀ L s.heap m) (hv : some v = m x) (h : Q v s) : wpAny M A (eval (.Name x pos) (envX cn cs L a ccd cl)) Q E s := by
  have e := hx.symm
  unfold isLocal at e
  simp only [Bool.and_eq_true, beq_iff_eq] at e
  exact nameX_L F hv.symm h e.1.1 e.1.2 e.2
theorem storeU {hp : Heap} {gg : Array GenState} {dr : Drawn} {tk : Nat} {os : OsState} {news : List (Addr × Obj)} {Q : Unit → Shared → Prop} (hx : true = isLocal cs x) (F : Fr h₀ L hp m) (N : News h₀ L hp news)
    (h : ∀ h', Fr h₀ L h' (upd m x v) → News h₀ L h' news → Q () ⟨h', gg, dr, tk + 1, os⟩) : wpAny M A (storeName (envX cn cs L a ccd cl) x v) Q E ⟨hp, gg, dr, tk, os⟩ := by
  have e := hx.symm
  unfold isLocal at e
  simp only [Bool.and_eq_true, beq_iff_eq] at e
  exact storeX_L (s := ⟨hp, gg, dr, tk, os⟩) F N h e.1.1 e.1.2
theorem constU {env : Env} {i : Int} {k : Nat} {hp : Heap} {gg : Array GenState} {dr : Drawn} {tk : Nat} {os : OsState} {Q : Value → Shared → Prop} (h : Q (.int i tk) ⟨hp, gg, dr, tk + 1, os⟩) : wpAny M A (eval (.Constant (.int i) k pos) env) Q E ⟨hp, gg, dr, tk, os⟩ := wpAny_Constant_int h
end
section
variable (M : Model) (A : Around) (E : Value → Shared → Prop) (env : Env)
noncomputable abbrev kBinR (op : Operator) (a : Value) (Q : Value → Shared → Prop) : Value → Shared → Prop := fun b s₂ => wpAny M A (binaryOp op a b) Q E s₂
noncomputable abbrev kBinL (op : Operator) (r : PySem.Expr) (Q : Value → Shared → Prop) : Value → Shared → Prop := fun a s₁ => wpAny M A (eval r env) (kBinR M A E op a Q) E s₁
noncomputable abbrev kTrue (Q : Bool → Shared → Prop) : Value → Shared → Prop := fun c s₃ => wpAny M A (truthy c) Q E s₃
noncomputable abbrev kCmpR (op : CmpOp) (a : Value) (Q : Bool → Shared → Prop) : Value → Shared → Prop := fun b s₂ => wpAny M A (compareOp op a b) (kTrue M A E Q) E s₂
noncomputable abbrev kCmpL (op : CmpOp) (r : PySem.Expr) (Q : Bool → Shared → Prop) : Value → Shared → Prop := fun a s₁ => wpAny M A (eval r env) (kCmpR M A E op a Q) E s₁
noncomputable abbrev kCons (Q : List Value → Shared → Prop) (v : Value) : List Value → Shared → Prop := fun vs s => Q (v :: vs) s
noncomputable abbrev kArg (pos : Pos) (rest : List PySem.Expr) (Q : List Value → Shared → Prop) : Value → Shared → Prop := fun v s₁ => wpAny M A (spliced (backTo pos (starEach rest env))) (kCons Q v) E s₁
noncomputable abbrev kCall (pos : Pos) (args : List PySem.Expr) (Q : Value → Shared → Prop) : Value → Shared → Prop := fun f s₁ => wpAny M A (callWith pos f [] (backTo pos (starEach args env)) []) Q E s₁
noncomputable abbrev kNext (Q : Flow → Shared → Prop) : Unit → Shared → Prop := fun _ => Q .next
noncomputable abbrev kStore (x : Str) (Q : Flow → Shared → Prop) : Value → Shared → Prop := fun v s₁ => wpAny M A (storeName env x v) (kNext Q) E s₁
noncomputable abbrev kRet (Q : Flow → Shared → Prop) : Value → Shared → Prop := fun v => Q (.ret v)
noncomputable abbrev kSubR (value slice : PySem.Expr) (o : Value) (Q : Value → Shared → Prop) : Value → Shared → Prop := fun i s₂ => wpAny M A (subscriptTail value slice o i) Q E s₂
noncomputable abbrev kSubL (value slice : PySem.Expr) (Q : Value → Shared → Prop) : Value → Shared → Prop := fun o s₁ => wpAny M A (eval slice env) (kSubR M A E value slice o Q) E s₁
noncomputable abbrev kTup (Q : Value → Shared → Prop) : List Value → Shared → Prop := fun vs s₁ => wpAny M A (newTuple vs) Q E s₁
noncomputable abbrev kLst (Q : Value → Shared → Prop) : List Value → Shared → Prop := fun vs s₁ => wpAny M A (newList vs) Q E s₁
end
section
variable {M : Model} {A : Around} {E : Value → Shared → Prop} {s : Shared} {env : Env} {l r e value slice : PySem.Expr} {rest elts : List PySem.Expr} {pos p' : Pos} {x : Str} {op : Operator} {cop : CmpOp} {k : Nat}
theorem binU {Q : Value → Shared → Prop} (h : wpAny M A (eval l env) (kBinL M A E env op r Q) E s) : wpAny M A (eval (.BinOp l op r pos) env) Q E s := wpAny_BinOp h
theorem cmpU {whole : Sem Value} {Q : Bool → Shared → Prop} (hm : behindInMarks cop r = false) (h : wpAny M A (eval l env) (kCmpL M A E env cop r Q) E s) : wpAny M A (isTrue (.Compare l [cop] [r] pos) env whole) Q E s := wpAny_isTrue_Compare1 h hm
theorem argU {Q : List Value → Shared → Prop} (h : wpAny M A (eval e env) (kArg M A E env pos rest Q) E s) (he : starEach (e :: rest) env = (false, eval e env) :: starEach rest env := by rfl) :
    wpAny M A (spliced (backTo pos (starEach (e :: rest) env))) Q E s := args_cons h he
theorem callU {Q : Value → Shared → Prop} (h : wpAny M A (eval e env) (kCall M A E env pos rest Q) E s)
    (he : eval (.Call e rest [] pos) env = (do callWith pos (← eval e env) [] (backTo pos (starEach rest env)) (backToKw pos (keywordEach [] env))) := by rfl) : wpAny M A (eval (.Call e rest [] pos) env) Q E s := Call_ h he
theorem assignU {Q : Flow → Shared → Prop} (h : wpAny M A (eval value env) (kStore M A E env x Q) E s) (hs : swapsWith value (some (.Name x p')) pos.line env = pure false := by rfl) :
    wpAny M A (exec (.Assign [.Name x p'] value pos) env) Q E s := wpAny_Assign_Name h hs
theorem retU {Q : Flow → Shared → Prop} (h : wpAny M A (eval e env) (kRet Q) E s) : wpAny M A (exec (.Return (some e) pos) env) Q E s := wpAny_Return_some h
theorem subU {Q : Value → Shared → Prop} (h : wpAny M A (eval value env) (kSubL M A E env value slice Q) E s) : wpAny M A (eval (.Subscript value slice pos) env) Q E s := Subscript_ h
theorem tupU {Q : Value → Shared → Prop} (h : wpAny M A (spliced (backTo pos (starEach elts env))) (kTup M A E Q) E s) : wpAny M A (eval (.Tuple elts k pos) env) Q E s := Tuple_ h
theorem lstU {Q : Value → Shared → Prop} (h : wpAny M A (spliced (backTo pos (starEach elts env))) (kLst M A E Q) E s) : wpAny M A (eval (.List elts pos) env) Q E s := List_ h
end
section
variable {G : Prop}
theorem and3 {q1 q2 q3 : Prop} (h : q1 ∧ q2 ∧ q3) (k : q1 → q2 → q3 → G) : G := k h.1 h.2.1 h.2.2
theorem and4 {q1 q2 q3 q4 : Prop} (h : q1 ∧ q2 ∧ q3 ∧ q4) (k : q1 → q2 → q3 → q4 → G) : G := k h.1 h.2.1 h.2.2.1 h.2.2.2
theorem and5 {q1 q2 q3 q4 q5 : Prop} (h : q1 ∧ q2 ∧ q3 ∧ q4 ∧ q5) (k : q1 → q2 → q3 → q4 → q5 → G) : G := k h.1 h.2.1 h.2.2.1 h.2.2.2.1 h.2.2.2.2
theorem and6 {q1 q2 q3 q4 q5 q6 : Prop} (h : q1 ∧ q2 ∧ q3 ∧ q4 ∧ q5 ∧ q6) (k : q1 → q2 → q3 → q4 → q5 → q6 → G) : G := k h.1 h.2.1 h.2.2.1 h.2.2.2.1 h.2.2.2.2.1 h.2.2.2.2.2
theorem and7 {q1 q2 q3 q4 q5 q6 q7 : Prop} (h : q1 ∧ q2 ∧ q3 ∧ q4 ∧ q5 ∧ q6 ∧ q7) (k : q1 → q2 → q3 → q4 → q5 → q6 → q7 → G) : G := k h.1 h.2.1 h.2.2.1 h.2.2.2.1 h.2.2.2.2.1 h.2.2.2.2.2.1 h.2.2.2.2.2.2
theorem and8 {q1 q2 q3 q4 q5 q6 q7 q8 : Prop} (h : q1 ∧ q2 ∧ q3 ∧ q4 ∧ q5 ∧ q6 ∧ q7 ∧ q8) (k : q1 → q2 → q3 → q4 → q5 → q6 → q7 → q8 → G) : G := k h.1 h.2.1 h.2.2.1 h.2.2.2.1 h.2.2.2.2.1 h.2.2.2.2.2.1 h.2.2.2.2.2.2.1 h.2.2.2.2.2.2.2
theorem and9 {q1 q2 q3 q4 q5 q6 q7 q8 q9 : Prop} (h : q1 ∧ q2 ∧ q3 ∧ q4 ∧ q5 ∧ q6 ∧ q7 ∧ q8 ∧ q9) (k : q1 → q2 → q3 → q4 → q5 → q6 → q7 → q8 → q9 → G) : G := k h.1 h.2.1 h.2.2.1 h.2.2.2.1 h.2.2.2.2.1 h.2.2.2.2.2.1 h.2.2.2.2.2.2.1 h.2.2.2.2.2.2.2.1 h.2.2.2.2.2.2.2.2
theorem and10 {q1 q2 q3 q4 q5 q6 q7 q8 q9 q10 : Prop} (h : q1 ∧ q2 ∧ q3 ∧ q4 ∧ q5 ∧ q6 ∧ q7 ∧ q8 ∧ q9 ∧ q10) (k : q1 → q2 → q3 → q4 → q5 → q6 → q7 → q8 → q9 → q10 → G) : G := k h.1 h.2.1 h.2.2.1 h.2.2.2.1 h.2.2.2.2.1 h.2.2.2.2.2.1 h.2.2.2.2.2.2.1 h.2.2.2.2.2.2.2.1 h.2.2.2.2.2.2.2.2.1 h.2.2.2.2.2.2.2.2.2
theorem and11 {q1 q2 q3 q4 q5 q6 q7 q8 q9 q10 q11 : Prop} (h : q1 ∧ q2 ∧ q3 ∧ q4 ∧ q5 ∧ q6 ∧ q7 ∧ q8 ∧ q9 ∧ q10 ∧ q11) (k : q1 → q2 → q3 → q4 → q5 → q6 → q7 → q8 → q9 → q10 → q11 → G) : G := k h.1 h.2.1 h.2.2.1 h.2.2.2.1 h.2.2.2.2.1 h.2.2.2.2.2.1 h.2.2.2.2.2.2.1 h.2.2.2.2.2.2.2.1 h.2.2.2.2.2.2.2.2.1 h.2.2.2.2.2.2.2.2.2.1 h.2.2.2.2.2.2.2.2.2.2
theorem and12 {q1 q2 q3 q4 q5 q6 q7 q8 q9 q10 q11 q12 : Prop} (h : q1 ∧ q2 ∧ q3 ∧ q4 ∧ q5 ∧ q6 ∧ q7 ∧ q8 ∧ q9 ∧ q10 ∧ q11 ∧ q12) (k : q1 → q2 → q3 → q4 → q5 → q6 → q7 → q8 → q9 → q10 → q11 → q12 → G) : G := k h.1 h.2.1 h.2.2.1 h.2.2.2.1 h.2.2.2.2.1 h.2.2.2.2.2.1 h.2.2.2.2.2.2.1 h.2.2.2.2.2.2.2.1 h.2.2.2.2.2.2.2.2.1 h.2.2.2.2.2.2.2.2.2.1 h.2.2.2.2.2.2.2.2.2.2.1 h.2.2.2.2.2.2.2.2.2.2.2
theorem and13 {q1 q2 q3 q4 q5 q6 q7 q8 q9 q10 q11 q12 q13 : Prop} (h : q1 ∧ q2 ∧ q3 ∧ q4 ∧ q5 ∧ q6 ∧ q7 ∧ q8 ∧ q9 ∧ q10 ∧ q11 ∧ q12 ∧ q13) (k : q1 → q2 → q3 → q4 → q5 → q6 → q7 → q8 → q9 → q10 → q11 → q12 → q13 → G) : G := k h.1 h.2.1 h.2.2.1 h.2.2.2.1 h.2.2.2.2.1 h.2.2.2.2.2.1 h.2.2.2.2.2.2.1 h.2.2.2.2.2.2.2.1 h.2.2.2.2.2.2.2.2.1 h.2.2.2.2.2.2.2.2.2.1 h.2.2.2.2.2.2.2.2.2.2.1 h.2.2.2.2.2.2.2.2.2.2.2.1 h.2.2.2.2.2.2.2.2.2.2.2.2
end
section
theorem exE2 {α : Type} {β : Type} {p : α → β → Prop} {G : Prop} (h : ∃ x1 x2, p x1 x2) (k : ∀ x1 x2, p x1 x2 → G) : G := let ⟨x1, x2, y⟩ := h; k x1 x2 y
theorem exI2 {α : Type} {β : Type} {p : α → β → Prop} (x1 : α) (x2 : β) (h : p x1 x2) : ∃ x1 x2, p x1 x2 := ⟨x1, x2, h⟩
theorem exE3 {α : Type} {β : Type} {γ : Type} {p : α → β → γ → Prop} {G : Prop} (h : ∃ x1 x2 x3, p x1 x2 x3) (k : ∀ x1 x2 x3, p x1 x2 x3 → G) : G := let ⟨x1, x2, x3, y⟩ := h; k x1 x2 x3 y
theorem exI3 {α : Type} {β : Type} {γ : Type} {p : α → β → γ → Prop} (x1 : α) (x2 : β) (x3 : γ) (h : p x1 x2 x3) : ∃ x1 x2 x3, p x1 x2 x3 := ⟨x1, x2, x3, h⟩
theorem exE4 {α : Type} {β : Type} {γ : Type} {δ : Type} {p : α → β → γ → δ → Prop} {G : Prop} (h : ∃ x1 x2 x3 x4, p x1 x2 x3 x4) (k : ∀ x1 x2 x3 x4, p x1 x2 x3 x4 → G) : G := let ⟨x1, x2, x3, x4, y⟩ := h; k x1 x2 x3 x4 y
theorem exI4 {α : Type} {β : Type} {γ : Type} {δ : Type} {p : α → β → γ → δ → Prop} (x1 : α) (x2 : β) (x3 : γ) (x4 : δ) (h : p x1 x2 x3 x4) : ∃ x1 x2 x3 x4, p x1 x2 x3 x4 := ⟨x1, x2, x3, x4, h⟩
theorem exE5 {α : Type} {β : Type} {γ : Type} {δ : Type} {ε : Type} {p : α → β → γ → δ → ε → Prop} {G : Prop} (h : ∃ x1 x2 x3 x4 x5, p x1 x2 x3 x4 x5) (k : ∀ x1 x2 x3 x4 x5, p x1 x2 x3 x4 x5 → G) : G := let ⟨x1, x2, x3, x4, x5, y⟩ := h; k x1 x2 x3 x4 x5 y
theorem exI5 {α : Type} {β : Type} {γ : Type} {δ : Type} {ε : Type} {p : α → β → γ → δ → ε → Prop} (x1 : α) (x2 : β) (x3 : γ) (x4 : δ) (x5 : ε) (h : p x1 x2 x3 x4 x5) : ∃ x1 x2 x3 x4 x5, p x1 x2 x3 x4 x5 := ⟨x1, x2, x3, x4, x5, h⟩
theorem exE6 {α : Type} {β : Type} {γ : Type} {δ : Type} {ε : Type} {ζ : Type} {p : α → β → γ → δ → ε → ζ → Prop} {G : Prop} (h : ∃ x1 x2 x3 x4 x5 x6, p x1 x2 x3 x4 x5 x6) (k : ∀ x1 x2 x3 x4 x5 x6, p x1 x2 x3 x4 x5 x6 → G) : G := let ⟨x1, x2, x3, x4, x5, x6, y⟩ := h; k x1 x2 x3 x4 x5 x6 y
theorem exI6 {α : Type} {β : Type} {γ : Type} {δ : Type} {ε : Type} {ζ : Type} {p : α → β → γ → δ → ε → ζ → Prop} (x1 : α) (x2 : β) (x3 : γ) (x4 : δ) (x5 : ε) (x6 : ζ) (h : p x1 x2 x3 x4 x5 x6) : ∃ x1 x2 x3 x4 x5 x6, p x1 x2 x3 x4 x5 x6 := ⟨x1, x2, x3, x4, x5, x6, h⟩
theorem exE7 {α : Type} {β : Type} {γ : Type} {δ : Type} {ε : Type} {ζ : Type} {η : Type} {p : α → β → γ → δ → ε → ζ → η → Prop} {G : Prop} (h : ∃ x1 x2 x3 x4 x5 x6 x7, p x1 x2 x3 x4 x5 x6 x7) (k : ∀ x1 x2 x3 x4 x5 x6 x7, p x1 x2 x3 x4 x5 x6 x7 → G) : G := let ⟨x1, x2, x3, x4, x5, x6, x7, y⟩ := h; k x1 x2 x3 x4 x5 x6 x7 y
theorem exI7 {α : Type} {β : Type} {γ : Type} {δ : Type} {ε : Type} {ζ : Type} {η : Type} {p : α → β → γ → δ → ε → ζ → η → Prop} (x1 : α) (x2 : β) (x3 : γ) (x4 : δ) (x5 : ε) (x6 : ζ) (x7 : η) (h : p x1 x2 x3 x4 x5 x6 x7) : ∃ x1 x2 x3 x4 x5 x6 x7, p x1 x2 x3 x4 x5 x6 x7 := ⟨x1, x2, x3, x4, x5, x6, x7, h⟩
theorem exE8 {α : Type} {β : Type} {γ : Type} {δ : Type} {ε : Type} {ζ : Type} {η : Type} {θ : Type} {p : α → β → γ → δ → ε → ζ → η → θ → Prop} {G : Prop} (h : ∃ x1 x2 x3 x4 x5 x6 x7 x8, p x1 x2 x3 x4 x5 x6 x7 x8) (k : ∀ x1 x2 x3 x4 x5 x6 x7 x8, p x1 x2 x3 x4 x5 x6 x7 x8 → G) : G := let ⟨x1, x2, x3, x4, x5, x6, x7, x8, y⟩ := h; k x1 x2 x3 x4 x5 x6 x7 x8 y
theorem exI8 {α : Type} {β : Type} {γ : Type} {δ : Type} {ε : Type} {ζ : Type} {η : Type} {θ : Type} {p : α → β → γ → δ → ε → ζ → η → θ → Prop} (x1 : α) (x2 : β) (x3 : γ) (x4 : δ) (x5 : ε) (x6 : ζ) (x7 : η) (x8 : θ) (h : p x1 x2 x3 x4 x5 x6 x7 x8) : ∃ x1 x2 x3 x4 x5 x6 x7 x8, p x1 x2 x3 x4 x5 x6 x7 x8 := ⟨x1, x2, x3, x4, x5, x6, x7, x8, h⟩
theorem exE9 {α : Type} {β : Type} {γ : Type} {δ : Type} {ε : Type} {ζ : Type} {η : Type} {θ : Type} {ι : Type} {p : α → β → γ → δ → ε → ζ → η → θ → ι → Prop} {G : Prop} (h : ∃ x1 x2 x3 x4 x5 x6 x7 x8 x9, p x1 x2 x3 x4 x5 x6 x7 x8 x9) (k : ∀ x1 x2 x3 x4 x5 x6 x7 x8 x9, p x1 x2 x3 x4 x5 x6 x7 x8 x9 → G) : G := let ⟨x1, x2, x3, x4, x5, x6, x7, x8, x9, y⟩ := h; k x1 x2 x3 x4 x5 x6 x7 x8 x9 y
theorem exI9 {α : Type} {β : Type} {γ : Type} {δ : Type} {ε : Type} {ζ : Type} {η : Type} {θ : Type} {ι : Type} {p : α → β → γ → δ → ε → ζ → η → θ → ι → Prop} (x1 : α) (x2 : β) (x3 : γ) (x4 : δ) (x5 : ε) (x6 : ζ) (x7 : η) (x8 : θ) (x9 : ι) (h : p x1 x2 x3 x4 x5 x6 x7 x8 x9) : ∃ x1 x2 x3 x4 x5 x6 x7 x8 x9, p x1 x2 x3 x4 x5 x6 x7 x8 x9 := ⟨x1, x2, x3, x4, x5, x6, x7, x8, x9, h⟩
theorem exE10 {α : Type} {β : Type} {γ : Type} {δ : Type} {ε : Type} {ζ : Type} {η : Type} {θ : Type} {ι : Type} {κ : Type} {p : α → β → γ → δ → ε → ζ → η → θ → ι → κ → Prop} {G : Prop} (h : ∃ x1 x2 x3 x4 x5 x6 x7 x8 x9 x10, p x1 x2 x3 x4 x5 x6 x7 x8 x9 x10) (k : ∀ x1 x2 x3 x4 x5 x6 x7 x8 x9 x10, p x1 x2 x3 x4 x5 x6 x7 x8 x9 x10 → G) : G := let ⟨x1, x2, x3, x4, x5, x6, x7, x8, x9, x10, y⟩ := h; k x1 x2 x3 x4 x5 x6 x7 x8 x9 x10 y
theorem exI10 {α : Type} {β : Type} {γ : Type} {δ : Type} {ε : Type} {ζ : Type} {η : Type} {θ : Type} {ι : Type} {κ : Type} {p : α → β → γ → δ → ε → ζ → η → θ → ι → κ → Prop} (x1 : α) (x2 : β) (x3 : γ) (x4 : δ) (x5 : ε) (x6 : ζ) (x7 : η) (x8 : θ) (x9 : ι) (x10 : κ) (h : p x1 x2 x3 x4 x5 x6 x7 x8 x9 x10) : ∃ x1 x2 x3 x4 x5 x6 x7 x8 x9 x10, p x1 x2 x3 x4 x5 x6 x7 x8 x9 x10 := ⟨x1, x2, x3, x4, x5, x6, x7, x8, x9, x10, h⟩
theorem exE11 {α : Type} {β : Type} {γ : Type} {δ : Type} {ε : Type} {ζ : Type} {η : Type} {θ : Type} {ι : Type} {κ : Type} {μ : Type} {p : α → β → γ → δ → ε → ζ → η → θ → ι → κ → μ → Prop} {G : Prop} (h : ∃ x1 x2 x3 x4 x5 x6 x7 x8 x9 x10 x11, p x1 x2 x3 x4 x5 x6 x7 x8 x9 x10 x11) (k : ∀ x1 x2 x3 x4 x5 x6 x7 x8 x9 x10 x11, p x1 x2 x3 x4 x5 x6 x7 x8 x9 x10 x11 → G) : G := let ⟨x1, x2, x3, x4, x5, x6, x7, x8, x9, x10, x11, y⟩ := h; k x1 x2 x3 x4 x5 x6 x7 x8 x9 x10 x11 y
theorem exI11 {α : Type} {β : Type} {γ : Type} {δ : Type} {ε : Type} {ζ : Type} {η : Type} {θ : Type} {ι : Type} {κ : Type} {μ : Type} {p : α → β → γ → δ → ε → ζ → η → θ → ι → κ → μ → Prop} (x1 : α) (x2 : β) (x3 : γ) (x4 : δ) (x5 : ε) (x6 : ζ) (x7 : η) (x8 : θ) (x9 : ι) (x10 : κ) (x11 : μ) (h : p x1 x2 x3 x4 x5 x6 x7 x8 x9 x10 x11) : ∃ x1 x2 x3 x4 x5 x6 x7 x8 x9 x10 x11, p x1 x2 x3 x4 x5 x6 x7 x8 x9 x10 x11 := ⟨x1, x2, x3, x4, x5, x6, x7, x8, x9, x10, x11, h⟩
theorem exE12 {α : Type} {β : Type} {γ : Type} {δ : Type} {ε : Type} {ζ : Type} {η : Type} {θ : Type} {ι : Type} {κ : Type} {μ : Type} {ν : Type} {p : α → β → γ → δ → ε → ζ → η → θ → ι → κ → μ → ν → Prop} {G : Prop} (h : ∃ x1 x2 x3 x4 x5 x6 x7 x8 x9 x10 x11 x12, p x1 x2 x3 x4 x5 x6 x7 x8 x9 x10 x11 x12) (k : ∀ x1 x2 x3 x4 x5 x6 x7 x8 x9 x10 x11 x12, p x1 x2 x3 x4 x5 x6 x7 x8 x9 x10 x11 x12 → G) : G := let ⟨x1, x2, x3, x4, x5, x6, x7, x8, x9, x10, x11, x12, y⟩ := h; k x1 x2 x3 x4 x5 x6 x7 x8 x9 x10 x11 x12 y
theorem exI12 {α : Type} {β : Type} {γ : Type} {δ : Type} {ε : Type} {ζ : Type} {η : Type} {θ : Type} {ι : Type} {κ : Type} {μ : Type} {ν : Type} {p : α → β → γ → δ → ε → ζ → η → θ → ι → κ → μ → ν → Prop} (x1 : α) (x2 : β) (x3 : γ) (x4 : δ) (x5 : ε) (x6 : ζ) (x7 : η) (x8 : θ) (x9 : ι) (x10 : κ) (x11 : μ) (x12 : ν) (h : p x1 x2 x3 x4 x5 x6 x7 x8 x9 x10 x11 x12) : ∃ x1 x2 x3 x4 x5 x6 x7 x8 x9 x10 x11 x12, p x1 x2 x3 x4 x5 x6 x7 x8 x9 x10 x11 x12 := ⟨x1, x2, x3, x4, x5, x6, x7, x8, x9, x10, x11, x12, h⟩
end
local macro_rules | `(tactic| k_lt $h:ident) => `(tactic| (replace $h := allLt_of $h; dsimp only [AllLt] at $h:ident))
local macro_rules | `(tactic| k_units) => `(tactic| with_reducible first
  | exact sub_nil
  | exact mem_head
  | exact sub_self
  | assumption
  | (refine sub_cons ?_ ?_ <;> k_units)
  | (refine sub_app ?_ ?_ <;> k_units)
  | (refine mem_left ?_; k_units)
  | (refine mem_right ?_; k_units)
  | (refine sub_left ?_; k_units)
  | (refine sub_right ?_; k_units)
  | (refine mem_tail ?_; k_units)
  | (refine sub_tail ?_; k_units))
local macro_rules | `(tactic| regstrif_slice) => `(tactic| (iterate 9 first | done | with_reducible assumption | apply And.right); done)
local macro_rules | `(tactic| k_types) => `(tactic| focus first | with_reducible assumption | (apply And.left; regstrif_slice) | (apply And.right; regstrif_slice))
local macro_rules | `(tactic| regloopunroll_open) => `(tactic| focus ((iterate 8 first | done | k_types | with_reducible exact lt_self1 | with_reducible refine lt_s ?_); done))
local macro_rules | `(tactic| k_ne) => `(tactic| (refine neN ?_; (try dsimp only); first
  | with_reducible assumption
  | (symm; with_reducible assumption)
  | (refine Nat.ne_of_lt ?_; regloopunroll_open)
  | (refine Nat.ne_of_gt ?_; regloopunroll_open)
  | omega))
local macro_rules | `(tactic| k_all) => `(tactic| first | assumption | exact all_nil | (refine all_cons ?_ ?_; (focus k_ne); k_all))
local macro_rules | `(tactic| regcatfin_turn) => `(tactic| (k_here; (rename Fr _ _ _ _ => lF'); (with_unfolding_all refine' For_turns lF' ?_; k_whole)))
local macro_rules | `(tactic| stopclose_end2) => `(tactic| (k_here; (rename Fr _ _ _ _ => lF'); (with_unfolding_all refine' For_invVF lF' ?k1 ?k2 ?_; (case k1 => rfl); (case k2 => rfl); k_whole)))
local macro_rules | `(tactic| walk_at "CompSrc") => `(tactic| refine halt ?_)
local macro_rules | `(tactic| walk_at "eval ListComp") => `(tactic| refine halt ?_)
local macro_rules | `(tactic| walk_at "call ref") => `(tactic| with_reducible refine haltK ?_)
local macro_rules | `(tactic| walk_at "callWith ref") => `(tactic| k_dflt (refine' callWith_K ?k1 ?k2 ?_; (case k1 => k_asm); (case k2 => k_is); k_whole))
section
local macro_rules | `(tactic| walk_at "execs cons") => `(tactic| first | refine execs1 ?_ | refine execsU ?_)
local macro_rules | `(tactic| walk_at "eval Name") => `(tactic| k_dflt (refine' nameU rfl ?F ?v ?_; (case F => k_asm); (case v => rfl); k_whole))
local macro_rules | `(tactic| walk_at "storeName") => `(tactic| (k_dflt (refine' storeU rfl ?F ?N ?_; (case F => k_asm); (case N => k_asm); k_whole); intro h' F' N'; (try k_sweep)))
local macro_rules | `(tactic| walk_at "eval BinOp") => `(tactic| refine binU ?_)
local macro_rules | `(tactic| walk_at "isTrue Compare") => `(tactic| refine cmpU (by with_unfolding_all rfl) ?_)
local macro_rules | `(tactic| walk_at "spliced") => `(tactic| refine argU ?_)
local macro_rules | `(tactic| walk_at "eval Call") => `(tactic| refine callU ?_)
local macro_rules | `(tactic| walk_at "exec Assign") => `(tactic| refine assignU ?_)
local macro_rules | `(tactic| walk_at "exec Return some") => `(tactic| refine retU ?_)
local macro_rules | `(tactic| walk_at "eval Subscript") => `(tactic| refine subU ?_)
local macro_rules | `(tactic| walk_at "eval Constant int") => `(tactic| refine constU ?_)
section
section
variable {prog : Program} {w : World} {A : Around} {E : Value → Shared → Prop} {s : Shared} {env : Env} {h₀ : Heap} {x : Str} {body : List Stmt} {Q : Flow → Shared → Prop}
noncomputable def TurnEnd {σ : Type} (h₀ : Heap) (L : Addr) (I : Addr) (oI : Obj) (Led : σ → List (Addr × Obj)) (ps : σ → List (Str × Value)) (x : Str) (stored : List Str) (m₀ : Str → Option Value) (P : σ → Prop) (s₁ s₂ : Shared) : Prop :=
  ∃ h' tk m' c, s₂ = { s₁ with heap := h', toks := tk } ∧ Fr h₀ L h' m' ∧ News h₀ L h' ((I, oI) :: Led c) ∧ (∀ p ∈ Led c, p.1 ≠ I) ∧ (∀ p ∈ ps c, m' p.1 = some p.2) ∧ (∀ z, z ≠ x → (∀ p ∈ ps c, z ≠ p.1) → stored.contains z = false → m' z = m₀ z) ∧ P c
noncomputable def TurnPost {σ : Type} (h₀ : Heap) (L : Addr) (I : Addr) (oI : Obj) (Led : σ → List (Addr × Obj)) (ps : σ → List (Str × Value)) (x : Str) (stored : List Str) (m₀ : Str → Option Value) (P : σ → Prop) (s₁ : Shared) (Q : Flow → Shared → Prop) (f : Flow) (s₂ : Shared) : Prop :=
  match f with
  | .ret v => Q (.ret v) s₂
  | .brk => Q .next s₂
  | _ => TurnEnd h₀ L I oI Led ps x stored m₀ P s₁ s₂
theorem TurnEnd.intro {σ : Type} {L I : Addr} {oI : Obj} {Led : σ → List (Addr × Obj)} {ps : σ → List (Str × Value)} {stored : List Str} {m₀ m' : Str → Option Value} {P : σ → Prop} {s₁ : Shared} {h' : Heap} {tk : Nat} {news : List (Addr × Obj)} (c : σ)
    (F : Fr h₀ L h' m') (N : News h₀ L h' news) (hn : ∀ p ∈ (I, oI) :: Led c, p ∈ news) (ho : ∀ p ∈ Led c, p.1 ≠ I) (hk : ∀ p ∈ ps c, m' p.1 = some p.2) (hr : ∀ z, z ≠ x → (∀ p ∈ ps c, z ≠ p.1) → stored.contains z = false → m' z = m₀ z) (hp : P c) :
    TurnEnd h₀ L I oI Led ps x stored m₀ P s₁ { s₁ with heap := h', toks := tk } := ⟨h', tk, m', c, rfl, F, fun p hp => N p (hn p hp), ho, hk, hr, hp⟩
theorem loopW {σ : Type} {I : Addr} {fp : List Addr} {n : Nat} {Pv : Nat → Value → Prop} {St : Nat → Heap → Prop} {m₀ : Str → Option Value} (Led : σ → List (Addr × Obj)) (ps : σ → List (Str × Value)) (stored : List Str) (P : Nat → σ → Prop) (c₀ : σ)
    (W : Walks prog w A I fp [I] n Pv St) (hI : h₀.get? I = none) (hLf : env.locals ∉ fp) (hfix : ∀ b ∈ fp, b = I ∨ (∃ o, h₀.get? b = some o) ∨ ∃ o, ∀ c, (b, o) ∈ Led c)
    (hIo : ∀ i h, St i h → ∃ o, h.get? I = some o) (hst : St 0 s.heap) (F : Fr h₀ env.locals s.heap m₀) (N : News h₀ env.locals s.heap (Led c₀)) (hoff : ∀ p ∈ Led c₀, p.1 ≠ I) (hk : ∀ p ∈ ps c₀, m₀ p.1 = some p.2) (hp : P 0 c₀)
    (turn : ∀ (c : σ) i v (u : Str → Option Value) h tk oI, i < n → Pv i v → P i c → (∀ p ∈ Led c, p.1 ≠ I) →
      Fr h₀ env.locals h (fun y => if y = x then some v else kstB (fun z => if stored.contains z then u z else m₀ z) (ps c) y) → News h₀ env.locals h ((I, oI) :: Led c) →
      wpAny (model prog w) A (execs body env) (TurnPost h₀ env.locals I oI Led ps x stored m₀ (P (i + 1)) { s with heap := h, toks := tk } Q) E { s with heap := h, toks := tk })
    (done : ∀ (c : σ) (u : Str → Option Value) h tk, P n c → Fr h₀ env.locals h (fun y => if y = x then u y else kstB (fun z => if stored.contains z then u z else m₀ z) (ps c) y) → News h₀ env.locals h (Led c) → Q .next { s with heap := h, toks := tk }) :
    LoopAtV prog w A h₀ env x body Q E (.ref I) s := by
  let J : Nat → (Str → Option Value) → List (Addr × Obj) → Prop := fun i m nx => ∃ c, nx = Led c ∧ (∀ p ∈ ps c, m p.1 = some p.2) ∧ (∀ z, z ≠ x → (∀ p ∈ ps c, z ≠ p.1) → stored.contains z = false → m z = m₀ z) ∧ P i c
  have hIf : I ∈ fp := W.sub I (List.mem_singleton.mpr rfl)
  refine ⟨I, fp, [I], n, Pv, St, m₀, Led c₀, J, rfl, W, hLf, fun b hb => by rw [List.mem_singleton.mp hb]; exact hI, fun p hp hb => hoff p hp (List.mem_singleton.mp hb), hst, F, N, ⟨c₀, rfl, hk, fun _ _ _ _ => rfl, hp⟩, ?_, ?_⟩
  · rintro i v m₁ news₁ s₁ own ⟨hh, tk, rfl⟩ hin hPv ⟨c, rfl, h1, h2, hP⟩ hof hsub hget hall hst₁ F₁ N₁
    obtain ⟨oI, heI⟩ := hIo _ _ hst₁
    have hIown : (I, oI) ∈ own := hall I hIf hI oI heI
    have N₂ : News h₀ env.locals hh ((I, oI) :: Led c) := fun p hp => by
      rcases List.mem_cons.mp hp with rfl | hp
      · exact N₁ _ (List.mem_append_left _ hIown)
      · exact N₁ _ (List.mem_append_right _ hp)
    refine wpAny_mono (turn c i v m₁ hh tk oI hin hPv hP (fun p hp hb => hof p hp (List.mem_singleton.mpr hb)) (kst_fr h1 h2 F₁) N₂) (fun f s₂ p => ?_) fun _ _ e => e
    have fin : TurnEnd h₀ env.locals I oI Led ps x stored m₀ (P (i + 1)) { s with heap := hh, toks := tk } s₂ → LoopStepU h₀ env.locals [I] own (J (i + 1)) { s with heap := hh, toks := tk } .next s₂ := by
      rintro ⟨h', tk', m', c', e, F', N', ho, hk', hr', hp'⟩
      refine ⟨rfl, h', tk', m', Led c', e, F', fun p hp => ?_, fun p hp hb => ho p hp (List.mem_singleton.mp hb), c', rfl, hk', hr', hp'⟩
      rcases List.mem_append.mp hp with hp | hp
      · have hg := hget p hp
        rcases hfix _ (hsub p hp) with e1 | ⟨o, e1⟩ | ⟨o, e1⟩
        · have : p = (I, oI) := by
            obtain ⟨a, b⟩ := p
            dsimp only at e1 hg
            subst e1
            rw [heI] at hg
            rw [Option.some.inj hg]
          rw [this]
          exact N' _ (.head _)
        · have := (N₁ p (List.mem_append_left _ hp)).2.2
          rw [e1] at this; cases this
        · have hb := (N₂ _ (.tail _ (e1 c))).1
          have : p = (p.1, o) := by
            obtain ⟨a, b⟩ := p
            dsimp only at hb hg ⊢
            rw [hb] at hg
            rw [Option.some.inj hg]
          rw [this]
          exact N' _ (.tail _ (e1 c'))
      · exact N' _ (.tail _ hp)
    cases f with
    | ret v => exact .ret p
    | brk => exact .brk p
    | next => exact .next (fin p)
    | cont => exact .cont (fin p)
  · rintro h' tk m' news' F' N' _ ⟨c, rfl, h1, h2, hP⟩
    exact done c m' h' tk hP (kst_frOut h1 h2 F') N'
theorem loopRange {σ : Type} {r : Addr} {a b d : Int} {t₀ u₀ v₀ : Tok} {n : Nat} {m₀ : Str → Option Value} (Led : σ → List (Addr × Obj)) (ps : σ → List (Str × Value)) (stored : List Str) (P : Nat → σ → Prop) {news₀ : List (Addr × Obj)}
    (hh : A.handled = none) (hr : IsRange s.heap r a b d t₀ u₀ v₀) (hsmall : Builtin.Range.small a b d = true) (hn : Builtin.Range.rangeSize a b d = (n : Int)) (F : Fr h₀ env.locals s.heap m₀) (N : News h₀ env.locals s.heap news₀) (init : ∃ c₀, Led c₀ = news₀ ∧ (∀ p ∈ ps c₀, m₀ p.1 = some p.2) ∧ P 0 c₀)
    (turn : ∀ (c : σ) (i : Nat) t (u : Str → Option Value) h tk I oI, i < n → P i c → (∀ p ∈ Led c, p.1 ≠ I) →
      Fr h₀ env.locals h (fun y => if y = x then some (.int (a + (i : Int) * d) t) else kstB (fun z => if stored.contains z then u z else m₀ z) (ps c) y) → News h₀ env.locals h ((I, oI) :: Led c) →
      wpAny (model prog w) A (execs body env) (TurnPost h₀ env.locals I oI Led ps x stored m₀ (P (i + 1)) { s with heap := h, toks := tk } Q) E { s with heap := h, toks := tk })
    (done : ∀ (c : σ) (u : Str → Option Value) h tk, P n c → Fr h₀ env.locals h (fun y => if y = x then u y else kstB (fun z => if stored.contains z then u z else m₀ z) (ps c) y) → News h₀ env.locals h (Led c) → Q .next { s with heap := h, toks := tk }) :
    wpAny (model prog w) A (pyIter (.ref r)) (fun it s₂ => LoopAtV prog w A h₀ env x body Q E it s₂) E s := by
  obtain ⟨c₀, rfl, hk, hp⟩ := init
  refine wpAny_pyIter_range hr hsmall ?_
  have W := Walks.range (prog := prog) (w := w) hh s.heap.objs.size a d n
  refine loopW Led ps stored P c₀ W (next_is_new F) (fun hm => absurd F.ns.lt ((List.mem_singleton.mp hm) ▸ Nat.lt_irrefl _)) (fun b hb => .inl (List.mem_singleton.mp hb)) (fun i h st => ⟨_, st⟩)
    (by show IsRangeIter _ _ _ _ _; rw [hn]; simpa using Heap.get?_push_size _ rfl) (F.push _) (fun p hp => ⟨Heap.get?_push_of_some _ (N p hp).1, (N p hp).2⟩) (fun p hp e => absurd (Heap.lt_size (N p hp).1) (e ▸ Nat.lt_irrefl _)) hk hp ?_ ?_
  · rintro c i v u h tk oI hi ⟨t, rfl⟩ hP ho F₁ N₁
    exact turn c i t u h tk _ oI hi hP ho F₁ N₁
  · exact done
theorem loopList {σ : Type} {ax : Addr} {items : Array Value} {m₀ : Str → Option Value} (Led : σ → List (Addr × Obj)) (ps : σ → List (Str × Value)) (stored : List Str) (P : Nat → σ → Prop) {news₀ : List (Addr × Obj)}
    (hh : A.handled = none) (hl : h₀.IsList ax items ∨ ∃ k, ∀ c, (ax, listOf items k) ∈ Led c) (F : Fr h₀ env.locals s.heap m₀) (N : News h₀ env.locals s.heap news₀) (init : ∃ c₀, Led c₀ = news₀ ∧ (∀ p ∈ ps c₀, m₀ p.1 = some p.2) ∧ P 0 c₀)
    (turn : ∀ (c : σ) (i : Nat) v (u : Str → Option Value) h tk I oI, items[i]? = some v → P i c → (∀ p ∈ Led c, p.1 ≠ I) →
      Fr h₀ env.locals h (fun y => if y = x then some v else kstB (fun z => if stored.contains z then u z else m₀ z) (ps c) y) → News h₀ env.locals h ((I, oI) :: Led c) →
      wpAny (model prog w) A (execs body env) (TurnPost h₀ env.locals I oI Led ps x stored m₀ (P (i + 1)) { s with heap := h, toks := tk } Q) E { s with heap := h, toks := tk })
    (done : ∀ (c : σ) (u : Str → Option Value) h tk, P items.size c → Fr h₀ env.locals h (fun y => if y = x then u y else kstB (fun z => if stored.contains z then u z else m₀ z) (ps c) y) → News h₀ env.locals h (Led c) → Q .next { s with heap := h, toks := tk }) :
    wpAny (model prog w) A (pyIter (.ref ax)) (fun it s₂ => LoopAtV prog w A h₀ env x body Q E it s₂) E s := by
  obtain ⟨c₀, rfl, hk, hp⟩ := init
  have hls : s.heap.IsList ax items := by
    rcases hl with ⟨o, e, r⟩ | ⟨k, e⟩
    · exact ⟨o, F.keep _ _ e, r⟩
    · exact ⟨_, (N _ (e c₀)).1, rfl, _, rfl⟩
  have hlt : ax < s.heap.objs.size := by obtain ⟨o, e, _⟩ := hls; exact Heap.lt_size e
  have hne : ax ≠ s.heap.objs.size := Nat.ne_of_lt hlt
  have hLax : env.locals ≠ ax := by
    rcases hl with ⟨o, e, r⟩ | ⟨k, e⟩
    · exact fun q => absurd (Nat.lt_of_lt_of_le (Heap.lt_size e) F.above) (q ▸ Nat.lt_irrefl _)
    · exact fun q => (N _ (e c₀)).2.1 q.symm
  refine wpAny_pyIter_list hls ?_
  have W := Walks.list (prog := prog) (w := w) hh s.heap.objs.size ax hne items
  refine loopW Led ps stored P c₀ W (next_is_new F) (fun hm => ?_) (fun b hb => ?_) (fun i h st => by obtain ⟨o, e, _⟩ := st.1; exact ⟨o, e⟩)
    ⟨⟨_, Heap.get?_push_size _ rfl, rfl, rfl⟩, hls.at fun o e => Heap.get?_push_of_some _ e⟩ (F.push _) (fun p hp => ⟨Heap.get?_push_of_some _ (N p hp).1, (N p hp).2⟩) (fun p hp e => absurd (Heap.lt_size (N p hp).1) (e ▸ Nat.lt_irrefl _)) hk hp ?_ ?_
  · rcases List.mem_cons.mp hm with e | hm
    · exact absurd F.ns.lt (e ▸ Nat.lt_irrefl _)
    · exact hLax (List.mem_singleton.mp hm)
  · rcases List.mem_cons.mp hb with e | hb
    · exact .inl e
    · rw [List.mem_singleton.mp hb]
      rcases hl with ⟨o, e, r⟩ | ⟨k, e⟩
      · exact .inr (.inl ⟨o, e⟩)
      · exact .inr (.inr ⟨_, e⟩)
  · rintro c i v u h tk oI hi hv hP ho F₁ N₁
    exact turn c i v u h tk _ oI hv hP ho F₁ N₁
  · exact done
end
noncomputable abbrev rangeO (a b c : Int) (t u v : Tok) : Obj := { cls := .type "range", dict := none, data := .fields #[.int a t, .int b u, .int c v], slots := #[] }
section
variable {prog : Program} {w : World} {A : Around} {E : Value → Shared → Prop} {s : Shared} {h₀ : Heap} {L : Addr} {m : Str → Option Value} {news : List (Addr × Obj)} {Q : Value → Shared → Prop}
theorem rangeKeep {h' : Heap} {a b c : Int} {t u v : Tok} (F : Fr h₀ L s.heap m) (N : News h₀ L s.heap news) (R : IsRange h' s.heap.objs.size a b c t u v) (N' : News h₀ L h' news) :
    News h₀ L h' ((s.heap.objs.size, rangeO a b c t u v) :: news) ∧ ∀ p ∈ news, p.1 < s.heap.objs.size :=
  ⟨fun p hp => by
    rcases List.mem_cons.mp hp with rfl | hp
    · exact ⟨R, fun e => absurd F.ns.lt (e ▸ Nat.lt_irrefl _), next_is_new F⟩
    · exact N' p hp, fun p hp => Heap.lt_size (N p hp).1⟩
theorem range1_N {n : Int} {t : Tok} (F : Fr h₀ L s.heap m) (N : News h₀ L s.heap news)
    (h : ∀ r h' tk t₁ u₁ v₁, Fr h₀ L h' m → News h₀ L h' ((r, rangeO 0 n 1 t₁ u₁ v₁) :: news) → (∀ p ∈ news, p.1 < r) → Q (.ref r) { s with heap := h', toks := tk }) :
    wpAny (model prog w) A (call (.type "range") [.int n t]) Q E s :=
  range1_rows F N fun h' tk t₁ u₁ v₁ R F' N' _ => h _ h' tk t₁ u₁ v₁ F' (rangeKeep F N R N').1 (rangeKeep F N R N').2
theorem range3_N {a b c : Int} {t u v : Tok} (F : Fr h₀ L s.heap m) (N : News h₀ L s.heap news) (hc : c ≠ 0) (hp : Builtin.divisionGoesByPylong (b - a) c = false ∨ PySem.PylongRoom (model prog w) A s)
    (h : ∀ r h' tk t₁ u₁ v₁, Fr h₀ L h' m → News h₀ L h' ((r, rangeO a b c t₁ u₁ v₁) :: news) → (∀ p ∈ news, p.1 < r) → Q (.ref r) { s with heap := h', toks := tk }) :
    wpAny (model prog w) A (call (.type "range") [.int a t, .int b u, .int c v]) Q E s :=
  range3_rows F N hc (fun h' tk t₁ u₁ v₁ R F' N' _ => h _ h' tk t₁ u₁ v₁ F' (rangeKeep F N R N').1 (rangeKeep F N R N').2) hp
end
end
section
theorem TurnPost.next {σ : Type} {h₀ : Heap} {L I : Addr} {oI : Obj} {Led : σ → List (Addr × Obj)} {ps : σ → List (Str × Value)} {x : Str} {stored : List Str} {m₀ : Str → Option Value} {P : σ → Prop} {s₁ s₂ : Shared} {Q : Flow → Shared → Prop}
    (h : TurnEnd h₀ L I oI Led ps x stored m₀ P s₁ s₂) : TurnPost h₀ L I oI Led ps x stored m₀ P s₁ Q .next s₂ := h
end
section
noncomputable def lvl (i l o : Int) : Int := Int.fdiv (i * o + Int.fdiv (l - 1) 2) (l - 1)
noncomputable def nearUp (f : Int → Int) (v : Int) : Nat → Int
  | 0 => 0
  | k + 1 => if (if f ((k : Int) + 1) - v < 0 then -(f ((k : Int) + 1) - v) else f ((k : Int) + 1) - v) < (if f (nearUp f v k) - v < 0 then -(f (nearUp f v k) - v) else f (nearUp f v k) - v) then (k : Int) + 1 else nearUp f v k
section
variable {prog : Program} {w : World} {p : Program} {loose : List Str} {mean : ExcName → Option Value} {mg mb : Str → Option Value} {dp un : Nat} {gd : Option (List Code)} {env : Env} {outer : List Env} {A₀ : Around} {base h₀ : Heap} {L : Addr} {m : Str → Option Value} {news : List (Addr × Obj)} {s : Shared}
  {Q E : Value → Shared → Prop}
  (B : Below A₀ base outer h₀) (F : Fr h₀ L s.heap m) (X : (hd.heap_1 w.params).In h₀) (N : News h₀ L s.heap news) (T : Top p loose mean mg mb h₀) (hf : env.frame = some L) (hk : env.scope.kind = .function)
include B F X N T hf hk
theorem lv_spec {i l o : Int} {ti tl tm : Tok} (hroom : dp + 1 < recursionLimit)
    (hi : 0 ≤ i ∧ i ≤ 300) (hl : 2 ≤ l ∧ l ≤ 300) (ho : 1 ≤ o ∧ o ≤ 300)
    (ret : ∀ h' tk' t, Fr h₀ L h' m → News h₀ L h' news → Q (.int (lvl i l o) t) { s with heap := h', toks := tk' }) :
    wpAny (model prog w) (AA dp un gd env outer) (call (.ref 107) [.int i ti, .int l tl, .int o tm]) Q E s := by
  refine' enter (binds := [("index", .int i ti), ("levels", .int l tl), ("most", .int o tm)]) (fun v _ => ∃ t, v = .int (lvl i l o) t) B F X (core := []) all_nil T hf hk (fun v h' tk' nw F' _ st _ ⟨t, e⟩ => e ▸ ret h' tk' t F' (newsRest N st fun _ _ => all_nil)) ?k6 ?k7 ?k8 ?k9 ?kB ?_ ?c2 ?c3 ?c4 ?c5
  (case k6 => k_dflt k_is); (case k7 => k_dflt k_is); (case k8 => k_dflt ktr_room); (case k9 => exact BindsTo.of_eq rfl); (case kB => first | exact locs rfl | exact rfl); (case c2 => rfl); (case c3 => rfl); (case c4 => rfl); (try case c5 => decide); (try case kD => decide +kernel)
  clear B F X N T ret hf hk
  intro g' L' h' FG' F' N' B' X' T' l1 st'
  first | refine gen_post fun gG gD gO QQ hQQ => ?_ | refine gen_post2 fun gG gD gO QQ hQQ => ?_
  (try dsimp only); (try k_fold)
  k_steps
  refine hQQ _ _ _ ?_
  exact LeaveP.intro (by assumption) (by assumption) ⟨_, rfl⟩
section
local macro_rules | `(tactic| walk_at "pyIter ref") => `(tactic| refine halt ?_)
theorem near_spec {v l o : Int} {tv tl tm : Tok} (hroom : dp + 2 < recursionLimit)
    (hl : 2 ≤ l ∧ l ≤ 300) (ho : 1 ≤ o ∧ o ≤ 300)
    (ret : ∀ h' tk' t, Fr h₀ L h' m → News h₀ L h' news → Q (.int (nearUp (fun i => lvl i l o) v (l - 1).toNat) t) { s with heap := h', toks := tk' }) :
    wpAny (model prog w) (AA dp un gd env outer) (call (.ref 114) [.int v tv, .int l tl, .int o tm]) Q E s := by
  refine' enter (binds := [("value", .int v tv), ("levels", .int l tl), ("most", .int o tm)]) (fun u _ => ∃ t, u = .int (nearUp (fun i => lvl i l o) v (l - 1).toNat) t) B F X (core := []) all_nil T hf hk (fun v h' tk' nw F' _ st _ ⟨t, e⟩ => e ▸ ret h' tk' t F' (newsRest N st fun _ _ => all_nil)) ?k6 ?k7 ?k8 ?k9 ?kB ?_ ?c2 ?c3 ?c4 ?c5
  (case k6 => k_dflt k_is); (case k7 => k_dflt k_is); (case k8 => k_dflt ktr_room); (case k9 => exact BindsTo.of_eq rfl); (case kB => first | exact locs rfl | exact rfl); (case c2 => rfl); (case c3 => rfl); (case c4 => rfl); (try case c5 => decide); (try case kD => decide +kernel)
  clear B F X N T ret hf hk
  intro g' L' h' FG' F' N' B' X' T' l1 st'
  first | refine gen_post fun gG gD gO QQ hQQ => ?_ | refine gen_post2 fun gG gD gO QQ hQQ => ?_
  (try dsimp only); (try k_fold)
  k_steps
  unfold Halt
  rename Fr _ _ _ _ => F1
  rename News _ _ _ _ => N1
  rename IsRange _ _ _ _ _ _ _ _ => R1
  with_unfolding_all refine' loopRange (n := (l - 1).toNat) (fun _ => []) (fun (c : Int × Nat) => [("best", .int c.1 c.2)]) [] (fun i c => c.1 = nearUp (fun j => lvl j l o) v i ∧ 0 ≤ c.1 ∧ c.1 ≤ i) rfl R1 ?k3 ?k4 F1 N1 ?init ?turn ?done
  case k3 => exact small_one (by omega) (by omega) (by omega) (by omega)
  case k4 => exact rangeSize_nat _ _
  case init => exact ⟨(0, _), rfl, List.forall_mem_cons.mpr ⟨rfl, all_nil⟩, rfl, Int.le_refl _, Int.le_refl _⟩
  case turn =>
    intro c i t u h tk I oI hi hP ho F' N'
    first | refine gen_post fun gG gD gO QQ hQQ => ?_ | refine gen_post2 fun gG gD gO QQ hQQ => ?_
    obtain ⟨b, tb⟩ := c
    obtain ⟨hb, hb0, hbi⟩ := hP
    dsimp only [kstB] at *
    rw [show 1 + (i : Int) * 1 = (i : Int) + 1 by omega] at F'
    clear R1 N1 F1
    (try k_fold)
    k_steps
    unfold Halt
    k_dflt (refine' lv_spec ?k1 ?k2 ?k3 ?k4 ?k5 ?kf ?kk ?kd ?p1 ?p2 ?p3 ?_; (case k1 => k_asm); (case k2 => k_asm); (case k3 => k_asm); (case k4 => k_asm); (case k5 => k_asm); (case kf => rfl); (case kk => rfl); (case kd => ktr_room); (case p1 => (constructor <;> omega)); (case p2 => (constructor <;> omega)); (case p3 => (constructor <;> omega)))
    intro h' tk' t' F' N'
    (try dsimp only); (try k_fold); (try k_sweep)
    k_steps
    unfold Halt
    k_dflt (refine' lv_spec ?k1 ?k2 ?k3 ?k4 ?k5 ?kf ?kk ?kd ?p1 ?p2 ?p3 ?_; (case k1 => k_asm); (case k2 => k_asm); (case k3 => k_asm); (case k4 => k_asm); (case k5 => k_asm); (case kf => rfl); (case kk => rfl); (case kd => ktr_room); (case p1 => (constructor <;> omega)); (case p2 => (constructor <;> omega)); (case p3 => (constructor <;> omega)))
    intro h' tk' t' F' N'
    (try dsimp only); (try k_fold); (try k_sweep)
    k_steps
    · rename (@LT.lt Int _ _ _) => hc
      refine hQQ _ _ _ (TurnPost.next ?_)
      refine TurnEnd.intro (_, _) (by assumption) (by assumption) (fun _ h => h) all_nil (List.forall_mem_cons.mpr ⟨rfl, all_nil⟩) ?_ ⟨?_, ?_, ?_⟩
      · intro z h1 h2 _
        have h3 := h2 _ (.head _)
        (repeat first | with_reducible rfl | (refine (upd_ne (by assumption)).trans ?_) | (refine (if_neg (by assumption)).trans ?_) | (refine (ite_cf (by assumption)).trans ?_) | (refine (ite_cf rfl).trans ?_))
        all_goals rfl
      · rw [nearUp, ← hb, if_pos hc]
      · show (0 : Int) ≤ (i : Int) + 1
        omega
      · show (i : Int) + 1 ≤ ((i + 1 : Nat) : Int)
        omega
    · rename ¬ (@LT.lt Int _ _ _) => hc
      refine hQQ _ _ _ (TurnPost.next ?_)
      refine TurnEnd.intro (b, tb) (by assumption) (by assumption) (fun _ h => h) all_nil (List.forall_mem_cons.mpr ⟨rfl, all_nil⟩) ?_ ⟨?_, hb0, ?_⟩
      · intro z h1 h2 _
        have h3 := h2 _ (.head _)
        (repeat first | with_reducible rfl | (refine (upd_ne (by assumption)).trans ?_) | (refine (if_neg (by assumption)).trans ?_) | (refine (ite_cf (by assumption)).trans ?_) | (refine (ite_cf rfl).trans ?_))
        all_goals rfl
      · rw [nearUp, ← hb, if_neg hc]
      · show b ≤ ((i + 1 : Nat) : Int)
        omega
  case done =>
    intro c u h tk hP F' N'
    obtain ⟨b, tb⟩ := c
    obtain ⟨hb, hb0, hbi⟩ := hP
    dsimp only [kstB] at *
    clear R1 N1 F1
    (try k_fold)
    k_steps
    refine hQQ _ _ _ ?_
    exact LeaveP.intro (by assumption) (by assumption) ⟨_, congrArg (fun z => Value.int z _) hb⟩
end
end
end
section
section
variable {prog : Program} {w : World} {p : Program} {loose : List Str} {mean : ExcName → Option Value} {mg mb : Str → Option Value} {dp un : Nat} {gd : Option (List Code)} {env : Env} {outer : List Env} {A₀ : Around} {base h₀ : Heap} {L : Addr} {m : Str → Option Value} {news : List (Addr × Obj)} {s : Shared}
  {Q E : Value → Shared → Prop}
  (B : Below A₀ base outer h₀) (F : Fr h₀ L s.heap m) (X : (hd.heap_1 w.params).In h₀) (N : News h₀ L s.heap news) (T : Top p loose mean mg mb h₀) (hf : env.frame = some L) (hk : env.scope.kind = .function)
include B F X N T hf hk
theorem sift_spec {sv : Addr} {a b k : Int} {ta tb tk : Tok} {n : Nat} {upd : Obj → List (Addr × Obj)} (hroom : dp + 1 < recursionLimit)
    (U : ∀ o', Upd sv (listOf [.int a ta, .int b tb].toArray n) o' news (upd o'))
    (ha : 0 ≤ a) (hb : 0 ≤ b ∧ b < 65353) (hkk : 1 ≤ k ∧ k ≤ 256)
    (ret : ∀ h' tk' r t a' ta' b' tb', 0 ≤ r → r < k → 0 ≤ a' → 0 ≤ b' ∧ b' < 65353 → Fr h₀ L h' m → News h₀ L h' (upd (listOf [.int a' ta', .int b' tb'].toArray n)) → Q (.int r t) { s with heap := h', toks := tk' }) :
    wpAny (model prog w) (AA dp un gd env outer) (call (.ref 204) [.ref sv, .int k tk]) Q E s := by
  refine' enter (binds := [("sieve", .ref sv), ("many", .int k tk)]) (fun v nw => ∃ r t a' ta' b' tb', v = .int r t ∧ 0 ≤ r ∧ r < k ∧ 0 ≤ a' ∧ (0 ≤ b' ∧ b' < 65353) ∧ nw = [(sv, listOf [.int a' ta', .int b' tb'].toArray n)]) B F X (core := [(sv, listOf [.int a ta, .int b tb].toArray n)]) (newsOne N (U default)) T hf hk ?ret ?k6 ?k7 ?k8 ?k9 ?kB ?_ ?c2 ?c3 ?c4 ?c5
  case ret =>
    rintro v h' tk' nw F' N' st _ ⟨r, t, a', ta', b', tb', rfl, h1, h2, h3, h4, rfl⟩
    exact ret h' tk' r t a' ta' b' tb' h1 h2 h3 h4 F' (newsUpd N (U _) st N')
  (case k6 => k_dflt k_is); (case k7 => k_dflt k_is); (case k8 => k_dflt ktr_room); (case k9 => exact BindsTo.of_eq rfl); (case kB => first | exact locs rfl | exact rfl); (case c2 => rfl); (case c3 => rfl); (case c4 => rfl); (try case c5 => decide); (try case kD => decide +kernel)
  clear B F X N T ret hf hk U
  intro g' L' h' FG' F' N' B' X' T' l1 st'
  first | refine gen_post fun gG gD gO QQ hQQ => ?_ | refine gen_post2 fun gG gD gO QQ hQQ => ?_
  (try dsimp only); (try k_fold)
  k_steps
  · refine hQQ _ _ _ ?_
    refine LeaveP.intro (by assumption) (by assumption) ⟨_, _, _, _, _, _, rfl, ?_, ?_, ?_, ?_, rfl⟩
    · show 0 ≤ Int.fmod a k
      exact Int.fmod_nonneg ha (by omega)
    · show Int.fmod a k < k
      exact Int.fmod_lt_of_pos _ (by omega)
    · show 0 ≤ Int.fdiv a k
      exact Int.fdiv_nonneg ha (by omega)
    · exact hb
  · refine hQQ _ _ _ ?_
    refine LeaveP.intro (by assumption) (by assumption) ⟨_, _, _, _, _, _, rfl, ?_, ?_, ?_, ?_, rfl⟩
    · exact Int.fmod_nonneg (Int.fdiv_nonneg (Int.fmod_nonneg (by show (0 : Int) ≤ b * 269 + 4019; omega) (by decide)) (by decide)) (by omega)
    · exact Int.fmod_lt_of_pos _ (by omega)
    · exact ha
    · exact ⟨Int.fmod_nonneg (by show (0 : Int) ≤ b * 269 + 4019; omega) (by decide), Int.fmod_lt_of_pos _ (by decide)⟩
theorem sieve_spec {sc : Addr} {vs : List Value} {ns : List Int} (hroom : dp + 1 < recursionLimit) (hlen : ns.length ≤ 63)
    (hl : h₀.IsList sc vs.toArray) (hi : IntsAre vs ns)
    (ret : ∀ h' tk' sv a ta b tb n, 0 ≤ a → 0 ≤ b ∧ b < 65353 → Fr h₀ L h' m → News h₀ L h' ((sv, listOf [.int a ta, .int b tb].toArray n) :: news) → (∀ p ∈ news, p.1 ≠ sv) → Q (.ref sv) { s with heap := h', toks := tk' }) :
    wpAny (model prog w) (AA dp un gd env outer) (call (.ref 197) [.ref sc]) Q E s := by
  refine' enter (binds := [("script", .ref sc)]) (fun v nw => ∃ sv a ta b tb n, v = .ref sv ∧ 0 ≤ a ∧ (0 ≤ b ∧ b < 65353) ∧ nw = [(sv, listOf [.int a ta, .int b tb].toArray n)] ) B F X (core := []) all_nil T hf hk ?ret ?k6 ?k7 ?k8 ?k9 ?kB ?_ ?c2 ?c3 ?c4 ?c5
  case ret =>
    rintro v h' tk' nw F' N' st fr ⟨sv, a, ta, b, tb, n, rfl, h3, h4, rfl⟩
    exact ret h' tk' sv a ta b tb n h3 h4 F' (newsApp N' (newsRest N st fun _ _ => all_nil)) (newsOff N (fr _ (.head _) all_nil))
  (case k6 => k_dflt k_is); (case k7 => k_dflt k_is); (case k8 => k_dflt ktr_room); (case k9 => exact BindsTo.of_eq rfl); (case kB => first | exact locs rfl | exact rfl); (case c2 => rfl); (case c3 => rfl); (case c4 => rfl); (try case c5 => decide); (try case kD => decide +kernel)
  intro g' L' h' FG' F' N' B' X' T' l1 st'
  first | refine gen_post fun gG gD gO QQ hQQ => ?_ | refine gen_post2 fun gG gD gO QQ hQQ => ?_
  have hl' : g'.IsList sc vs.toArray := stays_list FG'.keep hl
  clear B F X N T ret hf hk hl
  (try dsimp only); (try k_fold)
  k_steps
  all_goals first
    | (refine hQQ _ _ _ ?_; exact LeaveP.intro (by assumption) (by assumption) ⟨_, _, _, _, _, _, rfl, Int.le_refl 0, ⟨Int.fmod_nonneg_of_pos _ (by decide), Int.fmod_lt_of_pos _ (by decide)⟩, rfl⟩)
    | (refine hQQ _ _ _ ?_; exact LeaveP.intro (by assumption) (by assumption) ⟨_, _, _, _, _, _, rfl, Int.le_trans (b := 10 ^ Int.toNat 15) (by decide +kernel) (by assumption), ⟨Int.fmod_nonneg_of_pos _ (by decide), Int.fmod_lt_of_pos _ (by decide)⟩, rfl⟩)
end
end
section
theorem instBase {h₀ h : Heap} {L : Addr} {m : Str → Option Value} {x C dx : Addr} {sl : Array (Option Value)} {od : Obj} (F : Fr h₀ L h m) (h1 : h₀.get? x = some ⟨.ref C, some dx, .plain, sl⟩) (h2 : h₀.get? dx = some od) :
    PySem.W.InstAt h x ⟨.ref C, some dx, .plain, sl⟩ C (some od) := ⟨F.keep _ _ h1, rfl, rfl, F.keep _ _ h2⟩
theorem refs_sub {prog : Program} {w : World} {A : Around} {E : Value → Shared → Prop} {s : Shared} {value slice : PySem.Expr} {l a : Addr} {as : List Addr} {k : Int} {u : Tok} {Q : Value → Shared → Prop}
    (hl : s.heap.IsList l (as.map Value.ref).toArray) (h0 : 0 ≤ k) (hfit : k < 2 ^ 63) (ha : as[k.toNat]? = some a) (h : Q (.ref a) s)
    (hs : subscripted slice false (.ref l) (.int k u) = operate [.ref l, .int k u] (getItem (.ref l) (.int k u)) := by with_unfolding_all rfl) :
    wpAny (model prog w) A (subscriptTail value slice (.ref l) (.int k u)) Q E s :=
  tail_any hl.typeIs slot_list_getitem.lookup (wpAny_getItem_list hl h0 hfit (by simp [ha]) h) hs
theorem refs_get {prog : Program} {w : World} {A : Around} {E : Value → Shared → Prop} {s : Shared} {l a : Addr} {as : List Addr} {k : Int} {u : Tok} {Q : Value → Shared → Prop}
    (hl : s.heap.IsList l (as.map Value.ref).toArray) (h0 : 0 ≤ k) (hfit : k < 2 ^ 63) (ha : as[k.toNat]? = some a) (h : Q (.ref a) s) :
    wpAny (model prog w) A (getItem (.ref l) (.int k u)) Q E s := wpAny_getItem_list hl h0 hfit (by simp [ha]) h
theorem listNews {h₀ h : Heap} {L l : Addr} {news : List (Addr × Obj)} {items : Array Value} {n : Nat} (N : News h₀ L h news) (hm : (l, listOf items n) ∈ news) : h.IsList l items := ⟨_, (N _ hm).1, rfl, n, rfl⟩
theorem listBase {h₀ h : Heap} {L l : Addr} {m : Str → Option Value} {items : Array Value} (F : Fr h₀ L h m) (hl : h₀.IsList l items) : h.IsList l items := stays_list F.keep hl
noncomputable def GridAt (h : Heap) (rl : Addr) (g : List (List Int)) : Prop :=
  ∃ as : List Addr, h.IsList rl (as.map Value.ref).toArray ∧ as.length = g.length ∧ ∀ (y : Nat) a ns, as[y]? = some a → g[y]? = some ns → ∃ vs, h.IsList a (vs : List Value).toArray ∧ IntsAre vs ns
theorem GridAt.keep {h h' : Heap} {rl : Addr} {g : List (List Int)} (G : GridAt h rl g) (k : h.StaysIn h') : GridAt h' rl g := by
  obtain ⟨as, h1, h2, h3⟩ := G
  refine ⟨as, stays_list k h1, h2, fun y a ns e1 e2 => ?_⟩
  obtain ⟨vs, h4, h5⟩ := h3 y a ns e1 e2
  exact ⟨vs, stays_list k h4, h5⟩
noncomputable def PlaneAt (w : World) (h : Heap) (pl : Addr) (wd ht : Nat) (g : List (List Int)) : Prop :=
  ∃ (dpl rl : Addr) (t1 t2 t3 tw th : Tok), h.get? pl = some (instObj 84 dpl) ∧
    h.get? dpl = some (dictOf [⟨PyData.keyHash w.params "width", .str "width" t1, .int wd tw⟩, ⟨PyData.keyHash w.params "height", .str "height" t2, .int ht th⟩, ⟨PyData.keyHash w.params "rows", .str "rows" t3, .ref rl⟩] 3) ∧ GridAt h rl g
theorem PlaneAt.keep {w : World} {h h' : Heap} {pl : Addr} {wd ht : Nat} {g : List (List Int)} (P : PlaneAt w h pl wd ht g) (k : h.StaysIn h') : PlaneAt w h' pl wd ht g := by
  obtain ⟨dpl, rl, t1, t2, t3, tw, th, h1, h2, h3⟩ := P
  exact ⟨dpl, rl, t1, t2, t3, tw, th, k _ _ h1, k _ _ h2, h3.keep k⟩
end
local macro_rules | `(tactic| k_inst) => `(tactic| (refine' instBase ?kF ?h1 ?h2; (case kF => k_asm); (case h1 => assumption); (case h2 => assumption)))
local macro_rules | `(tactic| walk_at "subscriptTail") => `(tactic| (k_here; (with_reducible show wpAny _ _ (subscriptTail _ _ (Value.ref _) (Value.int _ _)) _ _ _); k_dflt (refine' refs_sub ?hl ?h0 ?hfit ?ha ?_ ?hs; (case hl => first | exact listNews (by k_asm) (by k_mem) | exact listBase (by k_asm) (by assumption)); (case h0 => omega); (case hfit => omega); (case ha => assumption); (case hs => with_unfolding_all rfl); k_whole)))
local macro_rules | `(tactic| regdictc_post) => `(tactic| (k_here; (with_reducible show wpAny _ _ (call (Value.builtin "len") [Value.ref _]) _ _ _); k_dflt (refine' kun_lenL ?k1 ?k2 ?k3 ?_; (case k1 => first | exact listBase (by k_asm) (by assumption) | exact listNews (by k_asm) (by k_mem)); (case k2 => assumption); (case k3 => omega); k_whole)))
section
noncomputable def giveC (wd ht : Nat) (c : Int → Int → Int) (x y e : Int) : Int → Int → Int := if 0 ≤ x ∧ x < wd ∧ y < ht then fun a b => if a = x ∧ b = y then c x y + e else c a b else c
noncomputable def giveLost (wd ht : Nat) (lost x y e : Int) : Int := if 0 ≤ x ∧ x < wd ∧ y < ht then lost else lost + e
noncomputable def rowInts (wd : Nat) (c : Int → Int → Int) (y : Int) : List Int := (List.range wd).map fun (x : Nat) => c (x : Int) y
theorem rowInts_length {wd : Nat} {c : Int → Int → Int} {y : Int} : (rowInts wd c y).length = wd := by simp [rowInts]
theorem rowInts_getD {wd : Nat} {c : Int → Int → Int} {x y : Int} (h0 : 0 ≤ x) (h1 : x < wd) : (rowInts wd c y).getD x.toNat 0 = c x y := by
  have h2 : x.toNat < wd := by omega
  have h3 : ((x.toNat : Nat) : Int) = x := by omega
  simp [rowInts, List.getD, h2, h3]
theorem rowInts_set {wd ht : Nat} {c : Int → Int → Int} {x y e : Int} (h : 0 ≤ x ∧ x < wd ∧ y < ht) : (rowInts wd c y).set x.toNat (c x y + e) = rowInts wd (giveC wd ht c x y e) y := by
  apply List.ext_getElem
  · simp [rowInts]
  · intro i h1 h2
    have hi : i < wd := by simpa [rowInts] using h2
    rw [List.getElem_set]
    simp only [rowInts, List.getElem_map, List.getElem_range, giveC, if_pos h]
    by_cases e1 : x.toNat = i
    · rw [if_pos e1, if_pos]
      exact ⟨by omega, trivial⟩
    · rw [if_neg e1, if_neg (fun q => e1 (by omega))]
theorem rowInts_off {wd ht : Nat} {c : Int → Int → Int} {x y e b : Int} (h : b ≠ y) : rowInts wd (giveC wd ht c x y e) b = rowInts wd c b := by
  unfold rowInts giveC
  by_cases hin : 0 ≤ x ∧ x < wd ∧ y < ht
  · simp only [if_pos hin]
    apply List.map_congr_left
    intro i _
    rw [if_neg (fun q => h q.2)]
  · simp only [if_neg hin]
noncomputable def RowsC (wd : Nat) (c : Int → Int → Int) (rowsL : List (Addr × Obj)) : Prop := ∀ (y : Nat) p, rowsL[y]? = some p → ∃ (vs : List Value) (k : Nat), p.2 = listOf vs.toArray k ∧ IntsAre vs (rowInts wd c y)
noncomputable abbrev spDict (w : World) (pl cr : Addr) (l o lost : Int) (t1 t2 t3 t4 t5 tl tm tz : Tok) : Obj :=
  dictOf [⟨PyData.keyHash w.params "plane", .str "plane" t1, .ref pl⟩, ⟨PyData.keyHash w.params "levels", .str "levels" t2, .int l tl⟩, ⟨PyData.keyHash w.params "most", .str "most" t3, .int o tm⟩, ⟨PyData.keyHash w.params "carried", .str "carried" t4, .ref cr⟩, ⟨PyData.keyHash w.params "lost", .str "lost" t5, .int lost tz⟩] 5
noncomputable def SpL (w : World) (pl self dx cr : Addr) (l o : Int) (wd ht : Nat) (c : Int → Int → Int) (lost : Int) (led : List (Addr × Obj)) : Prop :=
  ∃ (t1 t2 t3 t4 t5 tl tm tz : Tok) (nn : Nat) (rowsL : List (Addr × Obj)),
    led = (self, instObj 181 dx) :: (dx, spDict w pl cr l o lost t1 t2 t3 t4 t5 tl tm tz) :: (cr, listOf ((rowsL.map (·.1)).map Value.ref).toArray nn) :: rowsL ∧
    rowsL.length = ht ∧ RowsC wd c rowsL ∧ (led.map (·.1)).Nodup
noncomputable def Disj (rest core : List (Addr × Obj)) : Prop := ∀ p ∈ rest, ∀ q ∈ core, q.1 ≠ p.1
theorem Disj.addr {rest core core' : List (Addr × Obj)} (D : Disj rest core) (e : core'.map (·.1) = core.map (·.1)) : Disj rest core' := fun p hp q hq => by
  have : q.1 ∈ core.map (·.1) := e ▸ List.mem_map_of_mem hq
  obtain ⟨q', h1, h2⟩ := List.mem_map.mp this
  exact h2 ▸ D p hp q' h1
theorem split_at {α : Type} : ∀ {l : List α} {i : Nat} {a : α}, l[i]? = some a → ∃ pre post, l = pre ++ a :: post ∧ pre.length = i
  | [], _, _, h => by simp at h
  | b :: r, 0, a, h => by
    simp only [List.getElem?_cons_zero, Option.some.injEq] at h
    subst h
    exact ⟨[], r, rfl, rfl⟩
  | b :: r, i + 1, a, h => by
    simp only [List.getElem?_cons_succ] at h
    obtain ⟨pre, post, h1, h2⟩ := split_at h
    exact ⟨b :: pre, post, by rw [h1]; rfl, by simp [h2]⟩
theorem give_close {w : World} {pl self dx cr a : Addr} {l o lost y : Int} {wd ht : Nat} {c o' : Int → Int → Int} {g h : Heap} {L : Addr} {t1 t2 t3 t4 t5 tl tm tz : Tok} {nn k : Nat} {vs vs' : List Value} {pre post rowsL : List (Addr × Obj)} {as : List Addr}
    (N1 : News g L h ((a, listOf vs'.toArray k) :: (self, instObj 181 dx) :: (dx, spDict w pl cr l o lost t1 t2 t3 t4 t5 tl tm tz) :: (cr, listOf (as.map Value.ref).toArray nn) :: (pre ++ post)))
    (I1 : IntsAre vs' (rowInts wd o' y)) (hsp : rowsL = pre ++ (a, listOf vs.toArray k) :: post) (has : rowsL.map (·.1) = as) (hpl : pre.length = y.toNat) (hya : ((y.toNat : Nat) : Int) = y)
    (hrows : RowsC wd c rowsL) (hoff : ∀ b : Int, b ≠ y → rowInts wd o' b = rowInts wd c b) (hnd : (self :: dx :: cr :: rowsL.map (·.1)).Nodup) (hlen : rowsL.length = ht) :
    ∃ led', News g L h led' ∧ SpL w pl self dx cr l o wd ht o' lost led' ∧ led'.map (·.1) = self :: dx :: cr :: rowsL.map (·.1) := by
  have hadr : (pre ++ (a, listOf vs'.toArray k) :: post).map (·.1) = as := by rw [← has, hsp]; simp
  refine ⟨(self, instObj 181 dx) :: (dx, spDict w pl cr l o lost t1 t2 t3 t4 t5 tl tm tz) :: (cr, listOf (as.map Value.ref).toArray nn) :: (pre ++ (a, listOf vs'.toArray k) :: post), newsSub N1 fun p hp => ?_,
    ⟨t1, t2, t3, t4, t5, tl, tm, tz, nn, pre ++ (a, listOf vs'.toArray k) :: post, by rw [hadr], ?_, ?_, ?_⟩, ?_⟩
  · revert p; k_units
  · rw [← hlen, hsp]; simp
  · intro j p hj
    by_cases e1 : j = pre.length
    · subst e1
      simp only [List.getElem?_append_right (Nat.le_refl _), Nat.sub_self, List.getElem?_cons_zero, Option.some.injEq] at hj
      subst hj
      refine ⟨_, _, rfl, ?_⟩
      rw [hpl, hya]
      exact I1
    · have e2 : rowsL[j]? = some p := by
        rw [hsp, ← hj]
        rcases Nat.lt_or_ge j pre.length with h | h
        · rw [List.getElem?_append_left h, List.getElem?_append_left h]
        · rw [List.getElem?_append_right h, List.getElem?_append_right h]
          obtain ⟨d, hd⟩ : ∃ d, j - pre.length = d + 1 := ⟨j - pre.length - 1, by omega⟩
          rw [hd]
          rfl
      rw [hoff _ (by omega)]
      exact hrows j p e2
  · simp only [List.map_cons, hadr]
    rw [has] at hnd
    exact hnd
  · simp only [List.map_cons, hadr, has]
section
variable {prog : Program} {w : World} {p : Program} {loose : List Str} {mean : ExcName → Option Value} {mg mb : Str → Option Value} {dp un : Nat} {gd : Option (List Code)} {env : Env} {outer : List Env} {A₀ : Around} {base h₀ : Heap} {L : Addr} {m : Str → Option Value} {led rest : List (Addr × Obj)} {s : Shared}
  {Q E : Value → Shared → Prop}
  (B : Below A₀ base outer h₀) (F : Fr h₀ L s.heap m) (X : (hd.heap_1 w.params).In h₀) (N : News h₀ L s.heap (led ++ rest)) (T : Top p loose mean mg mb h₀) (hf : env.frame = some L) (hk : env.scope.kind = .function)
include B F X N T hf hk
theorem give_spec {pl self dx cr : Addr} {l o x y e lost : Int} {wd ht : Nat} {c : Int → Int → Int} {g : List (List Int)} {tx ty te : Tok} (hroom : dp + 1 < recursionLimit)
    (D : Disj rest led) (S : SpL w pl self dx cr l o wd ht c lost led) (P : PlaneAt w h₀ pl wd ht g) (hy : 0 ≤ y) (hw : wd ≤ 1000) (hh : ht ≤ 1000)
    (ret : ∀ h' tk' led', Fr h₀ L h' m → News h₀ L h' (led' ++ rest) → SpL w pl self dx cr l o wd ht (giveC wd ht c x y e) (giveLost wd ht lost x y e) led' → led'.map (·.1) = led.map (·.1) → Q .none { s with heap := h', toks := tk' }) :
    wpAny (model prog w) (AA dp un gd env outer) (call (.ref 164) [.ref self, .int x tx, .int y ty, .int e te]) Q E s := by
  refine' enter (binds := [("self", .ref self), ("x", .int x tx), ("y", .int y ty), ("error", .int e te)]) (fun v nw => v = .none ∧ SpL w pl self dx cr l o wd ht (giveC wd ht c x y e) (giveLost wd ht lost x y e) nw ∧ nw.map (·.1) = led.map (·.1)) B F X (core := led) (newsSub N fun _ h => List.mem_append_left _ h) T hf hk ?ret ?k6 ?k7 ?k8 ?k9 ?kB ?_ ?c2 ?c3 ?c4 ?c5
  case ret =>
    rintro v h' tk' nw F' N' st _ ⟨rfl, S', e'⟩
    exact ret h' tk' nw F' (newsApp N' (newsRest (newsSub N fun _ h => List.mem_append_right _ h) st D)) S' e'
  (case k6 => k_dflt k_is); (case k7 => k_dflt k_is); (case k8 => k_dflt ktr_room); (case k9 => exact BindsTo.of_eq rfl); (case kB => first | exact locs rfl | exact rfl); (case c2 => rfl); (case c3 => rfl); (case c4 => rfl); (try case c5 => decide); (try case kD => decide +kernel)
  intro g' L' h' FG' F' N' B' X' T' l1 st'
  first | refine gen_post fun gG gD gO QQ hQQ => ?_ | refine gen_post2 fun gG gD gO QQ hQQ => ?_
  replace P := P.keep FG'.keep
  clear B F X N T ret hf hk D
  refine exE7 P ?_
  clear P
  intro dpl rl u1 u2 u3 uw uh hq0
  refine and3 hq0 ?_
  clear hq0
  rintro hP1 hP2 -
  refine exE10 S ?_
  clear S
  intro t1 t2 t3 t4 t5 tl tm tz nn rowsL hq0
  refine and4 hq0 ?_
  clear hq0
  rintro rfl hlen hrows hnd
  have hnd0 := hnd
  have hnd0' : (self :: dx :: cr :: rowsL.map (·.1)).Nodup := hnd
  simp only [List.map_cons, List.nodup_cons, List.mem_cons, not_or] at hnd
  obtain ⟨⟨n1, n2, n3⟩, ⟨n4, n5⟩, n6, n7⟩ := hnd
  replace n1 : @Ne Nat self dx := n1
  replace n2 : @Ne Nat self cr := n2
  replace n4 : @Ne Nat dx cr := n4
  have o1 : ∀ q ∈ rowsL, q.1 ≠ self := fun q hq e => n3 (e ▸ List.mem_map_of_mem hq)
  have o2 : ∀ q ∈ rowsL, q.1 ≠ dx := fun q hq e => n5 (e ▸ List.mem_map_of_mem hq)
  have o3 : ∀ q ∈ rowsL, q.1 ≠ cr := fun q hq e => n6 (e ▸ List.mem_map_of_mem hq)
  by_cases hin : 0 ≤ x ∧ x < wd ∧ y < ht
  · obtain ⟨⟨a, ob⟩, hget⟩ : ∃ p, rowsL[y.toNat]? = some p := ⟨rowsL[y.toNat]'(by omega), List.getElem?_eq_getElem _⟩
    obtain ⟨vs, k, he, hi⟩ := hrows _ _ hget
    dsimp only at he
    subst he
    have hya : ((y.toNat : Nat) : Int) = y := by omega
    rw [hya] at hi
    have ha : (rowsL.map (·.1))[y.toNat]? = some a := by rw [List.getElem?_map, hget]; rfl
    obtain ⟨pre, post, hsp, hpl⟩ := split_at hget
    have hm : (a, listOf vs.toArray k) ∈ rowsL := List.mem_of_getElem? hget
    have m1 : @Ne Nat self a := Ne.symm (o1 _ hm)
    have m2 : @Ne Nat dx a := Ne.symm (o2 _ hm)
    have m3 : @Ne Nat cr a := Ne.symm (o3 _ hm)
    have q1 : ∀ q ∈ pre ++ post, q.1 ≠ a := by
      intro q hq e
      rw [hsp, List.map_append, List.map_cons, List.nodup_append] at n7
      obtain ⟨-, z2, z3⟩ := n7
      rw [List.nodup_cons] at z2
      rcases List.mem_append.mp hq with hq | hq
      · exact z3 _ (List.mem_map_of_mem hq) _ (.head _) e
      · exact z2.1 (List.mem_map.mpr ⟨q, hq, e⟩)
    have N'' : News g' L' h' ((a, listOf vs.toArray k) :: (self, instObj 181 dx) :: (dx, spDict w pl cr l o lost t1 t2 t3 t4 t5 tl tm tz) :: (cr, listOf ((rowsL.map (·.1)).map Value.ref).toArray nn) :: (pre ++ post)) := newsSub N' (by rw [hsp]; k_units)
    have hlr : (rowInts wd c y).length = wd := rowInts_length
    generalize has : rowsL.map (·.1) = as at N'' ha
    clear N' l1 st'
    (try dsimp only); (try k_fold)
    k_steps
    rename News _ _ _ _ => N1
    rename IntsAre _ _ => I1
    have hset := rowInts_set (wd := wd) (ht := ht) (c := c) (e := e) hin
    have hgd := rowInts_getD (wd := wd) (c := c) (y := y) hin.1 hin.2.1
    rw [hgd] at I1 N1
    rw [hset] at I1
    have hl : giveLost wd ht lost x y e = lost := if_pos hin
    rw [hl] at hQQ
    obtain ⟨led', R1, R2, R3⟩ := give_close (o' := giveC wd ht c x y e) N1 I1 hsp has hpl hya hrows (fun b hb => rowInts_off hb) hnd0' hlen
    exact hQQ _ _ _ (LeaveP.intro (by assumption) R1 ⟨rfl, R2, R3⟩)
  · have hc : giveC wd ht c x y e = c := if_neg hin
    have hl : giveLost wd ht lost x y e = lost + e := if_neg hin
    rw [hc, hl] at hQQ
    (try dsimp only); (try k_fold)
    k_steps
    all_goals exact hQQ _ _ _ (LeaveP.intro (by assumption) (by assumption) ⟨rfl, ⟨t1, t2, t3, t4, t5, tl, tm, _, nn, rowsL, rfl, hlen, hrows, hnd0⟩, rfl⟩)
end
end
section
noncomputable def pPart (e k : Int) : Int := Int.fdiv (e * k) 16
noncomputable def pRest (e : Int) : Int := e - (pPart e 7 + (pPart e 3 + (pPart e 5 + 0)))
section
variable {prog : Program} {w : World} {A : Around} {E : Value → Shared → Prop} {s : Shared} {h₀ : Heap} {L : Addr} {m : Str → Option Value} {news : List (Addr × Obj)}
theorem getItem_tup3 {t sl : Addr} {a b c d : Value} {u : Tok} {Q : Value → Shared → Prop} (ht : IsTup s.heap t #[a, b, c, d]) (hs : s.heap.IsSliceOf sl .none (.int 3 u) .none)
    (h : Q (.ref s.heap.objs.size) { s with heap := s.heap.push { cls := .type "tuple", data := .seq #[a, b, c] } }) : wpAny (model prog w) A (getItem (.ref t) (.ref sl)) Q E s := by
  have hok : sizeOk (.seq #[a, b, c]) := by show (3 : Nat) ≤ sizeLine; decide
  obtain ⟨os, hos, hcs, hds⟩ := id hs
  have hTs : s.TypeIs (.ref sl) "slice" := ⟨os, hos, hcs⟩
  unfold getItem
  try with_reducible refine wpAny_holding ?_
  first | refine wpAny_bind (wpAny_pure ?_) | skip
  refine wpAny_bind (wpAny_sequenceKey ht.typeIs (by decide) ?_)
  refine wpAny_bind (wpAny_callSpecial?_slot (name := Str.ofString "__getitem__") ht.typeIs slot_tuple_getitem
    (wpAny_call_entry slot_tuple_getitem ht.typeIs entry_tuple_getitem ?_ (args_tuple_getitem _ _)))
  show wpAny _ _ (Builtin.Tuple.tupleItemsOf (.ref t) >>= _) _ _ s
  refine wpAny_bind (tupleItemsOf_ ht ?_)
  refine wpAny_bind (wpAny_typeOf hTs ?_)
  rw [if_pos (by decide)]
  have ap : wpAny (model prog w) (A.in1) (Builtin.Slice.sliceApplied (.ref sl) (pure ((#[a, b, c, d] : Array Value).size : Int))) (fun r s' => r = (0, 1, 3) ∧ s' = s) (fun _ _ => False) s := by
    unfold Builtin.Slice.sliceApplied Builtin.Slice.sliceFields
    refine wpAny_bind (wpAny_bind (wpAny_field hos hds (x := .none) rfl (wpAny_bind (wpAny_field hos hds (x := .int 3 u) rfl (wpAny_bind (wpAny_field hos hds (x := .none) rfl (wpAny_pure ?_)))))))
    refine wpAny_bind (slicePart_none ?_)
    show wpAny _ _ (if ((1 : Int) == 0) = true then _ else _) _ _ s
    rw [if_neg (by decide)]
    refine wpAny_bind (slicePart_none (wpAny_bind (slicePart_int (wpAny_bind (wpAny_pure ?_)))))
    exact wpAny_pure ⟨rfl, rfl⟩
  refine wpAny_bind (wpAny_mono ap (fun r s' hr => ?_) fun _ _ e => e.elim)
  obtain ⟨rfl, rfl⟩ := hr
  show wpAny _ _ (if ((0 : Int) == 0 && (1 : Int) == 1 && (3 : Nat) == 4) = true then _ else _) _ _ _
  rw [if_neg (by decide)]
  first
    | exact wpAny_bind (m := Builtin.Tuple.tupleExact _) (wpAny_newObj_type (wpAny_pure ⟨_, rfl, wpAny_pure h⟩) hok)
    | exact wpAny_bind (m := Builtin.Tuple.tupleExact _) (wpAny_newObj_type (wpAny_bind (wpAny_pure (wpAny_pure ⟨_, rfl, wpAny_pure h⟩))) hok)
    | exact wpAny_bind (wpAny_bind (m := Builtin.Tuple.tupleExact _) (wpAny_newObj_type (wpAny_pure (wpAny_pure ⟨_, rfl, wpAny_pure h⟩)) hok))
    | exact wpAny_bind (wpAny_bind (m := Builtin.Tuple.tupleExact _) (wpAny_newObj_type (wpAny_pure ⟨_, rfl, wpAny_pure h⟩) hok))
theorem slice_tup3 {value slice : Expr} {t : Addr} {a b c d : Value} {u : Tok} {Q : Value → Shared → Prop}
    (F : Fr h₀ L s.heap m) (N : News h₀ L s.heap news) (ht : IsTup s.heap t #[a, b, c, d])
    (h : ∀ q h', Fr h₀ L h' m → News h₀ L h' ((q, { cls := .type "tuple", data := .seq #[a, b, c] }) :: news) → (∀ p ∈ news, p.1 < q) → Q (.ref q) { s with heap := h' })
    (hs : subscripted slice false (.ref t) (.ref s.heap.objs.size) = operate [.ref s.heap.objs.size, .ref t] (getItem (.ref t) (.ref s.heap.objs.size)) := by with_unfolding_all rfl)
    (hg : ∀ r, letTemporaryGo value (.ref t) r = pure () := by intro _; with_unfolding_all rfl) :
    wpAny (model prog w) A (subscriptTail value slice (.ref t) (.ref s.heap.objs.size)) Q E { s with heap := s.heap.push { cls := .type "slice", data := .fields #[.none, .int 3 u, .none] } } := by
  have ht' : IsTup (s.heap.push { cls := .type "slice", data := .fields #[.none, .int 3 u, .none] }) t #[a, b, c, d] := ht.keeps fun _ _ e => Heap.get?_push_of_some _ e
  refine subscriptTail_ops (s := { s with heap := s.heap.push { cls := .type "slice", data := .fields #[.none, .int 3 u, .none] } }) ht'.typeIs slot_tuple_getitem.lookup
    (getItem_tup3 ht' (Heap.IsSliceOf.new ..) ?_) hs hg
  have N1 := News.push (F.push { cls := .type "slice", data := .fields #[.none, .int 3 u, .none] }) (N.grown fun _ _ e => Heap.get?_push_of_some _ e) { cls := .type "tuple", data := .seq #[a, b, c] }
  exact h _ _ ((F.push _).push _) N1 fun p hp => by
    show p.1 < (s.heap.push _).objs.size
    rw [Heap.size_push]
    exact Nat.lt_succ_of_lt (Heap.lt_size (N p hp).1)
end
section
variable {prog : Program} {w : World} {p : Program} {loose : List Str} {mean : ExcName → Option Value} {mg mb : Str → Option Value} {dp un : Nat} {gd : Option (List Code)} {env : Env} {outer : List Env} {A₀ : Around} {base h₀ : Heap} {L : Addr} {m : Str → Option Value} {news : List (Addr × Obj)} {s : Shared}
  {Q E : Value → Shared → Prop}
  (B : Below A₀ base outer h₀) (F : Fr h₀ L s.heap m) (X : (hd.heap_1 w.params).In h₀) (N : News h₀ L s.heap news) (T : Top p loose mean mg mb h₀) (hf : env.frame = some L) (hk : env.scope.kind = .function)
include B F X N T hf hk
local macro_rules | `(tactic| walk_at "exec For Tuple Subscript cons nil") => `(tactic| regcatfin_turn)
local macro_rules | `(tactic| walk_at "subscriptTail Name Slice ref ref") => `(tactic| refine halt ?_)
theorem parts_spec {e : Int} {te : Tok} (hroom : dp + 1 < recursionLimit) (he : -10000000000000000000000000000000000000000 ≤ e ∧ e ≤ 10000000000000000000000000000000000000000)
    (ret : ∀ h' tk' fd u1 u2 u3 u4 n, Fr h₀ L h' m → News h₀ L h' ((fd, listOf [.int (pPart e 7) u1, .int (pPart e 3) u2, .int (pPart e 5) u3, .int (pRest e) u4].toArray n) :: news) → (∀ p ∈ news, p.1 ≠ fd) → Q (.ref fd) { s with heap := h', toks := tk' }) :
    wpAny (model prog w) (AA dp un gd env outer) (call (.ref 145) [.int e te]) Q E s := by
  refine' enter (binds := [("error", .int e te)]) (fun v nw => ∃ fd u1 u2 u3 u4 n, v = .ref fd ∧ nw = [(fd, listOf [.int (pPart e 7) u1, .int (pPart e 3) u2, .int (pPart e 5) u3, .int (pRest e) u4].toArray n)]) B F X (core := []) all_nil T hf hk ?ret ?k6 ?k7 ?k8 ?k9 ?kB ?_ ?c2 ?c3 ?c4 ?c5
  case ret =>
    rintro v h' tk' nw F' N' st fr ⟨fd, u1, u2, u3, u4, n, rfl, rfl⟩
    exact ret h' tk' fd u1 u2 u3 u4 n F' (newsApp N' (newsRest N st fun _ _ => all_nil)) (newsOff N (fr _ (.head _) all_nil))
  (case k6 => k_dflt k_is); (case k7 => k_dflt k_is); (case k8 => k_dflt ktr_room); (case k9 => exact BindsTo.of_eq rfl); (case kB => first | exact locs rfl | exact rfl); (case c2 => rfl); (case c3 => rfl); (case c4 => rfl); (try case c5 => decide); (try case kD => decide +kernel)
  clear B F X N T ret hf hk
  intro g' L' h' FG' F' N' B' X' T' l1 st'
  first | refine gen_post fun gG gD gO QQ hQQ => ?_ | refine gen_post2 fun gG gD gO QQ hQQ => ?_
  (try dsimp only); (try k_fold)
  k_steps
  unfold Halt
  (with_unfolding_all refine' slice_tup3 ?F ?N ?ht ?_ ?hs ?hg; (case F => k_asm); (case N => k_asm); (case ht => (refine' tupK ?tX ?te; (case tX => exact Frag.In.keeps (by k_asm) (Fr.keep (by k_asm))); (case te => k_dflt k_is))); (case hs => with_unfolding_all rfl); (case hg => (intro _; with_unfolding_all rfl)))
  intro q' h' F' N' l1
  (try k_lt l1); (try k_sweep)
  k_steps
  rename News _ _ _ _ => N1
  have N2 := newsSub N1 (fun p hp => List.Mem.tail _ hp)
  clear N1
  simp only [List.push_toArray, List.nil_append, List.cons_append] at N2
  refine hQQ _ _ _ ?_
  exact LeaveP.intro (by assumption) N2 ⟨_, _, _, _, _, _, rfl, rfl⟩
end
end
section
/-! a zip of a tuple and a list -/
section
variable {prog : Program} {w : World} {A : Around} {E : Value → Shared → Prop} {s : Shared}
theorem nextTup_item {it t : Addr} {i : Nat} {items : Array Value} {x : Value} {Q : Value → Shared → Prop} (hit : s.heap.IsTupleIter it t i) (ht : s.heap.IsTuple t items) (hx : items[i]? = some x)
    (hQ : ∀ h', h'.IsTupleIter it t (i + 1) → Heap.SameBut it s.heap h' → Q x { s with heap := h' }) :
    wpAny (model prog w) A (Builtin.SmallTypes.nextOf (.ref it)) Q E s := by
  obtain ⟨o, ho, hc, hd⟩ := id hit
  obtain ⟨ol, hol, _, nl, hdl⟩ := ht
  unfold Builtin.SmallTypes.nextOf
  refine wpAny_bind (wpAny_callSpecial?_slot (name := Str.ofString "__next__") hit.typeIs F.slot_tuple_iterator_next
    (wpAny_call_entry F.slot_tuple_iterator_next hit.typeIs F.entry_tuple_iterator_next ?_ (F.args_tuple_iterator_next_1 _)))
  show wpAny _ _ (field (.ref it) 0 >>= _) _ _ s
  refine wpAny_bind (wpAny_field ho hd (x := .ref t) rfl ?_)
  show wpAny _ _ (if (Value.ref t == Value.none) = true then _ else _) _ _ s
  rw [if_neg (show ¬ ((Value.ref t == Value.none) = true) from Bool.false_ne_true)]
  show wpAny _ _ (field (.ref it) 1 >>= _) _ _ s
  refine wpAny_bind (wpAny_field ho hd (x := .int i 0) rfl ?_)
  show wpAny _ _ (seqItems? (.ref t) >>= _) _ _ s
  refine wpAny_bind (wpAny_seqItems hol hdl ?_)
  simp only [Int.toNat_natCast, hx]
  refine wpAny_bind (wpAny_setField ho hd (by simp) (wpAny_pure ⟨x, rfl, wpAny_pure (hQ _ ?_ (Heap.SameBut.update ..))⟩))
  exact ⟨_, Heap.get?_update_self _ ho (Obj.isFreed_of_fields (Obj.data_mapFields hd _)), (Obj.cls_mapFields ..).trans hc, by
    rw [Obj.data_mapFields hd]; simp [rawInt]⟩
theorem nextTup_end {it t : Addr} {i : Nat} {items : Array Value} {Q : Value → Shared → Prop} (hh : A.handled = none) (hit : s.heap.IsTupleIter it t i) (ht : s.heap.IsTuple t items) (hx : items[i]? = none)
    (hE : ∀ h' e, Heap.ExtBut it s.heap h' → (∃ o, h'.get? e = some o ∧ o.cls = .type "StopIteration") → E (.ref e) { s with heap := h' }) :
    wpAny (model prog w) A (Builtin.SmallTypes.nextOf (.ref it)) Q E s := by
  obtain ⟨o, ho, hc, hd⟩ := id hit
  obtain ⟨ol, hol, _, nl, hdl⟩ := ht
  unfold Builtin.SmallTypes.nextOf
  refine wpAny_bind (wpAny_callSpecial?_slot (name := Str.ofString "__next__") hit.typeIs F.slot_tuple_iterator_next
    (wpAny_call_entry F.slot_tuple_iterator_next hit.typeIs F.entry_tuple_iterator_next ?_ (F.args_tuple_iterator_next_1 _)))
  show wpAny _ _ (field (.ref it) 0 >>= _) _ _ s
  refine wpAny_bind (wpAny_field ho hd (x := .ref t) rfl ?_)
  show wpAny _ _ (if (Value.ref t == Value.none) = true then _ else _) _ _ s
  rw [if_neg (show ¬ ((Value.ref t == Value.none) = true) from Bool.false_ne_true)]
  show wpAny _ _ (field (.ref it) 1 >>= _) _ _ s
  refine wpAny_bind (wpAny_field ho hd (x := .int i 0) rfl ?_)
  show wpAny _ _ (seqItems? (.ref t) >>= _) _ _ s
  refine wpAny_bind (wpAny_seqItems hol hdl ?_)
  simp only [Int.toNat_natCast, hx]
  refine wpAny_bind (wpAny_rule (wpAny_bind (wpAny_setField ho hd (by simp) ?_)))
  show wpAny _ _ (newExc (.type "StopIteration") [] >>= _) _ _ _
  refine wpAny_bind ?_
  simp only [newExc, newTuple]
  refine wpAny_bind (wpAny_newObj_type ?_ (by size_fits))
  refine wpAny_bind (m := firstArgMember _ _) (wpAny_of_eq (a := Value.none) (by first | rfl | (simp only [firstArgMember]; rfl)) ?_)
  refine wpAny_newObj_type ?_ (by size_fits)
  simp only [raiseNew]
  refine wpAny_bind (wpAny_handled ?_)
  first | rw [show A.in1.handled = none from hh] | rw [hh]
  refine wpAny_bind (wpAny_pure (wpAny_throw ?_))
  exact hE _ _ (((Heap.SameBut.update ..).extBut.push _).push _) ⟨_, Heap.get?_push_size _ rfl, rfl⟩
theorem zipT_next_item {z TI TO i1 i2 l1 l2 : Addr} {k : Nat} {xs ys : Array Value} {x y a b : Value} {Q : Value → Shared → Prop} (D : ZipApart z TI TO i1 i2 l1 l2)
    (hz : IsZip s.heap z TI TO .none) (hTI : IsPair s.heap TI (.ref i1) (.ref i2)) (hTO : IsPair s.heap TO a b)
    (h1 : s.heap.IsTupleIter i1 l1 k) (h2 : s.heap.IsListIter i2 l2 k) (hl1 : s.heap.IsTuple l1 xs) (hl2 : s.heap.IsList l2 ys) (hx : xs[k]? = some x) (hy : ys[k]? = some y)
    (hQ : ∀ h', IsZip h' z TI TO (rawInt s.heap.objs.size) → IsPair h' TO x y → h'.IsTupleIter i1 l1 (k + 1) → h'.IsListIter i2 l2 (k + 1) → IsPair h' s.heap.objs.size x y → h'.objs.size = s.heap.objs.size + 1 →
      (∀ c o, c ≠ z → c ≠ TO → c ≠ i1 → c ≠ i2 → s.heap.get? c = some o → h'.get? c = some o) → Q (.ref s.heap.objs.size) { s with heap := h' }) :
    wpAny (model prog w) A (Builtin.«zip.__next__» ⟨[.ref z], []⟩) (fun fin s' => ∃ v, fin = .done (.ret v) ∧ Q v s') E s := by
  show wpAny _ _ (field (.ref z) 2 >>= _) _ _ _
  refine wpAny_bind (wpAny_field hz rfl (x := .bool false) rfl ?_)
  show wpAny _ _ (field (.ref z) 3 >>= _) _ _ _
  refine wpAny_bind (wpAny_field hz rfl (x := .ref TI) rfl ?_)
  refine wpAny_bind (wpAny_seqItems hTI rfl ?_)
  show wpAny _ _ (Builtin.SmallTypes.ownedTupleIsFree (.ref z) >>= _) _ _ _
  refine wpAny_bind ?_
  unfold Builtin.SmallTypes.ownedTupleIsFree
  refine wpAny_bind (wpAny_field hz rfl (x := .none) rfl (wpAny_pure ?_))
  simp only [if_true]
  refine wpAny_bind (wpAny_rule ?_)
  refine wpAny_bind (wpAny_field hz rfl (x := .ref TO) rfl ?_)
  refine wpAny_bind (wpAny_setField_rec hz (by simp) fun h₁ hz₁ hs₁ => ?_)
  replace hz₁ : IsZip h₁ z TI TO .ellipsis := hz₁
  refine wpAny_bind ?_
  simp only [List.zipIdx_cons, List.zipIdx_nil, List.forIn_cons, List.forIn_nil]
  refine wpAny_bind (wpAny_bind (wpAny_onRaise ?_))
  show wpAny _ _ (Builtin.SmallTypes.nextOf (.ref i1) >>= _) _ _ _
  refine wpAny_bind (nextTup_item (h1.at fun o e => hs₁.extBut _ o D.i1z e) (hl1.extBut hs₁.extBut D.l1z) hx fun h₂ h1₂ hs₂ => wpAny_pure ?_)
  have hTO₂ : IsPair h₂ TO a b := hs₂.extBut _ _ D.TOi1 (hs₁.extBut _ _ D.TOz hTO)
  refine wpAny_bind (wpAny_seqItems hTO₂ rfl ?_)
  refine wpAny_bind (wpAny_updateSeq_pair hTO₂ fun h₃ hTO₃ hs₃ => ?_)
  replace hTO₃ : IsPair h₃ TO x b := hTO₃
  refine wpAny_bind (wpAny_letGo (wpAny_pure ?_))
  refine wpAny_bind (wpAny_bind (wpAny_onRaise ?_))
  show wpAny _ _ (Builtin.SmallTypes.nextOf (.ref i2) >>= _) _ _ _
  refine wpAny_bind (wpAny_nextOf_list_item (((h2.extBut hs₁.extBut D.i2z).extBut hs₂.extBut D.i12.symm).extBut hs₃.extBut D.TOi2.symm)
    (((hl2.extBut hs₁.extBut D.l2z).extBut hs₂.extBut D.l2i1).extBut hs₃.extBut D.l2TO) hy fun h₄ h2₄ hs₄ => wpAny_pure ?_)
  have hTO₄ : IsPair h₄ TO x b := hs₄.extBut _ _ D.TOi2 hTO₃
  refine wpAny_bind (wpAny_seqItems hTO₄ rfl ?_)
  refine wpAny_bind (wpAny_updateSeq_pair hTO₄ fun h₅ hTO₅ hs₅ => ?_)
  replace hTO₅ : IsPair h₅ TO x y := hTO₅
  refine wpAny_bind (wpAny_letGo (wpAny_pure (wpAny_pure ?_)))
  refine wpAny_bind (wpAny_seqItems hTO₅ rfl ?_)
  refine wpAny_bind (wpAny_newTuple ?_)
  have hsz : h₅.objs.size = s.heap.objs.size := by rw [hs₅.1, hs₄.1, hs₃.1, hs₂.1, hs₁.1]
  have hz₅ : IsZip h₅ z TI TO .ellipsis := hs₅.extBut _ _ D.TOz.symm (hs₄.extBut _ _ D.i2z.symm (hs₃.extBut _ _ D.TOz.symm (hs₂.extBut _ _ D.i1z.symm hz₁)))
  have hk₅ : ∀ c o, c ≠ z → c ≠ TO → c ≠ i1 → c ≠ i2 → s.heap.get? c = some o → h₅.get? c = some o := fun c o c1 c2 c3 c4 e =>
    hs₅.extBut _ _ c2 (hs₄.extBut _ _ c4 (hs₃.extBut _ _ c2 (hs₂.extBut _ _ c3 (hs₁.extBut _ _ c1 e))))
  have h1₅ : h₅.IsTupleIter i1 l1 (k + 1) := h1₂.at fun o e => hs₅.extBut _ o D.TOi1.symm (hs₄.extBut _ o D.i12 (hs₃.extBut _ o D.TOi1.symm e))
  have h2₅ : h₅.IsListIter i2 l2 (k + 1) := h2₄.extBut hs₅.extBut D.TOi2.symm
  have hzlt : z < h₅.objs.size := Heap.lt_size hz₅
  have hTOlt : TO < h₅.objs.size := Heap.lt_size hTO₅
  show wpAny _ _ (Builtin.SmallTypes.ownedTupleHandOut (.ref z) (.ref h₅.objs.size) >>= _) _ _ _
  refine wpAny_bind ?_
  unfold Builtin.SmallTypes.ownedTupleHandOut
  have hz₆ : IsZip (h₅.push { cls := .type "tuple", data := .seq #[x, y] }) z TI TO .ellipsis := Heap.get?_push_of_some _ hz₅
  refine wpAny_bind (wpAny_setField_rec hz₆ (by simp) fun h₇ hz₇ hs₇ => ?_)
  replace hz₇ : IsZip h₇ z TI TO (rawInt h₅.objs.size) := hz₇
  refine wpAny_setField_rec hz₇ (by simp) fun h₈ hz₈ hs₈ => ?_
  replace hz₈ : IsZip h₈ z TI TO (rawInt h₅.objs.size) := hz₈
  have up : ∀ c o, c ≠ z → h₅.get? c = some o → h₈.get? c = some o := fun c o c1 e => hs₈.extBut _ _ c1 (hs₇.extBut _ _ c1 (Heap.get?_push_of_some _ e))
  have hT₈ : IsPair h₈ h₅.objs.size x y := hs₈.extBut _ _ (Nat.ne_of_gt hzlt) (hs₇.extBut _ _ (Nat.ne_of_gt hzlt) (Heap.get?_push_size _ rfl))
  have hz8 : h₈.objs.size = h₅.objs.size + 1 := by rw [hs₈.1, hs₇.1, Heap.size_push]
  rw [hsz] at hz₈ hT₈ hz8
  refine wpAny_pure ⟨_, rfl, ?_⟩
  show Q (.ref h₅.objs.size) _
  rw [hsz]
  exact hQ h₈ hz₈ (up _ _ D.TOz hTO₅) (h1₅.at fun o e => up _ o D.i1z e) (h2₅.at fun o e => up _ o D.i2z e) hT₈ hz8 fun c o c1 c2 c3 c4 e => up c o c1 (hk₅ c o c1 c2 c3 c4 e)
theorem zipT_next_end {z TI TO i1 i2 l1 l2 : Addr} {k : Nat} {xs : Array Value} {a b : Value} {Q : Fin → Shared → Prop} (hh : A.handled = none) (D : ZipApart z TI TO i1 i2 l1 l2)
    (hz : IsZip s.heap z TI TO .none) (hTI : IsPair s.heap TI (.ref i1) (.ref i2)) (hTO : IsPair s.heap TO a b)
    (h1 : s.heap.IsTupleIter i1 l1 k) (hl1 : s.heap.IsTuple l1 xs) (hx : xs[k]? = none)
    (hE : ∀ h' e, (∀ c o, c ≠ z → c ≠ TO → c ≠ i1 → c ≠ i2 → s.heap.get? c = some o → h'.get? c = some o) → (∃ o, h'.get? e = some o ∧ o.cls = .type "StopIteration") → E (.ref e) { s with heap := h' }) :
    wpAny (model prog w) A (Builtin.«zip.__next__» ⟨[.ref z], []⟩) Q E s := by
  show wpAny _ _ (field (.ref z) 2 >>= _) _ _ _
  refine wpAny_bind (wpAny_field hz rfl (x := .bool false) rfl ?_)
  show wpAny _ _ (field (.ref z) 3 >>= _) _ _ _
  refine wpAny_bind (wpAny_field hz rfl (x := .ref TI) rfl ?_)
  refine wpAny_bind (wpAny_seqItems hTI rfl ?_)
  show wpAny _ _ (Builtin.SmallTypes.ownedTupleIsFree (.ref z) >>= _) _ _ _
  refine wpAny_bind ?_
  unfold Builtin.SmallTypes.ownedTupleIsFree
  refine wpAny_bind (wpAny_field hz rfl (x := .none) rfl (wpAny_pure ?_))
  simp only [if_true]
  refine wpAny_bind (wpAny_rule ?_)
  refine wpAny_bind (wpAny_field hz rfl (x := .ref TO) rfl ?_)
  refine wpAny_bind (wpAny_setField_rec hz (by simp) fun h₁ hz₁ hs₁ => ?_)
  replace hz₁ : IsZip h₁ z TI TO .ellipsis := hz₁
  refine wpAny_bind ?_
  simp only [List.zipIdx_cons, List.zipIdx_nil, List.forIn_cons, List.forIn_nil]
  refine wpAny_bind (wpAny_bind (wpAny_onRaise ?_))
  show wpAny _ _ (Builtin.SmallTypes.nextOf (.ref i1) >>= _) _ _ _
  refine wpAny_bind (nextTup_end hh (h1.at fun o e => hs₁.extBut _ o D.i1z e) (hl1.extBut hs₁.extBut D.l1z) hx fun h₂ e hs₂ he => ?_)
  obtain ⟨oe, hoe, hce⟩ := he
  have hz₂ : IsZip h₂ z TI TO .ellipsis := hs₂ _ _ D.i1z.symm hz₁
  have hez : e ≠ z := fun x => by subst x; rw [hz₂] at hoe; cases hoe; simp at hce
  refine wpAny_setField_rec hz₂ (by simp) fun h₃ _ hs₃ => hE h₃ e (fun c o c1 _ c3 _ x => hs₃.extBut _ _ c1 (hs₂ _ _ c3 (hs₁.extBut _ _ c1 x))) ⟨oe, hs₃.extBut _ _ hez hoe, hce⟩
end
noncomputable abbrev zipTH1 (h : Heap) (l1 : Addr) : Heap := h.push { cls := .type "tuple_iterator", data := .fields #[.ref l1, .int 0 0] }
noncomputable abbrev zipTH2 (h : Heap) (l1 l2 : Addr) : Heap := (zipTH1 h l1).push { cls := .type "list_iterator", data := .fields #[.ref l2, .int 0 0] }
noncomputable abbrev zipTH3 (h : Heap) (l1 l2 : Addr) : Heap := (zipTH2 h l1 l2).push { cls := .type "tuple", data := .seq #[.ref h.objs.size, .ref (zipTH1 h l1).objs.size] }
noncomputable abbrev zipTH4 (h : Heap) (l1 l2 : Addr) : Heap := (zipTH3 h l1 l2).push { cls := .type "tuple", data := .seq #[.none, .none] }
noncomputable abbrev zipTH5 (h : Heap) (l1 l2 : Addr) : Heap := (zipTH4 h l1 l2).push { cls := .type "zip", data := .fields #[.none, .bool false, .bool false, .ref (zipTH2 h l1 l2).objs.size, .ref (zipTH3 h l1 l2).objs.size] }
theorem meets_zipT_new (l1 l2 : Addr) (xs ys : Array Value) :
    Meets (Builtin.«zip.__new__» ⟨[.type "zip", .ref l1, .ref l2], []⟩) (fun _ R s => s.heap.IsTuple l1 xs ∧ s.heap.IsList l2 ys ∧
      R (.ok (.ret (.ref (zipTH4 s.heap l1 l2).objs.size))) { s with heap := zipTH5 s.heap l1 l2 }) :=
  .of_wp fun prog w A R s h => by
    obtain ⟨hp, g, d, tk, os⟩ := s; obtain ⟨hl1, hl2, h⟩ := h
    have hsub := sub_zip
    have hL1 : Heap.IsTuple (Shared.heap ⟨hp, g, d, tk, os⟩) l1 xs := hl1
    have hL2 : Heap.IsList (Shared.heap ⟨hp.push { cls := .type "tuple_iterator", data := .fields #[.ref l1, .int 0 0] }, g, d, tk, os⟩) l2 ys := Heap.IsList.push hl2 _
    wp_walk using wpAny_pyIter_tuple hL1, wpAny_pyIter_list hL2
    exact ⟨_, rfl, h⟩
section
variable {prog : Program} {w : World} {A : Around} {E : Value → Shared → Prop} {s : Shared}
theorem call_zipT {l1 l2 : Addr} {xs ys : Array Value} {Q : Value → Shared → Prop} (hl1 : s.heap.IsTuple l1 xs) (hl2 : s.heap.IsList l2 ys)
    (h : ∀ h', IsZip h' (s.heap.objs.size + 4) (s.heap.objs.size + 2) (s.heap.objs.size + 3) .none → IsPair h' (s.heap.objs.size + 2) (.ref s.heap.objs.size) (.ref (s.heap.objs.size + 1)) →
      IsPair h' (s.heap.objs.size + 3) .none .none → h'.IsTupleIter s.heap.objs.size l1 0 → h'.IsListIter (s.heap.objs.size + 1) l2 0 →
      (∀ c o, s.heap.get? c = some o → h'.get? c = some o) → Q (.ref (s.heap.objs.size + 4)) { s with heap := h' }) :
    wpAny (model prog w) A (call (.type "zip") [.ref l1, .ref l2]) Q E s := by
  refine callType_new F.called_zip (by decide) (F.typeCall_zip_2 _ _) (F.newCall_zip_2 _ _) (fun obj => F.args_object_init_3 obj _ _) F.entry_zip_new
    (meets_zipT_new l1 l2 xs ys) ⟨hl1, hl2, ?_⟩
  have z1 : (zipTH1 s.heap l1).objs.size = s.heap.objs.size + 1 := Heap.size_push ..
  have z2 : (zipTH2 s.heap l1 l2).objs.size = s.heap.objs.size + 2 := by rw [Heap.size_push, z1]
  have z3 : (zipTH3 s.heap l1 l2).objs.size = s.heap.objs.size + 3 := by rw [Heap.size_push, z2]
  have z4 : (zipTH4 s.heap l1 l2).objs.size = s.heap.objs.size + 4 := by rw [Heap.size_push, z3]
  have g5 : (zipTH5 s.heap l1 l2).get? (zipTH4 s.heap l1 l2).objs.size = some _ := Heap.get?_push_size _ rfl
  have g4 : (zipTH5 s.heap l1 l2).get? (zipTH3 s.heap l1 l2).objs.size = some _ := Heap.get?_push_of_some _ (Heap.get?_push_size _ rfl)
  have g3 : (zipTH5 s.heap l1 l2).get? (zipTH2 s.heap l1 l2).objs.size = some _ := Heap.get?_push_of_some _ (Heap.get?_push_of_some _ (Heap.get?_push_size _ rfl))
  have g2 : (zipTH5 s.heap l1 l2).get? (zipTH1 s.heap l1).objs.size = some _ := Heap.get?_push_of_some _ (Heap.get?_push_of_some _ (Heap.get?_push_of_some _ (Heap.get?_push_size _ rfl)))
  have g1 : (zipTH5 s.heap l1 l2).get? s.heap.objs.size = some _ := Heap.get?_push_of_some _ (Heap.get?_push_of_some _ (Heap.get?_push_of_some _ (Heap.get?_push_of_some _ (Heap.get?_push_size _ rfl))))
  show _ ∧ _
  rw [z2, z3, z4] at g5
  rw [z1, z2] at g3
  rw [z3] at g4
  rw [z1] at g2
  rw [z4]
  exact ⟨⟨_, g5, rfl⟩, h _ g5 g3 g4 ⟨_, g1, rfl, rfl⟩ ⟨_, g2, rfl, rfl⟩ fun c o x =>
    Heap.get?_push_of_some _ (Heap.get?_push_of_some _ (Heap.get?_push_of_some _ (Heap.get?_push_of_some _ (Heap.get?_push_of_some _ x))))⟩
theorem walks_zipT (hh : A.handled = none) (z TI TO i1 i2 l1 l2 : Addr) (D : ZipApart z TI TO i1 i2 l1 l2) (xs ys : Array Value) (hsz : xs.size = ys.size) :
    WalksT prog w A z [z, TI, TO, i1, i2, l1, l2] [z, TO, i1, i2] xs.size
      (fun i vals => ∃ x y, xs[i]? = some x ∧ ys[i]? = some y ∧ vals = #[x, y])
      (fun i h => IsZip h z TI TO .none ∧ IsPair h TI (.ref i1) (.ref i2) ∧ (∃ a b, IsPair h TO a b) ∧ h.IsTupleIter i1 l1 i ∧ h.IsListIter i2 l2 i ∧ h.IsTuple l1 xs ∧ h.IsList l2 ys)
      (fun i T h => IsZip h z TI TO (rawInt T) ∧ IsPair h TI (.ref i1) (.ref i2) ∧ (∃ a b, IsPair h TO a b) ∧ h.IsTupleIter i1 l1 (i + 1) ∧ h.IsListIter i2 l2 (i + 1) ∧ h.IsTuple l1 xs ∧ h.IsList l2 ys ∧
        T ≠ z ∧ T ≠ TO ∧ T ≠ i1 ∧ T ≠ i2) where
  sub := fun c hc => by simp at hc ⊢; rcases hc with rfl | rfl | rfl | rfl <;> simp
  frame := fun i h h' hst hk => by
    obtain ⟨hz, hTI, ⟨a, b, hTO⟩, h1, h2, hl1, hl2⟩ := hst
    exact ⟨hk z (by simp) _ hz, hk TI (by simp) _ hTI, ⟨a, b, hk TO (by simp) _ hTO⟩, h1.at fun o e => hk i1 (by simp) o e, h2.at fun o e => hk i2 (by simp) o e,
      hl1.at fun o e => hk l1 (by simp) o e, hl2.at fun o e => hk l2 (by simp) o e⟩
  item := fun i s Q E hi hst hQ => by
    obtain ⟨hz, hTI, ⟨a, b, hTO⟩, h1, h2, hl1, hl2⟩ := hst
    have hiy : i < ys.size := hsz ▸ hi
    have hT : s.TypeIs (.ref z) "zip" := ⟨_, hz, rfl⟩
    unfold pyNext
    refine wpAny_bind (wpAny_attempt (wpAny_callSpecial?_slot (name := Str.ofString "__next__") hT F.slot_zip_next
      (wpAny_call_entry F.slot_zip_next hT F.entry_zip_next
        (zipT_next_item D hz hTI hTO h1 h2 hl1 hl2 (Array.getElem?_eq_getElem hi) (Array.getElem?_eq_getElem hiy) fun h' a1 a2 a3 a4 a5 a6 hk => wpAny_pure ?_) (F.args_zip_next_1 _))))
    have lt : ∀ {c o}, s.heap.get? c = some o → s.heap.objs.size ≠ c := fun e => Nat.ne_of_gt (Heap.lt_size e)
    exact hQ s.heap.objs.size #[xs[i], ys[i]] h' s.toks ⟨_, _, Array.getElem?_eq_getElem hi, Array.getElem?_eq_getElem hiy, rfl⟩ (Nat.le_refl _) ⟨_, a5, rfl, _, rfl⟩
      ⟨a1, hk _ _ D.TIz D.TITO D.TIi1 D.TIi2 hTI, ⟨_, _, a2⟩, a3, a4, hl1.at fun o e => hk _ o D.l1z D.l1TO D.l1i1 D.l1i2 e, hl2.at fun o e => hk _ o D.l2z D.l2TO D.l2i1 D.l2i2 e,
        lt hz, lt hTO, (by obtain ⟨_, e, _⟩ := h1; exact lt e), (by obtain ⟨_, e, _⟩ := h2; exact lt e)⟩
      fun c o hc e => hk c o (fun x => hc (by simp [x])) (fun x => hc (by simp [x])) (fun x => hc (by simp [x])) (fun x => hc (by simp [x])) e
  go := fun elts k pos i T s Q E hm hQ => by
    obtain ⟨hz, hTI, ⟨a, b, hTO⟩, h1, h2, hl1, hl2, _⟩ := hm
    refine wpAny_letOwnedTupleGo_zip hz fun h' hz' hs' => hQ h' ⟨hz', hs'.extBut _ _ D.TIz hTI, ⟨a, b, hs'.extBut _ _ D.TOz hTO⟩, h1.at fun o e => hs'.extBut _ o D.i1z e, h2.extBut hs'.extBut D.i2z,
      hl1.extBut hs'.extBut D.l1z, hl2.extBut hs'.extBut D.l2z⟩ fun c o hc e => hs'.extBut _ _ (fun x => hc (by simp [x])) e
  apart := fun i T h hm hT => by
    obtain ⟨_, _, _, _, _, _, _, t1, t2, t3, t4⟩ := hm
    simp at hT
    rcases hT with rfl | rfl | rfl | rfl
    · exact t1 rfl
    · exact t2 rfl
    · exact t3 rfl
    · exact t4 rfl
  done := fun s Q E hst hQ => by
    obtain ⟨hz, hTI, ⟨a, b, hTO⟩, h1, h2, hl1, hl2⟩ := hst
    have hT : s.TypeIs (.ref z) "zip" := ⟨_, hz, rfl⟩
    unfold pyNext
    refine wpAny_bind (wpAny_attempt (wpAny_callSpecial?_slot (name := Str.ofString "__next__") hT F.slot_zip_next
      (wpAny_call_entry F.slot_zip_next hT F.entry_zip_next (zipT_next_end hh D hz hTI hTO h1 hl1 (Array.getElem?_eq_none (Nat.le_refl _)) fun h' e hk he => ?_) (F.args_zip_next_1 _))))
    obtain ⟨o, ho, hc⟩ := he
    refine wpAny_bind (wpAny_isInstance (T := "StopIteration") (b := true) ⟨o, ho, hc⟩ isSubtype_stop ?_)
    exact wpAny_pure (hQ h' s.toks fun c o hc e => hk c o (fun x => hc (by simp [x])) (fun x => hc (by simp [x])) (fun x => hc (by simp [x])) (fun x => hc (by simp [x])) e)
  self := fun i s Q E hst hQ => wpAny_pyIter_zip hst.1 hQ
end
end
section
section
variable {prog : Program} {w : World} {A : Around} {E : Value → Shared → Prop} {s : Shared} {env : Env} {h₀ : Heap} {target : Expr} {body : List Stmt} {Q : Flow → Shared → Prop}
noncomputable def Off (own l : List (Addr × Obj)) : Prop := ∀ p ∈ own, ∀ q ∈ l, p.1 ≠ q.1
noncomputable def TurnEndK {σ : Type} (h₀ : Heap) (L : Addr) (own : List (Addr × Obj)) (Led : σ → List (Addr × Obj)) (ps : σ → List (Str × Value)) (stored : List Str) (m₀ : Str → Option Value) (P : σ → Prop) (s₁ s₂ : Shared) : Prop :=
  ∃ h' tk m' c, s₂ = { s₁ with heap := h', toks := tk } ∧ Fr h₀ L h' m' ∧ News h₀ L h' (own ++ Led c) ∧ Off own (Led c) ∧ (∀ p ∈ ps c, m' p.1 = some p.2) ∧ (∀ z, (∀ p ∈ ps c, z ≠ p.1) → stored.contains z = false → m' z = m₀ z) ∧ P c
noncomputable def TurnPostK {σ : Type} (h₀ : Heap) (L : Addr) (own : List (Addr × Obj)) (Led : σ → List (Addr × Obj)) (ps : σ → List (Str × Value)) (stored : List Str) (m₀ : Str → Option Value) (P : σ → Prop) (s₁ : Shared) (Q : Flow → Shared → Prop) (f : Flow) (s₂ : Shared) : Prop :=
  match f with
  | .ret v => Q (.ret v) s₂
  | .brk => Q .next s₂
  | _ => TurnEndK h₀ L own Led ps stored m₀ P s₁ s₂
theorem TurnEndK.intro {σ : Type} {L : Addr} {own : List (Addr × Obj)} {Led : σ → List (Addr × Obj)} {ps : σ → List (Str × Value)} {stored : List Str} {m₀ m' : Str → Option Value} {P : σ → Prop} {s₁ : Shared} {h' : Heap} {tk : Nat} {news : List (Addr × Obj)} (c : σ)
    (F : Fr h₀ L h' m') (N : News h₀ L h' news) (hn : ∀ p ∈ own ++ Led c, p ∈ news) (ho : Off own (Led c)) (hk : ∀ p ∈ ps c, m' p.1 = some p.2) (hr : ∀ z, (∀ p ∈ ps c, z ≠ p.1) → stored.contains z = false → m' z = m₀ z) (hp : P c) :
    TurnEndK h₀ L own Led ps stored m₀ P s₁ { s₁ with heap := h', toks := tk } := ⟨h', tk, m', c, rfl, F, fun p hp => N p (hn p hp), ho, hk, hr, hp⟩
theorem loopK {σ : Type} {I : Addr} {its fp wr : List Addr} {n : Nat} {Pv Md : Nat → Value → Heap → Prop} {St : Nat → Heap → Prop} {m₀ : Str → Option Value} (Led : σ → List (Addr × Obj)) (ps : σ → List (Str × Value)) (stored : List Str) (P : Nat → σ → Prop) (c₀ : σ)
    (W : KTurns prog w A target I fp wr n Pv Md St) (hwi : ∀ b ∈ wr, b ∈ its) (hif : ∀ b ∈ its, b ∈ fp) (hi0 : ∀ b ∈ its, h₀.get? b = none) (hLf : env.locals ∉ fp)
    (hfix : ∀ b ∈ fp, b ∈ its ∨ (∃ o, h₀.get? b = some o) ∨ ∃ o, ∀ c, (b, o) ∈ Led c) (hlive : ∀ i h, St i h → ∀ b ∈ its, ∃ o, h.get? b = some o)
    (hst : St 0 s.heap) (F : Fr h₀ env.locals s.heap m₀) (N : News h₀ env.locals s.heap (Led c₀)) (hoff : ∀ q ∈ Led c₀, q.1 ∉ its) (hk : ∀ p ∈ ps c₀, m₀ p.1 = some p.2) (hp : P 0 c₀)
    (turn : ∀ (c : σ) i v (u : Str → Option Value) h tk own, i < n → Pv i v h → P i c → Off own (Led c) →
      Fr h₀ env.locals h (kstB (fun z => if stored.contains z then u z else m₀ z) (ps c)) → News h₀ env.locals h (own ++ Led c) →
      wpAny (model prog w) A (assign target env v) (fun _ s₃ => wpAny (model prog w) A (execs body env) (TurnPostK h₀ env.locals own Led ps stored m₀ (P (i + 1)) { s with heap := h, toks := tk } Q) E s₃) E { s with heap := h, toks := tk })
    (done : ∀ (c : σ) (u : Str → Option Value) h tk, P n c → Fr h₀ env.locals h (kstB (fun z => if stored.contains z then u z else m₀ z) (ps c)) → News h₀ env.locals h (Led c) → Q .next { s with heap := h, toks := tk }) :
    TurnsAt prog w A h₀ env target body Q E (.ref I) s := by
  let J : Nat → (Str → Option Value) → List (Addr × Obj) → Prop := fun i m nx => ∃ c, nx = Led c ∧ (∀ p ∈ ps c, m p.1 = some p.2) ∧ (∀ z, (∀ p ∈ ps c, z ≠ p.1) → stored.contains z = false → m z = m₀ z) ∧ (∀ q ∈ Led c, q.1 ∉ its) ∧ P i c
  have hmap : ∀ {ps' : List (Str × Value)} {m₁ : Str → Option Value}, (∀ p ∈ ps', m₁ p.1 = some p.2) → (∀ z, (∀ p ∈ ps', z ≠ p.1) → stored.contains z = false → m₁ z = m₀ z) → kstB (fun z => if stored.contains z then m₁ z else m₀ z) ps' = m₁ := by
    intro ps' m₁ h1 h2
    funext z
    refine kstB_eq h1 fun hn => ?_
    show (if stored.contains z = true then m₁ z else m₀ z) = m₁ z
    cases h3 : stored.contains z with
    | true => simp
    | false => simp only [Bool.false_eq_true, if_false]; exact (h2 z hn h3).symm
  refine ⟨I, fp, wr, n, Pv, Md, St, m₀, Led c₀, J, rfl, W, hLf, fun b hb => hi0 b (hwi b hb), fun p hp hb => hoff p hp (hwi _ hb), hst, F, N, ⟨c₀, rfl, hk, fun _ _ _ => rfl, hoff, hp⟩, ?_, ?_⟩
  · rintro i v m₁ news₁ hh tk own hin hPv ⟨c, rfl, h1, h2, h4, hP⟩ hof hsub hget hall hst₁ F₁ N₁
    have hown : ∀ p ∈ own.filter (fun p => decide (p.1 ∈ its)), p.1 ∈ its := fun p hp => by simpa using (List.mem_filter.mp hp).2
    have off : Off (own.filter (fun p => decide (p.1 ∈ its))) (Led c) := fun p hp q hq e => h4 q hq (e ▸ hown p hp)
    have N₂ : News h₀ env.locals hh (own.filter (fun p => decide (p.1 ∈ its)) ++ Led c) := fun p hp => by
      rcases List.mem_append.mp hp with hp | hp
      · exact N₁ _ (List.mem_append_left _ (List.mem_filter.mp hp).1)
      · exact N₁ _ (List.mem_append_right _ hp)
    have F₂ : Fr h₀ env.locals hh (kstB (fun z => if stored.contains z then m₁ z else m₀ z) (ps c)) := by rw [hmap h1 h2]; exact F₁
    refine wpAny_mono (turn c i v m₁ hh tk _ hin hPv hP off F₂ N₂) (fun _ s₃ h₃ => wpAny_mono h₃ (fun f s₄ p => ?_) fun _ _ e => e) fun _ _ e => e
    have fin : TurnEndK h₀ env.locals (own.filter (fun p => decide (p.1 ∈ its))) Led ps stored m₀ (P (i + 1)) { s with heap := hh, toks := tk } s₄ → LoopStepU h₀ env.locals wr own (J (i + 1)) { s with heap := hh, toks := tk } .next s₄ := by
      rintro ⟨h', tk', m', c', e, F', N', ho, hk', hr', hp'⟩
      have hoff' : ∀ q ∈ Led c', q.1 ∉ its := fun q hq hb => by
        obtain ⟨o, eo⟩ := hlive _ _ hst₁ _ hb
        have : (q.1, o) ∈ own := hall _ (hif _ hb) (hi0 _ hb) o eo
        exact ho (q.1, o) (List.mem_filter.mpr ⟨this, by simpa using hb⟩) q hq rfl
      refine ⟨rfl, h', tk', m', Led c', e, F', fun p hp => ?_, fun p hp hb => hoff' p hp (hwi _ hb), c', rfl, hk', hr', hoff', hp'⟩
      rcases List.mem_append.mp hp with hp | hp
      · have hg := hget p hp
        rcases hfix _ (hsub p hp) with e1 | ⟨o, e1⟩ | ⟨o, e1⟩
        · exact N' _ (List.mem_append_left _ (List.mem_filter.mpr ⟨hp, by simpa using e1⟩))
        · have := (N₁ p (List.mem_append_left _ hp)).2.2
          rw [e1] at this; cases this
        · have hb := (N₂ _ (List.mem_append_right _ (e1 c))).1
          have : p = (p.1, o) := by
            obtain ⟨a, b⟩ := p
            dsimp only at hb hg ⊢
            rw [hb] at hg
            rw [Option.some.inj hg]
          rw [this]
          exact N' _ (List.mem_append_right _ (e1 c'))
      · exact N' _ (List.mem_append_right _ hp)
    cases f with
    | ret v => exact .ret p
    | brk => exact .brk p
    | next => exact .next (fin p)
    | cont => exact .cont (fin p)
  · rintro h' tk m' news' F' N' _ ⟨c, rfl, h1, h2, _, hP⟩
    refine done c m' h' tk hP ?_ N'
    rw [hmap h1 h2]; exact F'
theorem loopZipT {σ : Type} {elts : List Expr} {k : Nat} {pos : Pos} {l1 l2 : Addr} {xs ys : List Value} {n2 : Nat} {m₀ : Str → Option Value} (Led : σ → List (Addr × Obj)) (ps : σ → List (Str × Value)) (stored : List Str) (P : Nat → σ → Prop) {news₀ : List (Addr × Obj)}
    (hh : A.handled = none) (ht : IsTup h₀ l1 xs.toArray) (hl : ∀ c, (l2, listOf ys.toArray n2) ∈ Led c) (hsz : xs.length = ys.length) (F : Fr h₀ env.locals s.heap m₀) (N : News h₀ env.locals s.heap news₀)
    (init : ∃ c₀, Led c₀ = news₀ ∧ (∀ p ∈ ps c₀, m₀ p.1 = some p.2) ∧ P 0 c₀)
    (turn : ∀ (c : σ) (i : Nat) T x y (u : Str → Option Value) h tk own, xs[i]? = some x → ys[i]? = some y → IsTup h T #[x, y] → P i c → Off own (Led c) →
      Fr h₀ env.locals h (kstB (fun z => if stored.contains z then u z else m₀ z) (ps c)) → News h₀ env.locals h (own ++ Led c) →
      wpAny (model prog w) A (assign (.Tuple elts k pos) env (.ref T)) (fun _ s₃ => wpAny (model prog w) A (execs body env) (TurnPostK h₀ env.locals own Led ps stored m₀ (P (i + 1)) { s with heap := h, toks := tk } Q) E s₃) E { s with heap := h, toks := tk })
    (done : ∀ (c : σ) (u : Str → Option Value) h tk, P xs.length c → Fr h₀ env.locals h (kstB (fun z => if stored.contains z then u z else m₀ z) (ps c)) → News h₀ env.locals h (Led c) → Q .next { s with heap := h, toks := tk }) :
    wpAny (model prog w) A (call (.type "zip") [.ref l1, .ref l2]) (fun xv s₁ => wpAny (model prog w) A (pyIter xv) (fun it s₂ => TurnsAt prog w A h₀ env (.Tuple elts k pos) body Q E it s₂) E s₁) E s := by
  obtain ⟨c₀, rfl, hk, hp⟩ := init
  obtain ⟨o1, ho1, hc1, nn1, hd1⟩ := id ht
  have hl1 : s.heap.IsTuple l1 xs.toArray := ⟨o1, F.keep _ _ ho1, hc1, nn1, hd1⟩
  have hax2 := N _ (hl c₀)
  have hl2 : s.heap.IsList l2 ys.toArray := ⟨_, hax2.1, rfl, n2, rfl⟩
  have hlt1 : l1 < s.heap.objs.size := Heap.lt_size (F.keep _ _ ho1)
  have hlt2 : l2 < s.heap.objs.size := Heap.lt_size hax2.1
  have hLs : env.locals < s.heap.objs.size := F.ns.lt
  have D : ZipApart (s.heap.objs.size + 4) (s.heap.objs.size + 2) (s.heap.objs.size + 3) s.heap.objs.size (s.heap.objs.size + 1) l1 l2 := ktu_apart _ _ _ hlt1 hlt2
  refine call_zipT hl1 hl2 fun h' hz hTI hTO hi1 hi2 hkeep => ?_
  refine wpAny_pyIter_zip hz ?_
  have hst : IsZip h' (s.heap.objs.size + 4) (s.heap.objs.size + 2) (s.heap.objs.size + 3) .none ∧ IsPair h' (s.heap.objs.size + 2) (.ref s.heap.objs.size) (.ref (s.heap.objs.size + 1)) ∧ (∃ a b, IsPair h' (s.heap.objs.size + 3) a b) ∧
      h'.IsTupleIter s.heap.objs.size l1 0 ∧ h'.IsListIter (s.heap.objs.size + 1) l2 0 ∧ h'.IsTuple l1 xs.toArray ∧ h'.IsList l2 ys.toArray :=
    ⟨hz, hTI, ⟨_, _, hTO⟩, hi1, hi2, hl1.at fun o e => hkeep _ o e, hl2.at fun o e => hkeep _ o e⟩
  refine loopK (s := { s with heap := h' }) (its := [s.heap.objs.size + 4, s.heap.objs.size + 2, s.heap.objs.size + 3, s.heap.objs.size, s.heap.objs.size + 1]) Led ps stored P c₀
    (KTurns.ofWalksU (walks_zipT hh _ _ _ _ _ _ _ D xs.toArray ys.toArray (by simpa using hsz)).toU) ?_ ?_ ?_ ?_ ?_ ?_ hst (F.keeps hkeep) (N.grown hkeep) ?_ hk hp ?_ ?_
  · intro b hb; simp at hb ⊢; rcases hb with rfl | rfl | rfl | rfl <;> simp
  · intro b hb; simp at hb ⊢; rcases hb with rfl | rfl | rfl | rfl | rfl <;> simp
  · intro b hb
    have hb' : b = s.heap.objs.size + 4 ∨ b = s.heap.objs.size + 2 ∨ b = s.heap.objs.size + 3 ∨ b = s.heap.objs.size ∨ b = s.heap.objs.size + 1 := by simpa using hb
    rcases hb' with rfl | rfl | rfl | rfl | rfl
    · exact ktu_new F (Nat.le_add_right _ _)
    · exact ktu_new F (Nat.le_add_right _ _)
    · exact ktu_new F (Nat.le_add_right _ _)
    · exact ktu_new F (Nat.le_refl _)
    · exact ktu_new F (Nat.le_add_right _ _)
  · intro hI'
    have hb' : env.locals = s.heap.objs.size + 4 ∨ env.locals = s.heap.objs.size + 2 ∨ env.locals = s.heap.objs.size + 3 ∨ env.locals = s.heap.objs.size ∨ env.locals = s.heap.objs.size + 1 ∨ env.locals = l1 ∨ env.locals = l2 := by simpa using hI'
    have n2 := hax2.2.1
    rcases hb' with e | e | e | e | e | e | e
    · exact ktu_ne 4 hLs e
    · exact ktu_ne 2 hLs e
    · exact ktu_ne 3 hLs e
    · exact Nat.ne_of_lt hLs e
    · exact ktu_ne 1 hLs e
    · exact absurd (Nat.lt_of_lt_of_le (Heap.lt_size ho1) F.above) (e ▸ Nat.lt_irrefl _)
    · exact n2 e.symm
  · intro b hb
    have hb' : b = s.heap.objs.size + 4 ∨ b = s.heap.objs.size + 2 ∨ b = s.heap.objs.size + 3 ∨ b = s.heap.objs.size ∨ b = s.heap.objs.size + 1 ∨ b = l1 ∨ b = l2 := by simpa using hb
    rcases hb' with rfl | rfl | rfl | rfl | rfl | rfl | rfl
    · exact .inl (by simp)
    · exact .inl (by simp)
    · exact .inl (by simp)
    · exact .inl (by simp)
    · exact .inl (by simp)
    · exact .inr (.inl ⟨o1, ho1⟩)
    · exact .inr (.inr ⟨_, hl⟩)
  · rintro i h ⟨hz, hTI, ⟨a, b, hTO⟩, ⟨o1, ho1, _⟩, ⟨o2, ho2, _⟩, _⟩ b hb
    have hb' : b = s.heap.objs.size + 4 ∨ b = s.heap.objs.size + 2 ∨ b = s.heap.objs.size + 3 ∨ b = s.heap.objs.size ∨ b = s.heap.objs.size + 1 := by simpa using hb
    rcases hb' with rfl | rfl | rfl | rfl | rfl
    · exact ⟨_, hz⟩
    · exact ⟨_, hTI⟩
    · exact ⟨_, hTO⟩
    · exact ⟨_, ho1⟩
    · exact ⟨_, ho2⟩
  · intro q hq hb
    have hlp := Heap.lt_size (N q hq).1
    have hb' : q.1 = s.heap.objs.size + 4 ∨ q.1 = s.heap.objs.size + 2 ∨ q.1 = s.heap.objs.size + 3 ∨ q.1 = s.heap.objs.size ∨ q.1 = s.heap.objs.size + 1 := by simpa using hb
    rcases hb' with e | e | e | e | e
    · exact ktu_ne 4 hlp e
    · exact ktu_ne 2 hlp e
    · exact ktu_ne 3 hlp e
    · exact Nat.ne_of_lt hlp e
    · exact ktu_ne 1 hlp e
  · rintro c i v u h tk own hi ⟨T, vals, rfl, ⟨x, y, hx, hy, rfl⟩, hT⟩ hP ho F₁ N₁
    exact turn c i T x y u h tk own (by simpa using hx) (by simpa using hy) hT hP ho F₁ N₁
  · intro c u h tk hP F₁ N₁
    have hP' : P xs.length c := by simpa using hP
    exact done c u h tk hP' F₁ N₁
end
end
section
theorem TurnPostK.next {σ : Type} {h₀ : Heap} {L : Addr} {own : List (Addr × Obj)} {Led : σ → List (Addr × Obj)} {ps : σ → List (Str × Value)} {stored : List Str} {m₀ : Str → Option Value} {P : σ → Prop} {s₁ s₂ : Shared} {Q : Flow → Shared → Prop}
    (h : TurnEndK h₀ L own Led ps stored m₀ P s₁ s₂) : TurnPostK h₀ L own Led ps stored m₀ P s₁ Q .next s₂ := h
end
section
theorem lvl_bound {i l o : Int} (hi : 0 ≤ i ∧ i ≤ 300) (hl : 2 ≤ l ∧ l ≤ 300) (ho : 1 ≤ o ∧ o ≤ 300) : 0 ≤ lvl i l o ∧ lvl i l o ≤ 100000 := by
  unfold lvl
  have h1 : 0 ≤ i * o := Int.mul_nonneg hi.1 (by omega)
  have h2 : i * o ≤ 300 * 300 := Int.mul_le_mul hi.2 ho.2 (by omega) (by omega)
  have h3 : 0 ≤ Int.fdiv (l - 1) 2 := Int.fdiv_nonneg (by omega) (by omega)
  have h4 : Int.fdiv (l - 1) 2 ≤ 300 := by rw [Int.fdiv_eq_ediv_of_nonneg _ (by omega)]; omega
  refine ⟨Int.fdiv_nonneg (by omega) (by omega), ?_⟩
  rw [Int.fdiv_eq_ediv_of_nonneg _ (by omega)]
  exact Int.le_trans (Int.ediv_le_self _ (by omega)) (by omega)
theorem nearUp_bound (f : Int → Int) (v : Int) : ∀ n : Nat, 0 ≤ nearUp f v n ∧ nearUp f v n ≤ n
  | 0 => ⟨Int.le_refl _, Int.le_refl _⟩
  | k + 1 => by
    have h := nearUp_bound f v k
    unfold nearUp
    split <;> omega
noncomputable abbrev CSt := (Int → Int → Int) × Int
noncomputable def giveS (wd ht : Nat) (st : CSt) (x y e : Int) : CSt := (giveC wd ht st.1 x y e, giveLost wd ht st.2 x y e)
noncomputable def wayX : Nat → Int
  | 0 => 1
  | 1 => -1
  | 2 => 0
  | _ => 1
noncomputable def wayY : Nat → Int
  | 0 => 0
  | _ => 1
noncomputable def partN (e : Int) : Nat → Int
  | 0 => pPart e 7
  | 1 => pPart e 3
  | 2 => pPart e 5
  | _ => pRest e
noncomputable def gifts (wd ht : Nat) (x y a e : Int) (st : CSt) : Nat → CSt
  | 0 => st
  | i + 1 => giveS wd ht (gifts wd ht x y a e st i) (x + a * wayX i) (y + wayY i) (partN e i)
theorem regroup4 {α : Type} {a b c d : α} {r o : List α} : ∀ p ∈ (a :: b :: c :: r) ++ (d :: o), p ∈ a :: b :: c :: d :: (r ++ o) := by
  intro p hp
  revert p; k_units
theorem Off.addr {own l l' : List (Addr × Obj)} (D : Off own l) (e : l'.map (·.1) = l.map (·.1)) : Off own l' := fun p hp q hq => by
  have : q.1 ∈ l.map (·.1) := e ▸ List.mem_map_of_mem hq
  obtain ⟨q', h1, h2⟩ := List.mem_map.mp this
  exact h2 ▸ D p hp q' h1
theorem not_in {l : List Str} {z : Str} (h : l.contains z = false) : ∀ s ∈ l, z ≠ s := fun s hs e => by
  have : l.contains z = true := List.contains_iff_mem.mpr (e ▸ hs)
  rw [h] at this; cases this
section
variable {prog : Program} {w : World} {p : Program} {loose : List Str} {mean : ExcName → Option Value} {mg mb : Str → Option Value} {dp un : Nat} {gd : Option (List Code)} {env : Env} {outer : List Env} {A₀ : Around} {base h₀ : Heap} {L : Addr} {m : Str → Option Value} {led rest : List (Addr × Obj)} {s : Shared}
  {Q E : Value → Shared → Prop}
  (B : Below A₀ base outer h₀) (F : Fr h₀ L s.heap m) (X : (hd.heap_1 w.params).In h₀) (N : News h₀ L s.heap (led ++ rest)) (T : Top p loose mean mg mb h₀) (hf : env.frame = some L) (hk : env.scope.kind = .function)
include B F X N T hf hk
local macro_rules | `(tactic| walk_at "call type:zip") => `(tactic| refine halt ?_)
local macro_rules | `(tactic| walk_at "exec For Tuple Call cons nil") => `(tactic| regcatfin_turn)
theorem level_spec {pl self dx cr : Addr} {l o x y a lost : Int} {wd ht : Nat} {c : Int → Int → Int} {g : List (List Int)} {tx ty ta : Tok} {px : Int} (hroom : dp + 3 < recursionLimit)
    (D : Disj rest led) (S : SpL w pl self dx cr l o wd ht c lost led) (P : PlaneAt w h₀ pl wd ht g) (hg : g.length = ht) (hgr : ∀ (j : Nat) ns, g[j]? = some ns → ns.length = wd) (hx : 0 ≤ x ∧ x < wd) (hy : 0 ≤ y ∧ y < ht) (hw : wd ≤ 1000) (hh : ht ≤ 1000)
    (hl : 2 ≤ l ∧ l ≤ 300) (ho : 1 ≤ o ∧ o ≤ 300) (hpx : ((g.getD y.toNat []).getD x.toNat 0) = px) (ha : a = 1 ∨ a = -1)
    (hv : -1000000000000000000000000000000000000000 ≤ px + c x y ∧ px + c x y ≤ 1000000000000000000000000000000000000000)
    (ret : ∀ h' tk' t led' idx e, idx = nearUp (fun i => lvl i l o) (px + c x y) (l - 1).toNat → e = px + c x y - lvl idx l o → Fr h₀ L h' m → News h₀ L h' (led' ++ rest) → SpL w pl self dx cr l o wd ht (gifts wd ht x y a e (c, lost) 4).1 (gifts wd ht x y a e (c, lost) 4).2 led' → led'.map (·.1) = led.map (·.1) → Q (.int idx t) { s with heap := h', toks := tk' }) :
    wpAny (model prog w) (AA dp un gd env outer) (call (.ref 171) [.ref self, .int x tx, .int y ty, .int a ta]) Q E s := by
  have hnb := nearUp_bound (fun i => lvl i l o) (px + c x y) (l - 1).toNat
  generalize hidx : nearUp (fun i => lvl i l o) (px + c x y) (l - 1).toNat = idx at hnb
  have hnb' : 0 ≤ idx ∧ idx ≤ 300 := by omega
  have hlb := lvl_bound hnb' hl ho
  generalize he : px + c x y - lvl idx l o = e
  refine' enter (binds := [("self", .ref self), ("x", .int x tx), ("y", .int y ty), ("along", .int a ta)]) (fun v nw => ∃ t, v = .int idx t ∧ SpL w pl self dx cr l o wd ht (gifts wd ht x y a e (c, lost) 4).1 (gifts wd ht x y a e (c, lost) 4).2 nw ∧ nw.map (·.1) = led.map (·.1)) B F X (core := led) (newsSub N fun _ h => List.mem_append_left _ h) T hf hk ?ret ?k6 ?k7 ?k8 ?k9 ?kB ?_ ?c2 ?c3 ?c4 ?c5
  case ret =>
    rintro v h' tk' nw F' N' st _ ⟨t, rfl, S', e'⟩
    exact ret h' tk' t nw idx e hidx.symm he.symm F' (newsApp N' (newsRest (newsSub N fun _ h => List.mem_append_right _ h) st D)) S' e'
  (case k6 => k_dflt k_is); (case k7 => k_dflt k_is); (case k8 => k_dflt ktr_room); (case k9 => exact BindsTo.of_eq rfl); (case kB => first | exact locs rfl | exact rfl); (case c2 => rfl); (case c3 => rfl); (case c4 => rfl); (try case c5 => decide); (try case kD => decide +kernel)
  intro g' L' h' FG' F' N' B' X' T' l1 st'
  first | refine gen_post fun gG gD gO QQ hQQ => ?_ | refine gen_post2 fun gG gD gO QQ hQQ => ?_
  replace P := P.keep FG'.keep
  clear B F X N T ret hf hk D
  have P0 := P
  refine exE7 P ?_
  clear P
  intro dpl rl u1 u2 u3 uw uh hq0
  refine and3 hq0 ?_
  clear hq0
  rintro hP1 hP2 hP0
  refine Exists.elim hP0 ?_
  clear hP0
  intro as hq0
  refine and3 hq0 ?_
  clear hq0
  rintro hP3 hP4 hP5
  refine exE10 (id S) ?_
  intro t1 t2 t3 t4 t5 tl tm tz nn rowsL hq0
  refine and4 hq0 ?_
  clear hq0
  rintro hled hlen hrows hnd
  obtain ⟨ns, hns⟩ : ∃ ns, g[y.toNat]? = some ns := ⟨g[y.toNat]'(by omega), List.getElem?_eq_getElem _⟩
  obtain ⟨b, hb⟩ : ∃ b, as[y.toNat]? = some b := ⟨as[y.toNat]'(by omega), List.getElem?_eq_getElem _⟩
  obtain ⟨pvs, hpl, hpi⟩ := hP5 _ _ _ hb hns
  have hnl : ns.length = wd := hgr _ _ hns
  have hpx' : ns.getD x.toNat 0 = px := by rw [← hpx]; simp [List.getD, hns]
  obtain ⟨⟨a', ob⟩, hget⟩ : ∃ p, rowsL[y.toNat]? = some p := ⟨rowsL[y.toNat]'(by omega), List.getElem?_eq_getElem _⟩
  obtain ⟨vs, k, heq, hi⟩ := hrows _ _ hget
  dsimp only at heq
  subst heq
  have hya : ((y.toNat : Nat) : Int) = y := by omega
  rw [hya] at hi
  have ha' : (rowsL.map (·.1))[y.toNat]? = some a' := by rw [List.getElem?_map, hget]; rfl
  have hm : (a', listOf vs.toArray k) ∈ rowsL := List.mem_of_getElem? hget
  have hlr : (rowInts wd c y).length = wd := rowInts_length
  have hgd : (rowInts wd c y).getD x.toNat 0 = c x y := rowInts_getD hx.1 hx.2
  have hraw : nearUp (fun i => lvl i l o) (ns.getD x.toNat 0 + (rowInts wd c y).getD x.toNat 0) (l - 1).toNat = idx := by rw [hpx', hgd, hidx]
  have hraw2 : lvl (nearUp (fun i => lvl i l o) (ns.getD x.toNat 0 + (rowInts wd c y).getD x.toNat 0) (l - 1).toNat) l o = lvl idx l o := by rw [hraw]
  have hraw3 : ns.getD x.toNat 0 + (rowInts wd c y).getD x.toNat 0 - lvl (nearUp (fun i => lvl i l o) (ns.getD x.toNat 0 + (rowInts wd c y).getD x.toNat 0) (l - 1).toNat) l o = e := by rw [hraw, hpx', hgd, he]
  subst hled
  replace N' := newsSub N' (l' := (a', listOf vs.toArray k) :: (self, instObj 181 dx) :: (dx, spDict w pl cr l o lost t1 t2 t3 t4 t5 tl tm tz) :: (cr, listOf ((rowsL.map (·.1)).map Value.ref).toArray nn) :: rowsL) fun p hp => by
    rcases List.mem_cons.mp hp with rfl | hp
    · exact .tail _ (.tail _ (.tail _ hm))
    · exact hp
  (try dsimp only); (try k_fold)
  k_steps
  unfold Halt
  k_dflt (refine' near_spec ?k1 ?k2 ?k3 ?k4 ?k5 ?kf ?kk ?kd ?p2 ?p3 ?_; (case k1 => k_asm); (case k2 => k_asm); (case k3 => k_asm); (case k4 => k_asm); (case k5 => k_asm); (case kf => rfl); (case kk => rfl); (case kd => ktr_room); (case p2 => (constructor <;> omega)); (case p3 => (constructor <;> omega)))
  intro h' tk' t' F' N'
  (try dsimp only); (try k_fold); (try k_sweep)
  k_steps
  unfold Halt
  k_dflt (refine' lv_spec ?k1 ?k2 ?k3 ?k4 ?k5 ?kf ?kk ?kd ?p1 ?p2 ?p3 ?_; (case k1 => k_asm); (case k2 => k_asm); (case k3 => k_asm); (case k4 => k_asm); (case k5 => k_asm); (case kf => rfl); (case kk => rfl); (case kd => ktr_room); (case p1 => first | assumption | (constructor <;> omega)); (case p2 => (constructor <;> omega)); (case p3 => (constructor <;> omega)))
  intro h' tk' t' F' N'
  (try dsimp only); (try k_fold); (try k_sweep)
  k_steps
  unfold Halt
  k_dflt (refine' parts_spec ?k1 ?k2 ?k3 ?k4 ?k5 ?kf ?kk ?kd ?p1 ?_; (case k1 => k_asm); (case k2 => k_asm); (case k3 => k_asm); (case k4 => k_asm); (case k5 => k_asm); (case kf => rfl); (case kk => rfl); (case kd => ktr_room); (case p1 => (constructor <;> omega)))
  intro h145 tk145 fd v1 v2 v3 v4 n4 F145 N145 o145
  (try dsimp only); (try k_fold); (try k_sweep)
  k_steps
  unfold Halt
  rename Fr g' L' _ _ => F1
  rename News g' L' _ _ => N1
  rw [hraw3] at N1
  have hfd : ∀ q ∈ (self, instObj 181 dx) :: (dx, spDict w pl cr l o lost t1 t2 t3 t4 t5 tl tm tz) :: (cr, listOf ((rowsL.map (·.1)).map Value.ref).toArray nn) :: rowsL, q.1 ≠ fd := fun q hq => o145 q (.tail _ hq)
  have N2 := newsSub N1 (l' := (fd, listOf [.int (pPart e 7) v1, .int (pPart e 3) v2, .int (pPart e 5) v3, .int (pRest e) v4].toArray n4) :: (self, instObj 181 dx) :: (dx, spDict w pl cr l o lost t1 t2 t3 t4 t5 tl tm tz) :: (cr, listOf ((rowsL.map (·.1)).map Value.ref).toArray nn) :: rowsL) fun p hp => by
    rcases List.mem_cons.mp hp with rfl | hp
    · exact .head _
    · exact .tail _ (.tail _ hp)
  clear N1 o145
  generalize hl0 : (self, instObj 181 dx) :: (dx, spDict w pl cr l o lost t1 t2 t3 t4 t5 tl tm tz) :: (cr, listOf ((rowsL.map (·.1)).map Value.ref).toArray nn) :: rowsL = led at *
  with_unfolding_all refine' loopZipT (xs := [.ref 96, .ref 97, .ref 98, .ref 99]) (ys := [.int (pPart e 7) v1, .int (pPart e 3) v2, .int (pPart e 5) v3, .int (pRest e) v4])
                        (fun cc => (fd, listOf [.int (pPart e 7) v1, .int (pPart e 3) v2, .int (pPart e 5) v3, .int (pRest e) v4].toArray n4) :: cc) (fun _ => []) ["way", "part"]
                        (fun i cc => SpL w pl self dx cr l o wd ht (gifts wd ht x y a e (c, lost) i).1 (gifts wd ht x y a e (c, lost) i).2 cc ∧ cc.map (·.1) = led.map (·.1)) rfl ?ht (fun _ => List.Mem.head _) rfl F1 N2 ⟨led, rfl, all_nil, S, rfl⟩ ?turn ?done
  case ht => refine' tupK X' ?te; (case te => k_dflt k_is)
  case turn =>
    intro cc i T x' y' u h tk own hx' hy' hT hP ho F2 N2'
    first | refine gen_post fun gG gD gO QQ hQQ => ?_ | refine gen_post2 fun gG gD gO QQ hQQ => ?_
    obtain ⟨S2, e2⟩ := hP
    have hi4 : i = 0 ∨ i = 1 ∨ i = 2 ∨ i = 3 := by
      have := (List.getElem?_eq_some_iff.mp hx').1
      simp at this
      omega
    have D2 : Disj ((fd, listOf [.int (pPart e 7) v1, .int (pPart e 3) v2, .int (pPart e 5) v3, .int (pRest e) v4].toArray n4) :: own) cc := by
      intro p hp q hq
      rcases List.mem_cons.mp hp with rfl | hp
      · have : q.1 ∈ led.map (·.1) := e2 ▸ List.mem_map_of_mem hq
        obtain ⟨q', z1, z2⟩ := List.mem_map.mp this
        exact z2 ▸ hfd q' z1
      · exact fun z => ho p hp q (.tail _ hq) z.symm
    refine exE10 (id S2) ?_
    intro s1 s2 s3 s4 s5 s6 s7 s8 nn2 rows2 hq0
    refine and4 hq0 ?_
    clear hq0
    rintro hcc - - -
    have N3 := newsSub N2' (l' := (self, instObj 181 dx) :: (dx, spDict w pl cr l o (gifts wd ht x y a e (c, lost) i).2 s1 s2 s3 s4 s5 s6 s7 s8) :: (cr, listOf ((rows2.map (·.1)).map Value.ref).toArray nn2) :: (fd, listOf [.int (pPart e 7) v1, .int (pPart e 3) v2, .int (pPart e 5) v3, .int (pRest e) v4].toArray n4) :: (rows2 ++ own)) (by rw [hcc]; k_units)
    clear N2' N2 F1
    dsimp only [kstB] at F2
    rcases hi4 with rfl | rfl | rfl | rfl <;> (
      simp only [List.getElem?_cons_zero, List.getElem?_cons_succ, Option.some.injEq] at hx' hy'
      subst hx' hy'
      k_steps
      unfold Halt
      rename Fr g' L' _ _ => F3
      rename News g' L' _ _ => N4
      rw [hcc] at D2 S2 e2 ho
      refine give_spec B' F3 X' (newsSub N4 regroup4) T' rfl rfl (by k_dflt ktr_room) D2 S2 P0 (by omega) hw hh ?_
      intro h5 tk5 led5 F5 N5 S5 e5
      clear N4 F3
      k_steps
      rename Fr g' L' _ _ => F6
      rename News g' L' _ _ => N6
      refine hQQ _ _ _ (TurnPostK.next ?_)
      refine TurnEndK.intro led5 F6 N6 ?_ (Off.addr ho (by simp only [List.map_cons, e5])) all_nil ?_ ⟨S5, e5.trans e2⟩
      · k_units
      · intro z _ h3
        have z1 := not_in h3 "way" (by first | k_units | simp)
        have z2 := not_in h3 "part" (by first | k_units | simp)
        (repeat first | with_reducible rfl | (refine (upd_ne (by assumption)).trans ?_) | (refine (if_neg (by assumption)).trans ?_) | (refine (ite_cf (by assumption)).trans ?_) | (refine (ite_cf rfl).trans ?_))
        all_goals rfl)
  case done =>
    intro cc u h tk hP F2 N2'
    obtain ⟨S2, e2⟩ := hP
    clear N2 F1
    dsimp only [kstB] at F2
    k_steps
    rename Fr g' L' _ _ => F6
    rename News g' L' _ _ => N6
    refine hQQ _ _ _ ?_
    exact LeaveP.intro F6 (newsSub N6 fun p hp => List.Mem.tail _ hp) ⟨_, congrArg (fun z => Value.int z _) hraw, S2, e2⟩
end
end
section
local macro_rules | `(tactic| walk_at "no such step") => `(tactic| skip)
noncomputable def pxAt (g : List (List Int)) (x y : Int) : Int := (g.getD y.toNat []).getD x.toNat 0
noncomputable def xAt (wd : Nat) (a : Int) (i : Nat) : Int := if a = 1 then (i : Int) else (wd : Int) - 1 - i
noncomputable def cellStep (wd ht : Nat) (f : Int → Int) (n : Nat) (g : List (List Int)) (x y a : Int) (st : CSt × List Int) : CSt × List Int :=
  (gifts wd ht x y a (pxAt g x y + st.1.1 x y - f (nearUp f (pxAt g x y + st.1.1 x y) n)) st.1 4, st.2.set x.toNat (nearUp f (pxAt g x y + st.1.1 x y) n))
noncomputable def rowRun (wd ht : Nat) (f : Int → Int) (n : Nat) (g : List (List Int)) (y a : Int) (st : CSt) : Nat → CSt × List Int
  | 0 => (st, List.replicate wd 0)
  | i + 1 => cellStep wd ht f n g (xAt wd a i) y a (rowRun wd ht f n g y a st i)
noncomputable def Bd (B : Int) (c : Int → Int → Int) : Prop := ∀ x y, -B ≤ c x y ∧ c x y ≤ B
noncomputable def BB : Nat → Int
  | 0 => 0
  | k + 1 => 8 * BB k + 1000000
theorem allLt_at {d : Addr} : ∀ {l : List (Addr × Obj)}, AllLt d l → ∀ q ∈ l, q.1 < d
  | [], _, _, h => nomatch h
  | _ :: _, ⟨a, b⟩, q, h => by
    rcases List.mem_cons.mp h with rfl | h
    · exact a
    · exact allLt_at b q h
theorem BB_pos : ∀ k, 0 ≤ BB k
  | 0 => Int.le_refl _
  | k + 1 => by have := BB_pos k; unfold BB; omega
theorem BB_le : ∀ k, k ≤ 20 → BB k ≤ 100000000000000000000000000000000000000 := by decide +kernel
theorem pPart_bound {e k M : Int} (h : -M ≤ e ∧ e ≤ M) (hk : 0 ≤ k ∧ k ≤ 16) : -(M + 1) ≤ pPart e k ∧ pPart e k ≤ M + 1 := by
  unfold pPart
  have h0 : 0 ≤ M := by omega
  have h1 : e * k ≤ M * 16 := Int.le_trans (Int.mul_le_mul_of_nonneg_right h.2 hk.1) (Int.mul_le_mul_of_nonneg_left hk.2 h0)
  have h2 : -(M * 16) ≤ e * k := by
    have : -e * k ≤ M * 16 := Int.le_trans (Int.mul_le_mul_of_nonneg_right (by omega : -e ≤ M) hk.1) (Int.mul_le_mul_of_nonneg_left hk.2 h0)
    rw [Int.neg_mul] at this
    omega
  rw [Int.fdiv_eq_ediv_of_nonneg _ (by omega)]
  omega
theorem pRest_bound {e M : Int} (h : -M ≤ e ∧ e ≤ M) : -(4 * M + 3) ≤ pRest e ∧ pRest e ≤ 4 * M + 3 := by
  have h1 := pPart_bound h (k := 7) (by decide)
  have h2 := pPart_bound h (k := 3) (by decide)
  have h3 := pPart_bound h (k := 5) (by decide)
  unfold pRest
  omega
theorem giveC_bound {wd ht : Nat} {c : Int → Int → Int} {x y e M K : Int} (hc : Bd M c) (he : -K ≤ e ∧ e ≤ K) : Bd (M + K) (giveC wd ht c x y e) := by
  intro a b
  have h1 := hc a b
  have h2 := hc x y
  unfold giveC
  split
  · dsimp only
    split <;> omega
  · omega
theorem gifts_bound {wd ht : Nat} {x y a e M K : Int} {st : CSt} (hc : Bd M st.1) (he : -K ≤ e ∧ e ≤ K) : Bd (M + (K + 1) + (K + 1) + (K + 1) + (4 * K + 3)) (gifts wd ht x y a e st 4).1 :=
  giveC_bound (giveC_bound (giveC_bound (giveC_bound hc (pPart_bound he (by decide))) (pPart_bound he (by decide))) (pPart_bound he (by decide))) (pRest_bound he)
theorem Bd.mono {M M' : Int} {c : Int → Int → Int} (h : Bd M c) (e : M ≤ M') : Bd M' c := fun x y => by have := h x y; omega
theorem cellStep_bound {wd ht : Nat} {f : Int → Int} {n : Nat} {g : List (List Int)} {x y a : Int} {st : CSt × List Int} {k : Nat} (hc : Bd (BB k) st.1.1) (hp : 0 ≤ pxAt g x y ∧ pxAt g x y ≤ 300) (hf : ∀ i : Int, 0 ≤ i → i ≤ n → 0 ≤ f i ∧ f i ≤ 100000) :
    Bd (BB (k + 1)) (cellStep wd ht f n g x y a st).1.1 := by
  have h1 := hc x y
  have h2 := nearUp_bound f (pxAt g x y + st.1.1 x y) n
  have h3 := hf _ h2.1 h2.2
  have h0 := BB_pos k
  refine (gifts_bound (K := BB k + 100300) hc (by omega)).mono ?_
  show _ ≤ 8 * BB k + 1000000
  omega
theorem rowRun_len {wd ht : Nat} {f : Int → Int} {n : Nat} {g : List (List Int)} {y a : Int} {st : CSt} : ∀ i, (rowRun wd ht f n g y a st i).2.length = wd
  | 0 => by simp [rowRun]
  | i + 1 => by
    have := rowRun_len (wd := wd) (ht := ht) (f := f) (n := n) (g := g) (y := y) (a := a) (st := st) i
    simp only [rowRun, cellStep, List.length_set]
    exact this
theorem rowRun_bound {wd ht : Nat} {f : Int → Int} {n : Nat} {g : List (List Int)} {y a : Int} {st : CSt} {k : Nat} (hc : Bd (BB k) st.1) (hp : ∀ x y, 0 ≤ pxAt g x y ∧ pxAt g x y ≤ 300) (hf : ∀ i : Int, 0 ≤ i → i ≤ n → 0 ≤ f i ∧ f i ≤ 100000) :
    ∀ i, Bd (BB (k + i)) (rowRun wd ht f n g y a st i).1.1
  | 0 => hc
  | i + 1 => cellStep_bound (rowRun_bound hc hp hf i) (hp _ _) hf
section
variable {prog : Program} {w : World} {p : Program} {loose : List Str} {mean : ExcName → Option Value} {mg mb : Str → Option Value} {dp un : Nat} {gd : Option (List Code)} {env : Env} {outer : List Env} {A₀ : Around} {base h₀ : Heap} {L : Addr} {m : Str → Option Value} {led rest : List (Addr × Obj)} {s : Shared}
  {Q E : Value → Shared → Prop}
  (B : Below A₀ base outer h₀) (F : Fr h₀ L s.heap m) (X : (hd.heap_1 w.params).In h₀) (N : News h₀ L s.heap (led ++ rest)) (T : Top p loose mean mg mb h₀) (hf : env.frame = some L) (hk : env.scope.kind = .function)
include B F X N T hf hk
local macro_rules | `(tactic| walk_at "call type:range") => `(tactic| refine halt ?_)
local macro_rules | `(tactic| walk_at "pyIter ref") => `(tactic| refine halt ?_)
theorem row_spec {pl self dx cr : Addr} {l o y lost : Int} {wd ht k : Nat} {c : Int → Int → Int} {g : List (List Int)} {ty : Tok} (hroom : dp + 4 < recursionLimit)
    (D : Disj rest led) (S : SpL w pl self dx cr l o wd ht c lost led) (P : PlaneAt w h₀ pl wd ht g) (hg : g.length = ht) (hgr : ∀ (j : Nat) ns, g[j]? = some ns → ns.length = wd) (hy : 0 ≤ y ∧ y < ht) (hw : wd ≤ 1000) (hh : ht ≤ 1000)
    (hl : 2 ≤ l ∧ l ≤ 300) (ho : 1 ≤ o ∧ o ≤ 300) (hpx : ∀ x y, 0 ≤ pxAt g x y ∧ pxAt g x y ≤ 300) (hb : Bd (BB k) c) (hk20 : k + wd ≤ 20)
    (ret : ∀ h' tk' led' fd vs n, Fr h₀ L h' m → News h₀ L h' ((fd, listOf (vs : List Value).toArray n) :: (led' ++ rest)) → (∀ q ∈ led' ++ rest, q.1 ≠ fd) →
      SpL w pl self dx cr l o wd ht (rowRun wd ht (fun i => lvl i l o) (l - 1).toNat g y (if y % 2 = 0 then 1 else -1) (c, lost) wd).1.1 (rowRun wd ht (fun i => lvl i l o) (l - 1).toNat g y (if y % 2 = 0 then 1 else -1) (c, lost) wd).1.2 led' → led'.map (·.1) = led.map (·.1) →
      IntsAre vs (rowRun wd ht (fun i => lvl i l o) (l - 1).toNat g y (if y % 2 = 0 then 1 else -1) (c, lost) wd).2 → Q (.ref fd) { s with heap := h', toks := tk' }) :
    wpAny (model prog w) (AA dp un gd env outer) (call (.ref 178) [.ref self, .int y ty]) Q E s := by
  have hfb : ∀ i : Int, 0 ≤ i → i ≤ ((l - 1).toNat : Nat) → 0 ≤ lvl i l o ∧ lvl i l o ≤ 100000 := fun i h0 h1 => lvl_bound ⟨h0, by omega⟩ hl ho
  generalize ha : (if y % 2 = 0 then (1 : Int) else -1) = a at ret
  refine' enter (binds := [("self", .ref self), ("y", .int y ty)]) (fun v nw => ∃ fd vs n led', v = .ref fd ∧ nw = (fd, listOf (vs : List Value).toArray n) :: led' ∧ (∀ q ∈ led', q.1 ≠ fd) ∧ SpL w pl self dx cr l o wd ht (rowRun wd ht (fun i => lvl i l o) (l - 1).toNat g y a (c, lost) wd).1.1 (rowRun wd ht (fun i => lvl i l o) (l - 1).toNat g y a (c, lost) wd).1.2 led' ∧ led'.map (·.1) = led.map (·.1) ∧ IntsAre vs (rowRun wd ht (fun i => lvl i l o) (l - 1).toNat g y a (c, lost) wd).2) B F X (core := led) (newsSub N fun _ h => List.mem_append_left _ h) T hf hk ?ret ?k6 ?k7 ?k8 ?k9 ?kB ?_ ?c2 ?c3 ?c4 ?c5
  case ret =>
    rintro v h' tk' nw F' N' st fr ⟨fd, vs, n, led', rfl, rfl, hoff, S', e', I'⟩
    have NR := newsRest (newsSub N fun _ h => List.mem_append_right _ h) st D
    refine ret h' tk' led' fd vs n F' (newsApp N' NR) ?_ S' e' I'
    intro q hq
    rcases List.mem_append.mp hq with hq | hq
    · exact hoff q hq
    · have hfree := fr _ (.head _) (fun q hq => by
        have : q.1 ∈ led'.map (·.1) := e' ▸ List.mem_map_of_mem hq
        obtain ⟨q', z1, z2⟩ := List.mem_map.mp this
        exact z2 ▸ hoff q' z1)
      exact newsOff (newsSub N fun _ h => List.mem_append_right _ h) hfree q hq
  (case k6 => k_dflt k_is); (case k7 => k_dflt k_is); (case k8 => k_dflt ktr_room); (case k9 => exact BindsTo.of_eq rfl); (case kB => first | exact locs rfl | exact rfl); (case c2 => rfl); (case c3 => rfl); (case c4 => rfl); (try case c5 => decide); (try case kD => decide +kernel)
  intro g' L' h' FG' F' N' B' X' T' l1 st'
  first | refine gen_post fun gG gD gO QQ hQQ => ?_ | refine gen_post2 fun gG gD gO QQ hQQ => ?_
  replace P := P.keep FG'.keep
  clear B F X N T ret hf hk D
  have P0 := P
  refine exE7 P ?_
  clear P
  intro dpl rl u1 u2 u3 uw uh hq0
  refine and3 hq0 ?_
  clear hq0
  rintro hP1 hP2 -
  refine exE10 (id S) ?_
  intro t1 t2 t3 t4 t5 tl tm tz nn rowsL hq0
  refine and4 hq0 ?_
  clear hq0
  rintro hled - - -
  have N0 := newsSub N' (l' := (self, instObj 181 dx) :: (dx, spDict w pl cr l o lost t1 t2 t3 t4 t5 tl tm tz) :: (cr, listOf ((rowsL.map (·.1)).map Value.ref).toArray nn) :: rowsL) fun p hp => by rw [hled]; exact hp
  clear N'
  (try dsimp only); (try k_fold)
  k_steps
  · have hpar : a = 1 := by
      rename Int.fmod y 2 = 0 => hpr
      rw [Int.fmod_eq_emod_of_nonneg _ (by decide)] at hpr
      rw [← ha]
      rw [if_pos hpr]
    clear ha
    subst hpar
    unfold Halt
    k_dflt (refine' range1_N ?r1F ?r1N ?_; (case r1F => k_asm); (case r1N => k_asm))
    intro rr hR tkR tR1 tR2 tR3 FR NR lR
    (try k_lt lR); (try k_sweep)
    k_steps
    unfold Halt
    rename_i l0 hp5 q1 fd hp4 I0 n1 sz1 e1 e2 e3 hlt hp3 hpr0 hp2 hp0 F1 N1
    have R1 := (N1 _ (.head _)).1
    have hoff0 : ∀ q ∈ led, q.1 ≠ fd := by
      intro q hq
      obtain ⟨-, z1, z2, z3, z4⟩ := hlt
      rw [hled] at hq
      rcases List.mem_cons.mp hq with rfl | hq
      · exact Nat.ne_of_lt z1
      rcases List.mem_cons.mp hq with rfl | hq
      · exact Nat.ne_of_lt z2
      rcases List.mem_cons.mp hq with rfl | hq
      · exact Nat.ne_of_lt z3
      · exact Nat.ne_of_lt (allLt_at z4 q hq)
    rw [show (List.replicate (wd : Int).toNat [(0 : Int)]).flatten = List.replicate wd 0 by simp] at I0
    generalize hvs : (List.replicate (wd : Int).toNat [Value.int 0 _]).flatten = vs0 at N1 I0
    have N2 := newsSub N1 (l' := (fd, listOf vs0.toArray 0) :: led) fun p hp => by
      rcases List.mem_cons.mp hp with rfl | hp
      · exact .tail _ (.head _)
      · rw [hled] at hp
        exact .tail _ (.tail _ (.tail _ hp))
    clear N1
    with_unfolding_all refine' loopRange (n := wd) (σ := List (Addr × Obj) × List Value) (fun cc => (fd, listOf cc.2.toArray 0) :: cc.1) (fun _ => []) []
                          (fun i cc => SpL w pl self dx cr l o wd ht (rowRun wd ht (fun i => lvl i l o) (l - 1).toNat g y 1 (c, lost) i).1.1 (rowRun wd ht (fun i => lvl i l o) (l - 1).toNat g y 1 (c, lost) i).1.2 cc.1 ∧ cc.1.map (·.1) = led.map (·.1) ∧ IntsAre cc.2 (rowRun wd ht (fun i => lvl i l o) (l - 1).toNat g y 1 (c, lost) i).2)
                          rfl R1 ?k3 ?k4 F1 N2 ⟨(led, vs0), rfl, all_nil, S, rfl, I0⟩ ?turn ?done
    case k3 => exact small_one (by omega) (by omega) (by omega) (by omega)
    case k4 => (rw [rangeSize_nat]; (try congr 1); (try omega))
    case turn =>
      intro cc i t u h tk I oI hi hP hoI F3 N3
      first | refine gen_post fun gG gD gO QQ hQQ => ?_ | refine gen_post2 fun gG gD gO QQ hQQ => ?_
      obtain ⟨led3, vs3⟩ := cc
      obtain ⟨S3, e3, I3⟩ := hP
      clear R1 F1 N2
      dsimp only [kstB] at F3 N3 hoI S3 e3 I3
      rw [show 0 + (i : Int) * 1 = xAt wd 1 i by unfold xAt; simp] at F3
      have hoff3 : ∀ q ∈ led3, q.1 ≠ fd := fun q hq => by
        have : q.1 ∈ led.map (·.1) := e3 ▸ List.mem_map_of_mem hq
        obtain ⟨q', z1, z2⟩ := List.mem_map.mp this
        exact z2 ▸ hoff0 q' z1
      have hIfd : @Ne Nat I fd := Ne.symm (hoI _ (.head _))
      have hIl : ∀ q ∈ led3, q.1 ≠ I := fun q hq => hoI q (.tail _ hq)
      have hxi : 0 ≤ xAt wd 1 i ∧ xAt wd 1 i < wd := by unfold xAt; simp; omega
      have hB3 := rowRun_bound (wd := wd) (ht := ht) (y := y) (a := 1) (st := (c, lost)) hb hpx hfb i
      have hB4 := BB_le (k + i) (by omega)
      have hB5 := BB_pos (k + i)
      have hB6 := hB3 (xAt wd 1 i) y
      have hB7 := hpx (xAt wd 1 i) y
      have hlen3 := rowRun_len (wd := wd) (ht := ht) (f := fun i => lvl i l o) (n := (l - 1).toNat) (g := g) (y := y) (a := 1) (st := (c, lost)) i
      refine exE10 (id S3) ?_
      intro s1 s2 s3 s4 s5 s6 s7 s8 nn2 rows2 hq0
      refine and4 hq0 ?_
      clear hq0
      rintro hcc - - -
      have N4 := newsSub N3 (l' := (self, instObj 181 dx) :: (dx, spDict w pl cr l o (rowRun wd ht (fun i => lvl i l o) (l - 1).toNat g y 1 (c, lost) i).1.2 s1 s2 s3 s4 s5 s6 s7 s8) :: (cr, listOf ((rows2.map (·.1)).map Value.ref).toArray nn2) :: (fd, listOf vs3.toArray 0) :: (rows2 ++ [(I, oI)])) (by rw [hcc]; k_units)
      clear N3
      (try k_fold)
      k_steps
      unfold Halt
      rename Fr g' L' _ _ => F5
      rename News g' L' _ _ => N5
      have DD : Disj ((fd, listOf vs3.toArray 0) :: [(I, oI)]) led3 := by
        intro p hp q hq
        rcases List.mem_cons.mp hp with rfl | hp
        · exact hoff3 q hq
        · rw [List.mem_singleton.mp hp]; exact hIl q hq
      refine level_spec (px := pxAt g (xAt wd 1 i) y) B' F5 X' (led := led3) (newsSub N5 (by rw [hcc]; exact regroup4)) T' rfl rfl (by k_dflt ktr_room) DD S3 P0 hg hgr hxi hy hw hh hl ho rfl (by first | exact Or.inl rfl | exact Or.inr rfl) (by omega) ?_
      intro h6 tk6 t6 led6 idx e hidx he F6 N6 S6 e6
      have N7 := newsSub N6 (l' := (fd, listOf vs3.toArray 0) :: (I, oI) :: led6) (by k_units)
      have hoff6 : ∀ q ∈ led6, q.1 ≠ fd := fun q hq => by
        have : q.1 ∈ led3.map (·.1) := e6 ▸ List.mem_map_of_mem hq
        obtain ⟨q', z1, z2⟩ := List.mem_map.mp this
        exact z2 ▸ hoff3 q' z1
      have hI6 : ∀ q ∈ led6, q.1 ≠ I := fun q hq => by
        have : q.1 ∈ led3.map (·.1) := e6 ▸ List.mem_map_of_mem hq
        obtain ⟨q', z1, z2⟩ := List.mem_map.mp this
        exact z2 ▸ hIl q' z1
      clear N5 N6 F5
      k_steps
      rename Fr g' L' _ _ => F8
      rename News g' L' _ _ => N8
      rename IntsAre _ _ => I8
      refine hQQ _ _ _ (TurnPost.next ?_)
      refine TurnEnd.intro (led6, vs3.set (xAt wd 1 i).toNat (.int idx t6)) F8 N8 ?_ ?_ all_nil ?_ ⟨?_, e6.trans e3, ?_⟩
      · k_units
      · intro q hq
        rcases List.mem_cons.mp hq with rfl | hq
        · exact Ne.symm hIfd
        · exact hI6 q hq
      · intro z z1 _ _
        (repeat first | with_reducible rfl | (refine (upd_ne (by assumption)).trans ?_) | (refine (if_neg (by assumption)).trans ?_) | (refine (ite_cf (by assumption)).trans ?_) | (refine (ite_cf rfl).trans ?_))
        all_goals rfl
      · have : (rowRun wd ht (fun i => lvl i l o) (l - 1).toNat g y 1 (c, lost) (i + 1)).1 = gifts wd ht (xAt wd 1 i) y 1 e ((rowRun wd ht (fun i => lvl i l o) (l - 1).toNat g y 1 (c, lost) i).1.1, (rowRun wd ht (fun i => lvl i l o) (l - 1).toNat g y 1 (c, lost) i).1.2) 4 := by
          rw [he, hidx]; rfl
        rw [this]
        exact S6
      · have : (rowRun wd ht (fun i => lvl i l o) (l - 1).toNat g y 1 (c, lost) (i + 1)).2 = (rowRun wd ht (fun i => lvl i l o) (l - 1).toNat g y 1 (c, lost) i).2.set (xAt wd 1 i).toNat idx := by
          rw [hidx]; rfl
        rw [this]
        exact I8
    case done =>
      intro cc u h tk hP F3 N3
      obtain ⟨S3, e3, I3⟩ := hP
      clear R1 F1 N2
      dsimp only [kstB] at F3 N3
      (try k_fold)
      k_steps
      rename Fr g' L' _ _ => F8
      rename News g' L' _ _ => N8
      refine hQQ _ _ _ ?_
      refine LeaveP.intro F8 N8 ⟨_, _, _, _, rfl, rfl, ?_, S3, e3, I3⟩
      intro q hq
      have : q.1 ∈ led.map (·.1) := e3 ▸ List.mem_map_of_mem hq
      obtain ⟨q', z1, z2⟩ := List.mem_map.mp this
      exact z2 ▸ hoff0 q' z1
  · have hpar : a = (-1) := by
      rename Int.fmod y 2 ≠ 0 => hpr
      rw [Int.fmod_eq_emod_of_nonneg _ (by decide)] at hpr
      rw [← ha]
      rw [if_neg hpr]
    clear ha
    subst hpar
    unfold Halt
    k_dflt (refine' range3_N ?r3F ?r3N ?r3c ?r3p ?_; (case r3F => k_asm); (case r3N => k_asm); (case r3c => decide); (case r3p => first | exact Or.inl (PyProof.noPylong_small (by omega)) | exact Or.inr (PySem.PylongRoom.of (PySem.Heap.NoLimit.keeps (PyProof.Rows.Top.nolimit (by assumption)) (PyProof.Rows.Fr.keep (by assumption))) (of_decide_eq_true (by with_unfolding_all rfl)))))
    intro rr hR tkR tR1 tR2 tR3 FR NR lR
    (try k_lt lR); (try k_sweep)
    k_steps
    unfold Halt
    rename_i l0 hp5 q1 fd hp4 I0 n1 sz1 e1 e2 e3 hlt hp3 hpr0 hp2 hp0 F1 N1
    have R1 := (N1 _ (.head _)).1
    have hoff0 : ∀ q ∈ led, q.1 ≠ fd := by
      intro q hq
      obtain ⟨-, z1, z2, z3, z4⟩ := hlt
      rw [hled] at hq
      rcases List.mem_cons.mp hq with rfl | hq
      · exact Nat.ne_of_lt z1
      rcases List.mem_cons.mp hq with rfl | hq
      · exact Nat.ne_of_lt z2
      rcases List.mem_cons.mp hq with rfl | hq
      · exact Nat.ne_of_lt z3
      · exact Nat.ne_of_lt (allLt_at z4 q hq)
    rw [show (List.replicate (wd : Int).toNat [(0 : Int)]).flatten = List.replicate wd 0 by simp] at I0
    generalize hvs : (List.replicate (wd : Int).toNat [Value.int 0 _]).flatten = vs0 at N1 I0
    have N2 := newsSub N1 (l' := (fd, listOf vs0.toArray 0) :: led) fun p hp => by
      rcases List.mem_cons.mp hp with rfl | hp
      · exact .tail _ (.head _)
      · rw [hled] at hp
        exact .tail _ (.tail _ (.tail _ hp))
    clear N1
    with_unfolding_all refine' loopRange (n := wd) (σ := List (Addr × Obj) × List Value) (fun cc => (fd, listOf cc.2.toArray 0) :: cc.1) (fun _ => []) []
                          (fun i cc => SpL w pl self dx cr l o wd ht (rowRun wd ht (fun i => lvl i l o) (l - 1).toNat g y (-1) (c, lost) i).1.1 (rowRun wd ht (fun i => lvl i l o) (l - 1).toNat g y (-1) (c, lost) i).1.2 cc.1 ∧ cc.1.map (·.1) = led.map (·.1) ∧ IntsAre cc.2 (rowRun wd ht (fun i => lvl i l o) (l - 1).toNat g y (-1) (c, lost) i).2)
                          rfl R1 ?k3 ?k4 F1 N2 ⟨(led, vs0), rfl, all_nil, S, rfl, I0⟩ ?turn ?done
    case k3 => exact small_down (by omega) (by omega) (by omega) (by omega)
    case k4 => (rw [rangeSize_downNat]; (try congr 1); (try omega))
    case turn =>
      intro cc i t u h tk I oI hi hP hoI F3 N3
      first | refine gen_post fun gG gD gO QQ hQQ => ?_ | refine gen_post2 fun gG gD gO QQ hQQ => ?_
      obtain ⟨led3, vs3⟩ := cc
      obtain ⟨S3, e3, I3⟩ := hP
      clear R1 F1 N2
      dsimp only [kstB] at F3 N3 hoI S3 e3 I3
      rw [show (wd : Int) - 1 + (i : Int) * (-1) = xAt wd (-1) i by unfold xAt; rw [if_neg (by decide)]; omega] at F3
      have hoff3 : ∀ q ∈ led3, q.1 ≠ fd := fun q hq => by
        have : q.1 ∈ led.map (·.1) := e3 ▸ List.mem_map_of_mem hq
        obtain ⟨q', z1, z2⟩ := List.mem_map.mp this
        exact z2 ▸ hoff0 q' z1
      have hIfd : @Ne Nat I fd := Ne.symm (hoI _ (.head _))
      have hIl : ∀ q ∈ led3, q.1 ≠ I := fun q hq => hoI q (.tail _ hq)
      have hxi : 0 ≤ xAt wd (-1) i ∧ xAt wd (-1) i < wd := by unfold xAt; rw [if_neg (by decide)]; omega
      have hB3 := rowRun_bound (wd := wd) (ht := ht) (y := y) (a := (-1)) (st := (c, lost)) hb hpx hfb i
      have hB4 := BB_le (k + i) (by omega)
      have hB5 := BB_pos (k + i)
      have hB6 := hB3 (xAt wd (-1) i) y
      have hB7 := hpx (xAt wd (-1) i) y
      have hlen3 := rowRun_len (wd := wd) (ht := ht) (f := fun i => lvl i l o) (n := (l - 1).toNat) (g := g) (y := y) (a := (-1)) (st := (c, lost)) i
      refine exE10 (id S3) ?_
      intro s1 s2 s3 s4 s5 s6 s7 s8 nn2 rows2 hq0
      refine and4 hq0 ?_
      clear hq0
      rintro hcc - - -
      have N4 := newsSub N3 (l' := (self, instObj 181 dx) :: (dx, spDict w pl cr l o (rowRun wd ht (fun i => lvl i l o) (l - 1).toNat g y (-1) (c, lost) i).1.2 s1 s2 s3 s4 s5 s6 s7 s8) :: (cr, listOf ((rows2.map (·.1)).map Value.ref).toArray nn2) :: (fd, listOf vs3.toArray 0) :: (rows2 ++ [(I, oI)])) (by rw [hcc]; k_units)
      clear N3
      (try k_fold)
      k_steps
      unfold Halt
      rename Fr g' L' _ _ => F5
      rename News g' L' _ _ => N5
      have DD : Disj ((fd, listOf vs3.toArray 0) :: [(I, oI)]) led3 := by
        intro p hp q hq
        rcases List.mem_cons.mp hp with rfl | hp
        · exact hoff3 q hq
        · rw [List.mem_singleton.mp hp]; exact hIl q hq
      refine level_spec (px := pxAt g (xAt wd (-1) i) y) B' F5 X' (led := led3) (newsSub N5 (by rw [hcc]; exact regroup4)) T' rfl rfl (by k_dflt ktr_room) DD S3 P0 hg hgr hxi hy hw hh hl ho rfl (by first | exact Or.inl rfl | exact Or.inr rfl) (by omega) ?_
      intro h6 tk6 t6 led6 idx e hidx he F6 N6 S6 e6
      have N7 := newsSub N6 (l' := (fd, listOf vs3.toArray 0) :: (I, oI) :: led6) (by k_units)
      have hoff6 : ∀ q ∈ led6, q.1 ≠ fd := fun q hq => by
        have : q.1 ∈ led3.map (·.1) := e6 ▸ List.mem_map_of_mem hq
        obtain ⟨q', z1, z2⟩ := List.mem_map.mp this
        exact z2 ▸ hoff3 q' z1
      have hI6 : ∀ q ∈ led6, q.1 ≠ I := fun q hq => by
        have : q.1 ∈ led3.map (·.1) := e6 ▸ List.mem_map_of_mem hq
        obtain ⟨q', z1, z2⟩ := List.mem_map.mp this
        exact z2 ▸ hIl q' z1
      clear N5 N6 F5
      k_steps
      rename Fr g' L' _ _ => F8
      rename News g' L' _ _ => N8
      rename IntsAre _ _ => I8
      refine hQQ _ _ _ (TurnPost.next ?_)
      refine TurnEnd.intro (led6, vs3.set (xAt wd (-1) i).toNat (.int idx t6)) F8 N8 ?_ ?_ all_nil ?_ ⟨?_, e6.trans e3, ?_⟩
      · k_units
      · intro q hq
        rcases List.mem_cons.mp hq with rfl | hq
        · exact Ne.symm hIfd
        · exact hI6 q hq
      · intro z z1 _ _
        (repeat first | with_reducible rfl | (refine (upd_ne (by assumption)).trans ?_) | (refine (if_neg (by assumption)).trans ?_) | (refine (ite_cf (by assumption)).trans ?_) | (refine (ite_cf rfl).trans ?_))
        all_goals rfl
      · have : (rowRun wd ht (fun i => lvl i l o) (l - 1).toNat g y (-1) (c, lost) (i + 1)).1 = gifts wd ht (xAt wd (-1) i) y (-1) e ((rowRun wd ht (fun i => lvl i l o) (l - 1).toNat g y (-1) (c, lost) i).1.1, (rowRun wd ht (fun i => lvl i l o) (l - 1).toNat g y (-1) (c, lost) i).1.2) 4 := by
          rw [he, hidx]; rfl
        rw [this]
        exact S6
      · have : (rowRun wd ht (fun i => lvl i l o) (l - 1).toNat g y (-1) (c, lost) (i + 1)).2 = (rowRun wd ht (fun i => lvl i l o) (l - 1).toNat g y (-1) (c, lost) i).2.set (xAt wd (-1) i).toNat idx := by
          rw [hidx]; rfl
        rw [this]
        exact I8
    case done =>
      intro cc u h tk hP F3 N3
      obtain ⟨S3, e3, I3⟩ := hP
      clear R1 F1 N2
      dsimp only [kstB] at F3 N3
      (try k_fold)
      k_steps
      rename Fr g' L' _ _ => F8
      rename News g' L' _ _ => N8
      refine hQQ _ _ _ ?_
      refine LeaveP.intro F8 N8 ⟨_, _, _, _, rfl, rfl, ?_, S3, e3, I3⟩
      intro q hq
      have : q.1 ∈ led.map (·.1) := e3 ▸ List.mem_map_of_mem hq
      obtain ⟨q', z1, z2⟩ := List.mem_map.mp this
      exact z2 ▸ hoff0 q' z1
end
end
section
section
variable {prog : Program} {w : World} {A : Around} {s : Shared} {h₀ : Heap} {L : Addr} {m : Str → Option Value} {env : Env}
theorem compRest_of {elt : Expr} {x : Str} {scope : Scope} {cl : List (Str × Addr)} {S : List (Addr × Obj) → Prop} {P : Nat → Value → Prop} {Fin : List Value → List (Addr × Obj) → Prop} {n : Nat}
    (J : Nat → List Value → List (Addr × Obj) → Prop)
    (step : ∀ i ys news v I oI C oC D m₂ h tk (E' : Value → Shared → Prop), i < n → J i ys news → P i v → LCg.NsObj oC m₂ → m₂ x = some v → Fr h₀ L h m → News h₀ L h ((I, oI) :: (C, oC) :: (D, LCg.lst ys) :: news) → LCg.Off3 I C D news → ((@Ne Nat I C) ∧ (@Ne Nat I D) ∧ (@Ne Nat C D)) →
      wpAny (model prog w) A (eval elt (compEnvC scope cl C env)) (LCg.CompEnd h₀ L m { s with heap := h, toks := tk } I oI C oC D (LCg.lst ys) S (fun y news' => J (i + 1) (ys ++ [y]) news')) E' { s with heap := h, toks := tk })
    (fin : ∀ ys news, J n ys news → Fin ys news) :
    ∀ k i ys news, i + k = n → J i ys news → LCg.CompRest prog w A h₀ L m env elt x scope cl s S P Fin k i ys news
  | 0, i, ys, news, hi, hJ => fin ys news (by rw [show n = i by omega]; exact hJ)
  | k + 1, i, ys, news, hi, hJ => by
    refine LCg.CompRest.succ fun v I oI C oC D m₂ h tk E' hP hC hx F N off ne => ?_
    refine wpAny_mono (step i ys news v I oI C oC D m₂ h tk E' (by omega) hJ hP hC hx F N off ne) (fun y s₂ q => ?_) fun _ _ e => e
    obtain ⟨h', tk', news', rfl, F', N', off', hS, hJ'⟩ := q
    exact ⟨h', tk', news', rfl, F', N', off', hS, compRest_of J step fin k (i + 1) (ys ++ [y]) news' (by omega) hJ'⟩
theorem ld_free {M : Model} {E : Value → Shared → Prop} {news : List (Addr × Obj)} {scope : Scope} {cl : List (Str × Addr)} {x : Str} {pos : Pos} {v : Value} {c C : Addr} {o : Obj} {Q : Value → Shared → Prop}
    (N : News h₀ L s.heap news) (hc : cl.lookup x = some c) (hm : (c, o) ∈ news) (hd : o.data = .cell (some v)) (h : Q v s)
    (hk : (compEnvC scope cl C env).scope.kind = .function := by rfl) (hx : (compEnvC scope cl C env).kindOf x = some .free := by rfl) (hb : (x == ("__debug__" : Str)) = false := by decide) (hn : (x == ("__classdict__" : Str)) = false := by decide) :
    wpAny M A (eval (.Name x pos) (compEnvC scope cl C env)) Q E s := wpAny_Name (wpAny_loadName_free hk hx hc ⟨o, N.get hm, hd⟩ h hn) hb
end
noncomputable def RowsAre (Pr : Nat → List Int → Prop) (rowsL : List (Addr × Obj)) : Prop := ∀ (j : Nat) p, rowsL[j]? = some p → ∃ (vs : List Value) (k : Nat) (ns : List Int), p.2 = listOf vs.toArray k ∧ IntsAre vs ns ∧ Pr j ns
theorem RowsAre.snoc {Pr : Nat → List Int → Prop} {rowsL : List (Addr × Obj)} {q : Addr} {vs : List Value} {k : Nat} {ns : List Int} (h : RowsAre Pr rowsL) (I : IntsAre vs ns) (P : Pr rowsL.length ns) : RowsAre Pr (rowsL ++ [(q, listOf vs.toArray k)]) := by
  intro j p hj
  rcases Nat.lt_or_ge j rowsL.length with h1 | h1
  · rw [List.getElem?_append_left h1] at hj
    exact h j p hj
  · rw [List.getElem?_append_right h1] at hj
    rcases Nat.eq_zero_or_pos (j - rowsL.length) with e | e
    · rw [e] at hj
      simp only [List.getElem?_cons_zero, Option.some.injEq] at hj
      subst hj
      have : j = rowsL.length := by omega
      subst this
      exact ⟨vs, k, ns, rfl, I, P⟩
    · obtain ⟨d, hd⟩ : ∃ d, j - rowsL.length = d + 1 := ⟨j - rowsL.length - 1, by omega⟩
      rw [hd] at hj
      simp at hj
noncomputable def JRows (B0 : Nat) (Pr : Nat → List Int → Prop) (base : List (Addr × Obj)) (i : Nat) (ys : List Value) (nw : List (Addr × Obj)) : Prop :=
  ∃ rowsL : List (Addr × Obj), rowsL.length = i ∧ ys = (rowsL.map (·.1)).map Value.ref ∧ RowsAre Pr rowsL ∧ nw = rowsL ++ base ∧ (rowsL.map (·.1)).Nodup ∧ ∀ p ∈ rowsL, @LT.lt Nat _ B0 p.1
theorem JRows.nil {B0 : Nat} {Pr : Nat → List Int → Prop} {base : List (Addr × Obj)} : JRows B0 Pr base 0 [] base := ⟨[], rfl, rfl, (fun _ _ h => by simp at h), rfl, List.nodup_nil, all_nil⟩
theorem nodup_snoc {α : Type} {l : List α} {a : α} (h : l.Nodup) (ha : a ∉ l) : (l ++ [a]).Nodup := by
  rw [List.nodup_append]
  exact ⟨h, by simp, fun x hx y hy e => ha (by rw [List.mem_singleton.mp hy] at e; exact e ▸ hx)⟩
theorem jrows_end {B0 : Nat} {Pr : Nat → List Int → Prop} {base all : List (Addr × Obj)} {i : Nat} {rowsL : List (Addr × Obj)} {g h : Heap} {L I C D q : Addr} {m : Str → Option Value} {s₁ : Shared} {oI oC oD : Obj} {vs : List Value} {k : Nat} {ns : List Int} {tk : Nat}
    (hlen : rowsL.length = i) (hrows : RowsAre Pr rowsL) (hnd : (rowsL.map (·.1)).Nodup) (hlt : ∀ p ∈ rowsL, @LT.lt Nat _ B0 p.1)
    (F : Fr g L h m) (N : News g L h all) (sub : ∀ p ∈ (q, listOf vs.toArray k) :: (I, oI) :: (C, oC) :: (D, oD) :: (rowsL ++ base), p ∈ all) (I0 : IntsAre vs ns) (P : Pr i ns)
    (off : LCg.Off3 I C D (rowsL ++ base)) (hI : @LT.lt Nat _ I q) (hC : @LT.lt Nat _ C q) (hD : @LT.lt Nat _ D q) (hB : @LT.lt Nat _ B0 q) (hq : ∀ p ∈ rowsL, p.1 < q) :
    LCg.CompEnd g L m s₁ I oI C oC D oD (fun _ => True) (fun y nw => JRows B0 Pr base (i + 1) ((rowsL.map (·.1)).map Value.ref ++ [y]) nw) (.ref q) { s₁ with heap := h, toks := tk } := by
  refine LCg.CompEnd.intro F N ((rowsL ++ [(q, listOf vs.toArray k)]) ++ base) (fun p hp => sub p ?_) (LCg.Off3.of fun p hp => ?_) trivial
    ⟨rowsL ++ [(q, listOf vs.toArray k)], by simp [hlen], by simp, hrows.snoc I0 (hlen ▸ P), rfl, ?_, ?_⟩
  · revert p; k_units
  · have hp' : p ∈ rowsL ++ base ∨ p = (q, listOf vs.toArray k) := by
      simp only [List.mem_append, List.mem_cons, List.not_mem_nil, or_false] at hp ⊢
      rcases hp with (h | h) | h <;> simp [h]
    rcases hp' with h | rfl
    · exact off.mem p h
    · exact ⟨Nat.ne_of_gt hI, Nat.ne_of_gt hC, Nat.ne_of_gt hD⟩
  · rw [List.map_append]
    exact nodup_snoc hnd fun hm => by
      obtain ⟨p, hp, e⟩ := List.mem_map.mp hm
      exact absurd (hq p hp) (by show ¬ @LT.lt Nat _ p.1 q; rw [show p.1 = q from e]; exact Nat.lt_irrefl _)
  · intro p hp
    rcases List.mem_append.mp hp with hp | hp
    · exact hlt p hp
    · rw [List.mem_singleton.mp hp]; exact hB
theorem off1_mem {D : Addr} : ∀ {l : List (Addr × Obj)}, LCg.Off1 D l → ∀ p ∈ l, @Ne Nat p.1 D
  | [], _, _, h => nomatch h
  | _ :: _, x, p, h => by
    rcases List.mem_cons.mp h with rfl | h
    · exact x.1
    · exact off1_mem x.2 p h
theorem reorder3 {α : Type} {a b c d : α} {r : List α} : ∀ p ∈ c :: d :: a :: b :: r, p ∈ a :: (r ++ [b, c, d]) := by
  intro p hp
  revert p; k_units
end
local macro_rules | `(tactic| walk_at "eval Name") => `(tactic| (k_here; (with_reducible show wpAny _ _ (eval (Expr.Name _ _) (compEnvC _ _ _ _)) _ _ _); k_dflt (refine ld_free (by k_asm) (by rfl) (by k_mem) (by assumption) ?_)))
section
theorem spl_make {w : World} {g h : Heap} {L self dx D pl : Addr} {l o : Int} {t1 t2 t3 t4 t5 tl tm tz : Tok} {nn wd ht : Nat} {rowsL : List (Addr × Obj)} {co : Addr × Obj}
    (N5 : News g L h ((self, instObj 181 dx) :: (dx, spDict w pl D l o 0 t1 t2 t3 t4 t5 tl tm tz) :: (D, listOf ((rowsL.map (·.1)).map Value.ref).toArray nn) :: co :: rowsL))
    (hlen : rowsL.length = ht) (hrows : RowsAre (fun _ ns => ns = List.replicate wd 0) rowsL) (hnd : (rowsL.map (·.1)).Nodup) (l2 : @Ne Nat self dx) (d1 : @Ne Nat self D) (d2 : @Ne Nat dx D)
    (e1 : ∀ q ∈ rowsL, q.1 ≠ self) (e2 : ∀ q ∈ rowsL, q.1 ≠ dx) (d3 : ∀ q ∈ rowsL, q.1 ≠ D) :
    ∃ led, News g L h led ∧ SpL w pl self dx D l o wd ht (fun _ _ => 0) 0 led := by
  have hzero : ∀ y : Int, rowInts wd (fun _ _ => 0) y = List.replicate wd 0 := fun y => by
    unfold rowInts
    rw [List.map_const', List.length_range]
  refine ⟨_, newsSub N5 (l' := (self, instObj 181 dx) :: (dx, spDict w pl D l o 0 t1 t2 t3 t4 t5 tl tm tz) :: (D, listOf ((rowsL.map (·.1)).map Value.ref).toArray nn) :: rowsL) fun p hp => ?_, t1, t2, t3, t4, t5, tl, tm, tz, nn, rowsL, rfl, hlen, ?_, ?_⟩
  · revert p; k_units
  · intro j p hj
    obtain ⟨vs, k, ns, z1, z2, z3⟩ := hrows j p hj
    exact ⟨vs, k, z1, by rw [hzero, ← z3]; exact z2⟩
  · simp only [List.map_cons, List.nodup_cons, List.mem_cons, not_or]
    refine ⟨⟨l2, d1, fun hm => ?_⟩, ⟨d2, fun hm => ?_⟩, fun hm => ?_, hnd⟩
    · obtain ⟨q, z1, z2⟩ := List.mem_map.mp hm
      exact e1 q z1 z2
    · obtain ⟨q, z1, z2⟩ := List.mem_map.mp hm
      exact e2 q z1 z2
    · obtain ⟨q, z1, z2⟩ := List.mem_map.mp hm
      exact d3 q z1 z2
section
variable {prog : Program} {w : World} {p : Program} {loose : List Str} {mean : ExcName → Option Value} {mg mb : Str → Option Value} {dp un : Nat} {gd : Option (List Code)} {env : Env} {outer : List Env} {A₀ : Around} {base h₀ : Heap} {L : Addr} {m : Str → Option Value} {news : List (Addr × Obj)} {s : Shared}
  {Q E : Value → Shared → Prop} {R : Result → Shared → Prop}
  (B : Below A₀ base outer h₀) (F : Fr h₀ L s.heap m) (X : (hd.heap_1 w.params).In h₀) (T : Top p loose mean mg mb h₀) (hf : env.frame = some L) (hk : env.scope.kind = .function)
include B F X T hf hk
theorem spInit_code {pl self dx : Addr} {l o : Int} {tl tm : Tok} {wd ht : Nat} {g : List (List Int)} (hroom : dp < recursionLimit) (N : News h₀ L s.heap [(self, instObj 181 dx), (dx, dictOf [] 0)]) (hne : self ≠ dx)
    (P : PlaneAt w h₀ pl wd ht g) (hw : wd ≤ 1000) (hh : ht ≤ 1000)
    (ret : ∀ h' tk' led, Fr h₀ L h' m → News h₀ L h' led → Stays s.heap h' [(self, instObj 181 dx), (dx, dictOf [] 0)] → (∀ p ∈ led, (∀ q ∈ [(self, instObj 181 dx), (dx, dictOf [] 0)], q.1 ≠ p.1) → s.heap.get? p.1 = none) →
      (∃ cr, SpL w pl self dx cr l o wd ht (fun _ _ => 0) 0 led) → R (.ok (.ret .none)) { s with heap := h', toks := tk' }) :
    codeAny (model prog w) (AA dp un gd env outer) (.call (.ref 157) ⟨[.ref self, .ref pl, .int l tl, .int o tm], []⟩) R s := by
  refine' enterCodeC (binds := [("self", .ref self), ("plane", .ref pl), ("levels", .int l tl), ("most", .int o tm)]) (fun v nw => v = .none ∧ ∃ cr, SpL w pl self dx cr l o wd ht (fun _ _ => 0) 0 nw) B F X N T hf hk ?ret ?k6 ?k7 ?k8 ?k9 ?kB ?kD ?_ ?c2 ?c3 ?c4
  case ret =>
    rintro v h' tk' nw F' N' st fr ⟨rfl, hS⟩
    exact ret h' tk' nw F' N' st fr hS
  (case k6 => k_dflt k_is); (case k7 => k_dflt k_is); (case k8 => k_dflt ktr_room); (case k9 => exact BindsTo.of_eq rfl); (case kB => first | exact locs rfl | exact rfl); (case c2 => rfl); (case c3 => rfl); (case c4 => rfl); (try case c5 => decide); (try case kD => decide +kernel)
  intro g' L' h' tk' cells' FG' F' N' Y' B' X' T' l1 st'
  first | refine gen_post fun gG gD gO QQ hQQ => ?_ | refine gen_post2 fun gG gD gO QQ hQQ => ?_
  replace P := P.keep FG'.keep
  clear B F X N T ret hf hk
  obtain ⟨co, hE, d1⟩ := CellsAre.one Y'
  subst hE
  clear Y'
  replace d1 : co.data = .cell (some (.ref pl)) := d1
  refine exE7 P ?_
  clear P
  intro dpl rl u1 u2 u3 uw uh hq0
  refine and3 hq0 ?_
  clear hq0
  rintro hP1 hP2 -
  simp only [List.cons_append, List.nil_append] at N'
  have l2 : @Ne Nat self dx := hne
  have l3 := l1 _ (.head _)
  have l4 := l1 _ (.tail _ (.head _))
  replace l3 : @LT.lt Nat _ self L' := l3
  replace l4 : @LT.lt Nat _ dx L' := l4
  (try dsimp only); (try k_fold)
  k_steps
  unfold Halt
  rename Fr g' L' _ _ => F1
  rename News g' L' _ _ => N1
  refine LCg.ListComp_U (cl := [("plane", L' + 1)]) (F₀ := F1) (by rfl) (by decide) (by rfl) (by decide) (by rfl) ?_
  k_steps
  unfold Halt
  rename Fr g' L' _ _ => F2
  rename News g' L' _ _ => N2
  rename IsRange _ _ _ _ _ _ _ _ => R2
  refine LCg.CompSrc.range (by rfl) F2 N2 R2 (small_one (by omega) (by omega) (by omega) (by omega)) (n := ht) (by rw [rangeSize_nat]; (try congr 1); (try omega)) (by rw [sizeLine_eq]; omega) ?_
  intro gg
  refine compRest_of (n := ht) (JRows (L' + 1) (fun _ ns => ns = List.replicate wd 0) _) ?step ?fin ht 0 [] _ (by omega) JRows.nil
  case step =>
    intro i ys nw v I oI C oC D m₂ h tk E' hi hJ hP hC hx F3 N3 off ne
    refine Exists.elim hJ ?_
    clear hJ
    intro rowsL hq0
    refine and6 hq0 ?_
    clear hq0
    rintro hlen rfl hrows rfl hnd hlt
    have N4 := newsSub N3 (l' := (L' + 1, co) :: (I, oI) :: (C, oC) :: (D, LCg.lst ((rowsL.map (·.1)).map Value.ref)) :: (rowsL ++ _)) fun p hp => by
      rcases List.mem_cons.mp hp with rfl | hp
      · exact .tail _ (.tail _ (.tail _ (List.mem_append_right _ (.head _))))
      · exact hp
    clear N3
    (try k_fold)
    k_steps
    rename_i q0 hpa Fa Na la q hpb Fb Nb Ib nb sb eb1 eb2 eb3 lb
    obtain ⟨lb1, lb2, lb3, lb4, lb5, lb6⟩ := lb
    rw [show (List.replicate (wd : Int).toNat [(0 : Int)]).flatten = List.replicate wd 0 by simp] at Ib
    exact jrows_end hlen hrows hnd hlt Fb Nb (fun p hp => by
      rcases List.mem_cons.mp hp with rfl | hp
      · exact .head _
      · exact .tail _ (.tail _ (.tail _ hp))) Ib rfl off lb3 lb4 lb5 lb2 (fun p hp => allLt_at lb6 p (List.mem_append_left _ hp))
  case fin =>
    intro ys nw hJ
    refine Exists.elim hJ ?_
    clear hJ
    intro rowsL hq0
    refine and6 hq0 ?_
    clear hq0
    rintro hlen rfl hrows rfl hnd hlt
    intro D h tk F3 N3 o1
    have o2 := off1_mem o1
    have d1 : @Ne Nat self D := o2 (self, _) (List.mem_append_right _ (.tail _ (.head _)))
    have d2 : @Ne Nat dx D := o2 (dx, _) (List.mem_append_right _ (.tail _ (.tail _ (.head _))))
    have d3 : ∀ q ∈ rowsL, q.1 ≠ D := fun q hq => o2 q (List.mem_append_left _ hq)
    have e1 : ∀ q ∈ rowsL, q.1 ≠ self := fun q hq => Nat.ne_of_gt (Nat.lt_trans (Nat.lt_succ_of_lt l3) (hlt q hq))
    have e2 : ∀ q ∈ rowsL, q.1 ≠ dx := fun q hq => Nat.ne_of_gt (Nat.lt_trans (Nat.lt_succ_of_lt l4) (hlt q hq))
    have N4 := newsSub N3 reorder3
    clear N3 o1 o2
    (try k_fold)
    k_steps
    rename Fr g' L' _ _ => F5
    rename News g' L' _ _ => N5
    obtain ⟨led, r1, r2⟩ := spl_make (pl := pl) (l := l) (o := o) N5 hlen hrows hnd l2 d1 d2 e1 e2 d3
    refine hQQ _ _ _ ?_
    exact LeaveP.intro F5 r1 ⟨rfl, D, r2⟩
end
end
section
noncomputable def planeRun (wd ht : Nat) (f : Int → Int) (n : Nat) (g : List (List Int)) : Nat → CSt × List (List Int)
  | 0 => ((fun _ _ => 0, 0), [])
  | y + 1 => ((rowRun wd ht f n g y (if (y : Int) % 2 = 0 then 1 else -1) (planeRun wd ht f n g y).1 wd).1, (planeRun wd ht f n g y).2 ++ [(rowRun wd ht f n g y (if (y : Int) % 2 = 0 then 1 else -1) (planeRun wd ht f n g y).1 wd).2])
theorem planeRun_bound {wd ht : Nat} {f : Int → Int} {n : Nat} {g : List (List Int)} (hp : ∀ x y, 0 ≤ pxAt g x y ∧ pxAt g x y ≤ 300) (hf : ∀ i : Int, 0 ≤ i → i ≤ n → 0 ≤ f i ∧ f i ≤ 100000) :
    ∀ y, Bd (BB (y * wd)) (planeRun wd ht f n g y).1.1
  | 0 => fun x y => by
    show -BB (0 * wd) ≤ (0 : Int) ∧ (0 : Int) ≤ BB (0 * wd)
    rw [Nat.zero_mul]
    exact ⟨Int.le_refl _, Int.le_refl _⟩
  | y + 1 => by
    rw [Nat.succ_mul]
    exact rowRun_bound (planeRun_bound hp hf y) hp hf wd
theorem planeRun_len {wd ht : Nat} {f : Int → Int} {n : Nat} {g : List (List Int)} : ∀ y, (planeRun wd ht f n g y).2.length = y
  | 0 => rfl
  | y + 1 => by
    show ((planeRun wd ht f n g y).2 ++ [_]).length = y + 1
    rw [List.length_append, planeRun_len y, List.length_singleton]
theorem rowsAre_snoc2 {A : List (List Int)} {r : List Int} {rowsL : List (Addr × Obj)} {q : Addr} {vs : List Value} {k : Nat} (h : RowsAre (fun j ns => A[j]? = some ns) rowsL) (hl : rowsL.length = A.length) (I : IntsAre vs r) :
    RowsAre (fun j ns => (A ++ [r])[j]? = some ns) (rowsL ++ [(q, listOf vs.toArray k)]) := by
  refine RowsAre.snoc (ns := r) (fun j p hj => ?_) I ?_
  · obtain ⟨vs', k', ns', z1, z2, z3⟩ := h j p hj
    refine ⟨vs', k', ns', z1, z2, ?_⟩
    have : j < A.length := (List.getElem?_eq_some_iff.mp z3).1
    show (A ++ [r])[j]? = some ns'
    rw [List.getElem?_append_left this]
    exact z3
  · show (A ++ [r])[rowsL.length]? = some r
    rw [hl]
    simp
theorem addr_off {l l' : List (Addr × Obj)} {a : Addr} (h : ∀ q ∈ l, q.1 ≠ a) (e : l'.map (·.1) = l.map (·.1)) : ∀ q ∈ l', q.1 ≠ a := fun q hq => by
  have : q.1 ∈ l.map (·.1) := e ▸ List.mem_map_of_mem hq
  obtain ⟨q', z1, z2⟩ := List.mem_map.mp this
  exact z2 ▸ h q' z1
noncomputable def PlaneL (w : World) (pl : Addr) (wd ht : Nat) (g : List (List Int)) (led : List (Addr × Obj)) : Prop :=
  ∃ (dpl rl : Addr) (t1 t2 t3 tw th : Tok) (nn : Nat) (rowsL : List (Addr × Obj)),
    led = (pl, instObj 84 dpl) :: (dpl, dictOf [⟨PyData.keyHash w.params "width", .str "width" t1, .int wd tw⟩, ⟨PyData.keyHash w.params "height", .str "height" t2, .int ht th⟩, ⟨PyData.keyHash w.params "rows", .str "rows" t3, .ref rl⟩] 3) :: (rl, listOf ((rowsL.map (·.1)).map Value.ref).toArray nn) :: rowsL ∧
    rowsL.length = g.length ∧ RowsAre (fun j ns => g[j]? = some ns) rowsL
theorem PlaneL.at {w : World} {pl : Addr} {wd ht : Nat} {g : List (List Int)} {led : List (Addr × Obj)} {h₀ h : Heap} {L : Addr} (P : PlaneL w pl wd ht g led) (N : News h₀ L h led) : PlaneAt w h pl wd ht g := by
  obtain ⟨dpl, rl, t1, t2, t3, tw, th, nn, rowsL, rfl, hlen, hrows⟩ := P
  refine ⟨dpl, rl, t1, t2, t3, tw, th, (N _ (.head _)).1, (N _ (.tail _ (.head _))).1, rowsL.map (·.1), listNews N (.tail _ (.tail _ (.head _))), by simpa using hlen, fun y a ns ha hns => ?_⟩
  rw [List.getElem?_map] at ha
  cases hp : rowsL[y]? with
  | none => rw [hp] at ha; cases ha
  | some p =>
    rw [hp] at ha
    obtain rfl : p.1 = a := Option.some.inj ha
    obtain ⟨vs, k, ns', z1, z2, z3⟩ := hrows y p hp
    obtain rfl : ns' = ns := Option.some.inj (z3.symm.trans hns)
    exact ⟨vs, listNews N (n := k) (.tail _ (.tail _ (.tail _ (z1 ▸ List.mem_of_getElem? hp)))), z2⟩
section
variable {prog : Program} {w : World} {p : Program} {loose : List Str} {mean : ExcName → Option Value} {mg mb : Str → Option Value} {dp un : Nat} {gd : Option (List Code)} {env : Env} {outer : List Env} {A₀ : Around} {base h₀ : Heap} {L : Addr} {m : Str → Option Value} {news : List (Addr × Obj)} {s : Shared}
  {Q E : Value → Shared → Prop}
  (B : Below A₀ base outer h₀) (F : Fr h₀ L s.heap m) (X : (hd.heap_1 w.params).In h₀) (N : News h₀ L s.heap news) (T : Top p loose mean mg mb h₀) (hf : env.frame = some L) (hk : env.scope.kind = .function)
include B F X N T hf hk
theorem check_spec {l o : Int} {tl tm : Tok} (hroom : dp + 1 < recursionLimit) (hl : 2 ≤ l ∧ l ≤ o + 1)
    (ret : ∀ h' tk', Fr h₀ L h' m → News h₀ L h' news → Q .none { s with heap := h', toks := tk' }) :
    wpAny (model prog w) (AA dp un gd env outer) (call (.ref 121) [.int l tl, .int o tm]) Q E s := by
  refine' enter (binds := [("levels", .int l tl), ("most", .int o tm)]) (fun v _ => v = .none) B F X (core := []) all_nil T hf hk (fun v h' tk' nw F' _ st _ e => by subst e; exact ret h' tk' F' (newsRest N st fun _ _ => all_nil)) ?k6 ?k7 ?k8 ?k9 ?kB ?_ ?c2 ?c3 ?c4 ?c5
  (case k6 => k_dflt k_is); (case k7 => k_dflt k_is); (case k8 => k_dflt ktr_room); (case k9 => exact BindsTo.of_eq rfl); (case kB => first | exact locs rfl | exact rfl); (case c2 => rfl); (case c3 => rfl); (case c4 => rfl); (try case c5 => decide); (try case kD => decide +kernel)
  clear B F X N T ret hf hk
  intro g' L' h' FG' F' N' B' X' T' l1 st'
  first | refine gen_post fun gG gD gO QQ hQQ => ?_ | refine gen_post2 fun gG gD gO QQ hQQ => ?_
  (try dsimp only); (try k_fold)
  k_steps
  refine hQQ _ _ _ ?_
  exact LeaveP.intro (by assumption) (by assumption) rfl
theorem plane_spec {a b c : Value} (hroom : dp + 2 < recursionLimit) (ha : ∀ x, a = .ref x → False := by intro x e; cases e) (hb : ∀ x, b = .ref x → False := by intro x e; cases e)
    (ret : ∀ h' tk' npl dnp t1 t2 t3, Fr h₀ L h' m → News h₀ L h' ((npl, instObj 84 dnp) :: (dnp, dictOf [⟨PyData.keyHash w.params "width", .str "width" t1, a⟩, ⟨PyData.keyHash w.params "height", .str "height" t2, b⟩, ⟨PyData.keyHash w.params "rows", .str "rows" t3, c⟩] 3) :: news) →
      (∀ p ∈ news, p.1 < dnp) → @LT.lt Nat _ dnp npl → Q (.ref npl) { s with heap := h', toks := tk' }) :
    wpAny (model prog w) (AA dp un gd env outer) (call (.ref 84) [a, b, c]) Q E s := by
  k_dflt (refine' call_cls F X N ?m1 ?m2 ?m3 ?m4; (case m1 => k_is); (case m2 => k_is); (case m3 => k_is))
  intro x dx h2 F2 N2 la lb
  replace lb : @LT.lt Nat _ dx x := lb
  have N3 : News h₀ L h2 [(x, instObj 84 dx), (dx, dictOf [] 0)] := newsSub N2 fun p hp => by
    rcases List.mem_cons.mp hp with rfl | hp
    · exact .head _
    · rw [List.mem_singleton.mp hp]; exact .tail _ (.head _)
  k_dflt (refine' enterCode (binds := [("self", .ref x), ("width", a), ("height", b), ("rows", c)]) (fun v nw => v = .none ∧ ∃ t1 t2 t3, nw = [(x, instObj 84 dx), (dx, dictOf [⟨PyData.keyHash w.params "width", .str "width" t1, a⟩, ⟨PyData.keyHash w.params "height", .str "height" t2, b⟩, ⟨PyData.keyHash w.params "rows", .str "rows" t3, c⟩] 3)]) B F2 X N3 T hf hk ?ret ?k6 ?k7 ?k8 ?k9 ?kB ?_ ?c2 ?c3 ?c4 ?c5)
  case ret =>
    rintro v h' tk' nw F' N' st _ ⟨rfl, t1, t2, t3, rfl⟩
    have NR : News h₀ L h' news := newsRest (newsSub N2 fun p hp => .tail _ (.tail _ hp)) st fun p hp q hq => by
      have lp := la p hp
      rcases List.mem_cons.mp hq with rfl | hq
      · exact Nat.ne_of_gt (Nat.lt_trans lp lb)
      · rw [List.mem_singleton.mp hq]; exact Nat.ne_of_gt lp
    exact ⟨rfl, ret h' tk' x dx t1 t2 t3 F' (newsApp N' NR) la lb⟩
  case k8 => (change dp + 1 < recursionLimit; omega)
  case k6 => k_dflt k_is
  case k7 => k_dflt k_is
  case k9 => exact BindsTo.of_eq rfl
  case c5 => decide
  case kB => exact locs rfl
  case c2 => exact rfl
  case c3 => exact rfl
  case c4 => exact rfl
  clear B F X N T ret hf hk F2 N2 la N3
  intro g' L' h' FG' F' N' B' X' T' l1 st'
  first | refine gen_post fun gG gD gO QQ hQQ => ?_ | refine gen_post2 fun gG gD gO QQ hQQ => ?_
  have l2 : @Ne Nat x dx := Nat.ne_of_gt lb
  (try dsimp only); (try k_fold)
  k_steps
  refine hQQ _ _ _ ?_
  exact LeaveP.intro (by assumption) (by assumption) ⟨rfl, _, _, _, rfl⟩
local macro_rules | `(tactic| walk_at "exec Assign cons ListComp") => `(tactic| refine halt ?_)
theorem spreadPlane_spec {pl : Addr} {l o : Int} {tl tm : Tok} {wd ht : Nat} {g : List (List Int)} (hroom : dp + 6 < recursionLimit) (P : PlaneAt w s.heap pl wd ht g)
    (hg : g.length = ht) (hgr : ∀ (j : Nat) ns, g[j]? = some ns → ns.length = wd) (hl : 2 ≤ l ∧ l ≤ 300) (ho : 1 ≤ o ∧ o ≤ 300) (hlo : l ≤ o + 1) (hpx : ∀ x y, 0 ≤ pxAt g x y ∧ pxAt g x y ≤ 300) (h20 : ht * wd ≤ 20) (hw : wd ≤ 20) (hh : ht ≤ 20)
    (ret : ∀ h' tk' tp npl tz n led, Fr h₀ L h' m → News h₀ L h' ((tp, { cls := .type "tuple", data := .seq [.ref npl, .int (planeRun wd ht (fun i => lvl i l o) (l - 1).toNat g ht).1.2 tz].toArray n }) :: (led ++ news)) →
      (∀ p ∈ news, p.1 ≠ tp) → (∀ p ∈ news, ∀ q ∈ led, q.1 ≠ p.1) → PlaneL w npl wd ht (planeRun wd ht (fun i => lvl i l o) (l - 1).toNat g ht).2 led → Q (.ref tp) { s with heap := h', toks := tk' }) :
    wpAny (model prog w) (AA dp un gd env outer) (call (.ref 190) [.ref pl, .int l tl, .int o tm]) Q E s := by
  refine' enterC (binds := [("plane", .ref pl), ("levels", .int l tl), ("most", .int o tm)]) (fun v nw => ∃ tp npl tz n led, v = .ref tp ∧ nw = (tp, { cls := .type "tuple", data := .seq [.ref npl, .int (planeRun wd ht (fun i => lvl i l o) (l - 1).toNat g ht).1.2 tz].toArray n }) :: led ∧ PlaneL w npl wd ht (planeRun wd ht (fun i => lvl i l o) (l - 1).toNat g ht).2 led) B F X (core := []) all_nil T hf hk ?ret ?k6 ?k7 ?k8 ?k9 ?kB ?kD ?_ ?c2 ?c3 ?c4
  case ret =>
    rintro v h' tk' nw F' N' st fr ⟨tp, npl, tz, n, led, rfl, rfl, hP⟩
    exact ret h' tk' tp npl tz n led F' (newsApp N' (newsRest N st fun _ _ => all_nil)) (newsOff N (fr _ (.head _) all_nil)) (fun p hp q hq e => newsOff N (fr q (.tail _ hq) all_nil) p hp e.symm) hP
  (case k6 => k_dflt k_is); (case k7 => k_dflt k_is); (case k8 => k_dflt ktr_room); (case k9 => exact BindsTo.of_eq rfl); (case kB => first | exact locs rfl | exact rfl); (case c2 => rfl); (case c3 => rfl); (case c4 => rfl); (try case c5 => decide); (try case kD => decide +kernel)
  intro g' L' h' tk' cells' FG' F' N' Y' B' X' T' l1 st'
  first | refine gen_post fun gG gD gO QQ hQQ => ?_ | refine gen_post2 fun gG gD gO QQ hQQ => ?_
  replace P := P.keep st'.nil
  clear B F X N T ret hf hk
  obtain ⟨co, hE, d1⟩ := CellsAre.one Y'
  subst hE
  clear Y'
  have P0 := P
  refine exE7 P ?_
  clear P
  intro dpl rl u1 u2 u3 uw uh hq0
  refine and3 hq0 ?_
  clear hq0
  rintro hP1 hP2 -
  simp only [List.cons_append, List.nil_append] at N'
  (try dsimp only); (try k_fold)
  k_steps
  unfold Halt
  k_dflt (refine' check_spec ?k1 ?k2 ?k3 ?k4 ?k5 ?kf ?kk ?kd ?p1 ?_; (case k1 => k_asm); (case k2 => k_asm); (case k3 => k_asm); (case k4 => k_asm); (case k5 => k_asm); (case kf => rfl); (case kk => rfl); (case kd => ktr_room); (case p1 => (constructor <;> omega)))
  intro h' tk' F' N'
  (try dsimp only); (try k_fold); (try k_sweep)
  k_steps
  unfold Halt
  rename Fr g' L' _ _ => F1
  rename News g' L' _ _ => N1
  k_dflt (refine' call_cls F1 X' N1 ?m1 ?m2 ?m3 ?m4; (case m1 => k_is); (case m2 => k_is); (case m3 => k_is))
  intro x dx h2 F2 N2 la lb
  have lc : @LT.lt Nat _ (L' + 1) dx := la _ (.head _)
  replace lb : @LT.lt Nat _ dx x := lb
  k_dflt (refine' spInit_code (pl := pl) (l := l) (o := o) (wd := wd) (ht := ht) (g := g) B' F2 X' T' rfl rfl ?ir (newsSub N2 fun p hp => by
    rcases List.mem_cons.mp hp with rfl | hp
    · exact .head _
    · rw [List.mem_singleton.mp hp]; exact .tail _ (.head _)) (Nat.ne_of_gt lb) P0 (by omega) (by omega) ?iret)
  case ir => (change dp + 1 + 1 < recursionLimit; omega)
  case iret =>
    rintro h3 tk3 led F3 N3 st3 fr3 ⟨cr, S3⟩
    have Nc : News g' L' h3 [(L' + 1, co)] := newsRest (newsSub N2 fun p hp => by
      rw [List.mem_singleton.mp hp]; exact .tail _ (.tail _ (.head _))) st3 fun p hp q hq => by
        rw [List.mem_singleton.mp hp]
        rcases List.mem_cons.mp hq with rfl | hq
        · exact Nat.ne_of_gt (Nat.lt_trans lc lb)
        · rw [List.mem_singleton.mp hq]; exact Nat.ne_of_gt lc
    have hoffc : ∀ q ∈ led, q.1 ≠ L' + 1 := fun q hq e => by
      have hL2 : h2.get? (L' + 1) ≠ none := by
        have := (N2 (L' + 1, co) (.tail _ (.tail _ (.head _)))).1
        intro z; rw [z] at this; cases this
      refine hL2 (e ▸ fr3 q hq fun q' hq' z => ?_)
      rw [e] at z
      rcases List.mem_cons.mp hq' with rfl | hq'
      · exact Nat.ne_of_gt (Nat.lt_trans lc lb) z
      · rw [List.mem_singleton.mp hq'] at z; exact Nat.ne_of_gt lc z
    have N4 := newsApp Nc N3
    simp only [List.cons_append, List.nil_append] at N4
    refine ⟨rfl, ?_⟩
    clear N1 F1 N2 F2 Nc N3 st3 fr3
    dsimp only
    k_steps
    unfold Halt
    rename Fr g' L' _ _ => F5
    rename Obj => co2
    rename News g' L' _ _ => N5
    rename (Obj.data _ = _) => d2
    refine LCg.Assign_ListComp_U (cl := [("spreader", L' + 1)]) (F₀ := F5) (by rfl) (by with_unfolding_all rfl) (by rfl) (by decide) (by rfl) (by decide) (by rfl) (by rfl) (by rfl) ?_
    k_steps
    unfold Halt
    rename Fr g' L' _ _ => F6
    rename News g' L' _ _ => N6
    rename IsRange _ _ _ _ _ _ _ _ => R6
    refine LCg.CompSrc.range (by rfl) F6 N6 R6 (small_one (by omega) (by omega) (by omega) (by omega)) (n := ht) (by rw [rangeSize_nat]; (try congr 1); (try omega)) (by rw [sizeLine_eq]; omega) ?_
    intro gg
    refine compRest_of (n := ht) (fun i ys nw => ∃ (rowsR ledi : List (Addr × Obj)), rowsR.length = i ∧ ys = (rowsR.map (·.1)).map Value.ref ∧ RowsAre (fun j ns => (planeRun wd ht (fun i => lvl i l o) (l - 1).toNat g i).2[j]? = some ns) rowsR ∧ nw = rowsR ++ (L' + 1, co2) :: ledi ∧
      SpL w pl x dx cr l o wd ht (planeRun wd ht (fun i => lvl i l o) (l - 1).toNat g i).1.1 (planeRun wd ht (fun i => lvl i l o) (l - 1).toNat g i).1.2 ledi ∧ ledi.map (·.1) = led.map (·.1) ∧ (∀ p ∈ rowsR, p.1 ≠ L' + 1 ∧ ∀ q ∈ led, q.1 ≠ p.1)) ?step ?fin ht 0 [] _ (by omega)
      ⟨[], led, rfl, rfl, (fun _ _ h => by simp at h), rfl, S3, rfl, all_nil⟩
    case step =>
      intro i ys nw v I oI C oC D m₂ h tk E' hi hJ hP hC hx F7 N7 off ne
      refine exE2 hJ ?_
      clear hJ
      intro rowsR ledi hq0
      refine and7 hq0 ?_
      clear hq0
      rintro hlen rfl hrows rfl Si ei hfr
      obtain ⟨ty, rfl⟩ := hP
      rw [Int.zero_add] at hx
      refine exE10 (id Si) ?_
      intro s1 s2 s3 s4 s5 s6 s7 s8 nn2 rows2 hq0
      refine and4 hq0 ?_
      clear hq0
      rintro hcc - - -
      have N8 := newsSub N7 (l' := (L' + 1, co2) :: (C, oC) :: (x, instObj 181 dx) :: (dx, spDict w pl cr l o (planeRun wd ht (fun i => lvl i l o) (l - 1).toNat g i).1.2 s1 s2 s3 s4 s5 s6 s7 s8) :: (cr, listOf ((rows2.map (·.1)).map Value.ref).toArray nn2) :: (rows2 ++ ((I, oI) :: (D, LCg.lst ((rowsR.map (·.1)).map Value.ref)) :: rowsR))) (by rw [hcc]; k_units)
      clear N7
      (try k_fold)
      k_steps
      unfold Halt
      rename Fr g' L' _ _ => F8
      have off' := off.mem
      have hCl : ∀ q ∈ ledi, q.1 ≠ L' + 1 := addr_off hoffc ei
      have DD : Disj ((L' + 1, co2) :: (C, oC) :: (I, oI) :: (D, LCg.lst ((rowsR.map (·.1)).map Value.ref)) :: rowsR) ledi := by
        intro p hp q hq
        have oq := off' q (List.mem_append_right _ (.tail _ hq))
        rcases List.mem_cons.mp hp with rfl | hp
        · exact hCl q hq
        rcases List.mem_cons.mp hp with rfl | hp
        · exact oq.2.1
        rcases List.mem_cons.mp hp with rfl | hp
        · exact oq.1
        rcases List.mem_cons.mp hp with rfl | hp
        · exact oq.2.2
        · exact addr_off (hfr p hp).2 ei q hq
      have hk20 : i * wd + wd ≤ 20 := by
        have : (i + 1) * wd ≤ ht * wd := Nat.mul_le_mul_right _ hi
        rw [Nat.succ_mul] at this
        omega
      have hfb : ∀ j : Int, 0 ≤ j → j ≤ ((l - 1).toNat : Nat) → 0 ≤ lvl j l o ∧ lvl j l o ≤ 100000 := fun j h0 h1 => lvl_bound ⟨h0, by omega⟩ hl ho
      k_dflt (refine' row_spec (led := ledi) (rest := (L' + 1, co2) :: (C, oC) :: (I, oI) :: (D, LCg.lst ((rowsR.map (·.1)).map Value.ref)) :: rowsR) (k := i * wd) B' F8 X' (newsSub N8 fun p hp => ?rsub) T' rfl rfl ?rroom DD Si P0 hg hgr ⟨by omega, by omega⟩ (by omega) (by omega) hl ho hpx (planeRun_bound hpx hfb i) hk20 ?rret)
      case rsub =>
        simp only [hcc, List.mem_cons, List.mem_append] at hp ⊢
        rcases hp with (h | h | h | h) | h | h | h | h | h <;> simp [h]
      case rroom => ktr_room
      case rret =>
        intro h9 tk9 ledn fd vs nf F9 N9 hoff9 Sn en I9
        refine LCg.CompEnd.intro F9 N9 ((rowsR ++ [(fd, listOf vs.toArray nf)]) ++ (L' + 1, co2) :: ledn) (fun p hp => ?_) (LCg.Off3.of fun p hp => ?_) trivial
          ⟨rowsR ++ [(fd, listOf vs.toArray nf)], ledn, by simp [hlen], by simp, rowsAre_snoc2 hrows (by rw [hlen, planeRun_len]) I9, rfl, Sn, en.trans ei, ?_⟩
        · revert p; k_units
        · have hp' : p ∈ rowsR ∨ p = (fd, listOf vs.toArray nf) ∨ p = (L' + 1, co2) ∨ p ∈ ledn := by
            simp only [List.mem_append, List.mem_cons, List.not_mem_nil, or_false] at hp ⊢
            rcases hp with (h | h) | h | h <;> simp [h]
          rcases hp' with h | rfl | rfl | h
          · exact off' p (List.mem_append_left _ h)
          · exact ⟨(hoff9 (I, oI) (by first | k_units | simp)).symm, (hoff9 (C, oC) (by first | k_units | simp)).symm, (hoff9 (D, _) (List.mem_append_right _ (.tail _ (.tail _ (.tail _ (.head _)))))).symm⟩
          · exact off' (L' + 1, co2) (List.mem_append_right _ (.head _))
          · exact ⟨addr_off (fun q hq => (off' q (List.mem_append_right _ (.tail _ hq))).1) en p h, addr_off (fun q hq => (off' q (List.mem_append_right _ (.tail _ hq))).2.1) en p h, addr_off (fun q hq => (off' q (List.mem_append_right _ (.tail _ hq))).2.2) en p h⟩
        · intro p hp
          rcases List.mem_append.mp hp with hp | hp
          · exact hfr p hp
          · rw [List.mem_singleton.mp hp]
            exact ⟨(hoff9 (L' + 1, co2) (by first | k_units | simp)).symm, addr_off (fun q hq => hoff9 q (List.mem_append_left _ hq)) (ei.symm.trans en.symm)⟩
    case fin =>
      intro ys nw hJ
      refine exE2 hJ ?_
      clear hJ
      intro rowsR ledi hq0
      refine and7 hq0 ?_
      clear hq0
      rintro hlen rfl hrows rfl Si ei hfr
      intro D h tk F9 N9 o9
      refine exE10 (id Si) ?_
      intro s1 s2 s3 s4 s5 s6 s7 s8 nn2 rows2 hq0
      refine and4 hq0 ?_
      clear hq0
      rintro hcc - - -
      have N10 := newsSub N9 (l' := (L' + 1, co2) :: (x, instObj 181 dx) :: (dx, spDict w pl cr l o (planeRun wd ht (fun i => lvl i l o) (l - 1).toNat g ht).1.2 s1 s2 s3 s4 s5 s6 s7 s8) :: (D, LCg.lst ((rowsR.map (·.1)).map Value.ref)) :: rowsR) (by rw [hcc]; k_units)
      clear N9
      (try k_fold)
      k_steps
      unfold Halt
      k_dflt (refine' plane_spec ?k1 ?k2 ?k3 ?k4 ?k5 ?kf ?kk ?kd ?pka ?pkb ?_; (case k1 => k_asm); (case k2 => k_asm); (case k3 => k_asm); (case k4 => k_asm); (case k5 => k_asm); (case kf => rfl); (case kk => rfl); (case kd => ktr_room); (case pka => (intro x e; cases e)); (case pkb => (intro x e; cases e)))
      intro h84 tk84 npl dnp w1 w2 w3 F84 N84 la84 lb84
      (try dsimp only); (try k_fold); (try k_sweep)
      k_steps
      rename_i D' h' F' N' l1'
      refine hQQ _ _ _ ?_
      refine LeaveP.intro F' (newsSub N' (l' := (D', { cls := .type "tuple", data := .seq [.ref npl, .int (planeRun wd ht (fun i => lvl i l o) (l - 1).toNat g ht).1.2 s8].toArray 0 }) :: (npl, instObj 84 dnp) :: (dnp, dictOf [⟨PyData.keyHash w.params "width", .str "width" w1, .int wd uw⟩, ⟨PyData.keyHash w.params "height", .str "height" w2, .int ht uh⟩, ⟨PyData.keyHash w.params "rows", .str "rows" w3, .ref D⟩] 3) :: (D, LCg.lst ((rowsR.map (·.1)).map Value.ref)) :: rowsR) fun p hp => ?fsub) ⟨_, _, _, _, _, rfl, rfl, dnp, D, w1, w2, w3, uw, uh, _, rowsR, rfl, hlen.trans (planeRun_len ht).symm, hrows⟩
      revert p; k_units
end
end
section
section
variable {prog : Program} {w : World} {A : Around} {E : Value → Shared → Prop} {s : Shared} {env : Env} {h₀ : Heap} {target : Expr} {body : List Stmt} {Q : Flow → Shared → Prop}
theorem loopEnum {σ : Type} {elts : List Expr} {k : Nat} {pos : Pos} {l : Addr} {xs : List Value} {m₀ : Str → Option Value} (Led : σ → List (Addr × Obj)) (ps : σ → List (Str × Value)) (stored : List Str) (P : Nat → σ → Prop) {news₀ : List (Addr × Obj)}
    (hh : A.handled = none) (hl : h₀.IsList l xs.toArray ∨ ∃ n, ∀ c, (l, listOf xs.toArray n) ∈ Led c) (F : Fr h₀ env.locals s.heap m₀) (N : News h₀ env.locals s.heap news₀)
    (init : ∃ c₀, Led c₀ = news₀ ∧ (∀ p ∈ ps c₀, m₀ p.1 = some p.2) ∧ P 0 c₀)
    (turn : ∀ (c : σ) (i : Nat) T t x (u : Str → Option Value) h tk own, xs[i]? = some x → IsTup h T #[.int i t, x] → P i c → Off own (Led c) →
      Fr h₀ env.locals h (kstB (fun z => if stored.contains z then u z else m₀ z) (ps c)) → News h₀ env.locals h (own ++ Led c) →
      wpAny (model prog w) A (assign (.Tuple elts k pos) env (.ref T)) (fun _ s₃ => wpAny (model prog w) A (execs body env) (TurnPostK h₀ env.locals own Led ps stored m₀ (P (i + 1)) { s with heap := h, toks := tk } Q) E s₃) E { s with heap := h, toks := tk })
    (done : ∀ (c : σ) (u : Str → Option Value) h tk, P xs.length c → Fr h₀ env.locals h (kstB (fun z => if stored.contains z then u z else m₀ z) (ps c)) → News h₀ env.locals h (Led c) → Q .next { s with heap := h, toks := tk }) :
    wpAny (model prog w) A (call (.type "enumerate") [.ref l]) (fun xv s₁ => wpAny (model prog w) A (pyIter xv) (fun it s₂ => TurnsAt prog w A h₀ env (.Tuple elts k pos) body Q E it s₂) E s₁) E s := by
  obtain ⟨c₀, rfl, hk, hp⟩ := init
  have hls : s.heap.IsList l xs.toArray := by
    rcases hl with ⟨o, e, r⟩ | ⟨k, e⟩
    · exact ⟨o, F.keep _ _ e, r⟩
    · exact ⟨_, (N _ (e c₀)).1, rfl, _, rfl⟩
  have hlt : l < s.heap.objs.size := by obtain ⟨o, e, _⟩ := hls; exact Heap.lt_size e
  have hLs : env.locals < s.heap.objs.size := F.ns.lt
  have hLax : env.locals ≠ l := by
    rcases hl with ⟨o, e, r⟩ | ⟨k, e⟩
    · exact fun q => absurd (Nat.lt_of_lt_of_le (Heap.lt_size e) F.above) (q ▸ Nat.lt_irrefl _)
    · exact fun q => (N _ (e c₀)).2.1 q.symm
  refine call_enumerate_list hls fun h' hE hI hsz hkeep => ?_
  refine wpAny_pyIter_enum hE ?_
  have hst : (∃ old, IsEnum h' (s.heap.objs.size + 1) s.heap.objs.size 0 old) ∧ h'.IsListIter s.heap.objs.size l 0 ∧ h'.IsList l xs.toArray := ⟨⟨_, hE⟩, hI, hls.at fun o e => hkeep _ o e⟩
  refine loopK (s := { s with heap := h' }) (its := [s.heap.objs.size + 1, s.heap.objs.size]) Led ps stored P c₀
    (KTurns.ofWalksU (WalksT.enumerate hh (s.heap.objs.size + 1) s.heap.objs.size l (Nat.succ_ne_self _) (ktu_ne 1 hlt) (Nat.ne_of_lt hlt) xs.toArray).toU) ?_ ?_ ?_ ?_ ?_ ?_ hst (F.keeps hkeep) (N.grown hkeep) ?_ hk hp ?_ ?_
  · intro b hb; simp at hb ⊢; rcases hb with rfl | rfl <;> simp
  · intro b hb; simp at hb ⊢; rcases hb with rfl | rfl <;> simp
  · intro b hb
    have hb' : b = s.heap.objs.size + 1 ∨ b = s.heap.objs.size := by simpa using hb
    rcases hb' with rfl | rfl
    · exact ktu_new F (Nat.le_add_right _ _)
    · exact ktu_new F (Nat.le_refl _)
  · intro hI'
    have hb' : env.locals = s.heap.objs.size + 1 ∨ env.locals = s.heap.objs.size ∨ env.locals = l := by simpa using hI'
    rcases hb' with e | e | e
    · exact ktu_ne 1 hLs e
    · exact Nat.ne_of_lt hLs e
    · exact hLax e
  · intro b hb
    have hb' : b = s.heap.objs.size + 1 ∨ b = s.heap.objs.size ∨ b = l := by simpa using hb
    rcases hb' with rfl | rfl | rfl
    · exact .inl (by first | k_units | simp)
    · exact .inl (by first | k_units | simp)
    · rcases hl with ⟨o, e, r⟩ | ⟨k, e⟩
      · exact .inr (.inl ⟨o, e⟩)
      · exact .inr (.inr ⟨_, e⟩)
  · rintro i h ⟨⟨old, he⟩, ⟨oi, hoi, _⟩, _⟩ b hb
    have hb' : b = s.heap.objs.size + 1 ∨ b = s.heap.objs.size := by simpa using hb
    rcases hb' with rfl | rfl
    · exact ⟨_, he⟩
    · exact ⟨_, hoi⟩
  · intro q hq hb
    have hlp := Heap.lt_size (N q hq).1
    have hb' : q.1 = s.heap.objs.size + 1 ∨ q.1 = s.heap.objs.size := by simpa using hb
    rcases hb' with e | e
    · exact ktu_ne 1 hlp e
    · exact Nat.ne_of_lt hlp e
  · rintro c i v u h tk own hi ⟨T, vals, rfl, ⟨t, x, hx, rfl⟩, hT⟩ hP ho F₁ N₁
    exact turn c i T t x u h tk own (by simpa using hx) hT hP ho F₁ N₁
  · intro c u h tk hP F₁ N₁
    have hP' : P xs.length c := by simpa using hP
    exact done c u h tk hP' F₁ N₁
theorem loopZip2 {σ : Type} {elts : List Expr} {k : Nat} {pos : Pos} {l1 l2 : Addr} {xs ys : List Value} {n1 n2 : Nat} {m₀ : Str → Option Value} (Led : σ → List (Addr × Obj)) (ps : σ → List (Str × Value)) (stored : List Str) (P : Nat → σ → Prop) {news₀ : List (Addr × Obj)}
    (hh : A.handled = none) (hl1 : ∀ c, (l1, listOf xs.toArray n1) ∈ Led c) (hl2 : ∀ c, (l2, listOf ys.toArray n2) ∈ Led c) (hsz : xs.length = ys.length) (F : Fr h₀ env.locals s.heap m₀) (N : News h₀ env.locals s.heap news₀)
    (init : ∃ c₀, Led c₀ = news₀ ∧ (∀ p ∈ ps c₀, m₀ p.1 = some p.2) ∧ P 0 c₀)
    (turn : ∀ (c : σ) (i : Nat) T x y (u : Str → Option Value) h tk own, xs[i]? = some x → ys[i]? = some y → IsTup h T #[x, y] → P i c → Off own (Led c) →
      Fr h₀ env.locals h (kstB (fun z => if stored.contains z then u z else m₀ z) (ps c)) → News h₀ env.locals h (own ++ Led c) →
      wpAny (model prog w) A (assign (.Tuple elts k pos) env (.ref T)) (fun _ s₃ => wpAny (model prog w) A (execs body env) (TurnPostK h₀ env.locals own Led ps stored m₀ (P (i + 1)) { s with heap := h, toks := tk } Q) E s₃) E { s with heap := h, toks := tk })
    (done : ∀ (c : σ) (u : Str → Option Value) h tk, P xs.length c → Fr h₀ env.locals h (kstB (fun z => if stored.contains z then u z else m₀ z) (ps c)) → News h₀ env.locals h (Led c) → Q .next { s with heap := h, toks := tk }) :
    wpAny (model prog w) A (call (.type "zip") [.ref l1, .ref l2]) (fun xv s₁ => wpAny (model prog w) A (pyIter xv) (fun it s₂ => TurnsAt prog w A h₀ env (.Tuple elts k pos) body Q E it s₂) E s₁) E s := by
  obtain ⟨c₀, rfl, hk, hp⟩ := init
  have hax1 := N _ (hl1 c₀)
  have hax2 := N _ (hl2 c₀)
  have hi1 : s.heap.IsList l1 xs.toArray := ⟨_, hax1.1, rfl, n1, rfl⟩
  have hi2 : s.heap.IsList l2 ys.toArray := ⟨_, hax2.1, rfl, n2, rfl⟩
  have hlt1 : l1 < s.heap.objs.size := Heap.lt_size hax1.1
  have hlt2 : l2 < s.heap.objs.size := Heap.lt_size hax2.1
  have hLs : env.locals < s.heap.objs.size := F.ns.lt
  have D : ZipApart (s.heap.objs.size + 4) (s.heap.objs.size + 2) (s.heap.objs.size + 3) s.heap.objs.size (s.heap.objs.size + 1) l1 l2 := ktu_apart _ _ _ hlt1 hlt2
  refine call_zip_2 hi1 hi2 fun h' hz hTI hTO hj1 hj2 hsz' hkeep => ?_
  refine wpAny_pyIter_zip hz ?_
  have hst : IsZip h' (s.heap.objs.size + 4) (s.heap.objs.size + 2) (s.heap.objs.size + 3) .none ∧ IsPair h' (s.heap.objs.size + 2) (.ref s.heap.objs.size) (.ref (s.heap.objs.size + 1)) ∧ (∃ a b, IsPair h' (s.heap.objs.size + 3) a b) ∧
      h'.IsListIter s.heap.objs.size l1 0 ∧ h'.IsListIter (s.heap.objs.size + 1) l2 0 ∧ h'.IsList l1 xs.toArray ∧ h'.IsList l2 ys.toArray :=
    ⟨hz, hTI, ⟨_, _, hTO⟩, hj1, hj2, hi1.at fun o e => hkeep _ o e, hi2.at fun o e => hkeep _ o e⟩
  refine loopK (s := { s with heap := h' }) (its := [s.heap.objs.size + 4, s.heap.objs.size + 2, s.heap.objs.size + 3, s.heap.objs.size, s.heap.objs.size + 1]) Led ps stored P c₀
    (KTurns.ofWalksU (WalksT.zip2 hh _ _ _ _ _ _ _ D xs.toArray ys.toArray).toU) ?_ ?_ ?_ ?_ ?_ ?_ hst (F.keeps hkeep) (N.grown hkeep) ?_ hk hp ?_ ?_
  · intro b hb; simp at hb ⊢; rcases hb with rfl | rfl | rfl | rfl <;> simp
  · intro b hb; simp at hb ⊢; rcases hb with rfl | rfl | rfl | rfl | rfl <;> simp
  · intro b hb
    have hb' : b = s.heap.objs.size + 4 ∨ b = s.heap.objs.size + 2 ∨ b = s.heap.objs.size + 3 ∨ b = s.heap.objs.size ∨ b = s.heap.objs.size + 1 := by simpa using hb
    rcases hb' with rfl | rfl | rfl | rfl | rfl
    · exact ktu_new F (Nat.le_add_right _ _)
    · exact ktu_new F (Nat.le_add_right _ _)
    · exact ktu_new F (Nat.le_add_right _ _)
    · exact ktu_new F (Nat.le_refl _)
    · exact ktu_new F (Nat.le_add_right _ _)
  · intro hI'
    have hb' : env.locals = s.heap.objs.size + 4 ∨ env.locals = s.heap.objs.size + 2 ∨ env.locals = s.heap.objs.size + 3 ∨ env.locals = s.heap.objs.size ∨ env.locals = s.heap.objs.size + 1 ∨ env.locals = l1 ∨ env.locals = l2 := by simpa using hI'
    have n1 := hax1.2.1
    have n2 := hax2.2.1
    rcases hb' with e | e | e | e | e | e | e
    · exact ktu_ne 4 hLs e
    · exact ktu_ne 2 hLs e
    · exact ktu_ne 3 hLs e
    · exact Nat.ne_of_lt hLs e
    · exact ktu_ne 1 hLs e
    · exact n1 e.symm
    · exact n2 e.symm
  · intro b hb
    have hb' : b = s.heap.objs.size + 4 ∨ b = s.heap.objs.size + 2 ∨ b = s.heap.objs.size + 3 ∨ b = s.heap.objs.size ∨ b = s.heap.objs.size + 1 ∨ b = l1 ∨ b = l2 := by simpa using hb
    rcases hb' with rfl | rfl | rfl | rfl | rfl | rfl | rfl
    · exact .inl (by first | k_units | simp)
    · exact .inl (by first | k_units | simp)
    · exact .inl (by first | k_units | simp)
    · exact .inl (by first | k_units | simp)
    · exact .inl (by first | k_units | simp)
    · exact .inr (.inr ⟨_, hl1⟩)
    · exact .inr (.inr ⟨_, hl2⟩)
  · rintro i h ⟨hz, hTI, ⟨a, b, hTO⟩, ⟨o1, ho1, _⟩, ⟨o2, ho2, _⟩, _⟩ b hb
    have hb' : b = s.heap.objs.size + 4 ∨ b = s.heap.objs.size + 2 ∨ b = s.heap.objs.size + 3 ∨ b = s.heap.objs.size ∨ b = s.heap.objs.size + 1 := by simpa using hb
    rcases hb' with rfl | rfl | rfl | rfl | rfl
    · exact ⟨_, hz⟩
    · exact ⟨_, hTI⟩
    · exact ⟨_, hTO⟩
    · exact ⟨_, ho1⟩
    · exact ⟨_, ho2⟩
  · intro q hq hb
    have hlp := Heap.lt_size (N q hq).1
    have hb' : q.1 = s.heap.objs.size + 4 ∨ q.1 = s.heap.objs.size + 2 ∨ q.1 = s.heap.objs.size + 3 ∨ q.1 = s.heap.objs.size ∨ q.1 = s.heap.objs.size + 1 := by simpa using hb
    rcases hb' with e | e | e | e | e
    · exact ktu_ne 4 hlp e
    · exact ktu_ne 2 hlp e
    · exact ktu_ne 3 hlp e
    · exact Nat.ne_of_lt hlp e
    · exact ktu_ne 1 hlp e
  · rintro c i v u h tk own hi ⟨T, vals, rfl, ⟨x, y, hx, hy, rfl⟩, hT⟩ hP ho F₁ N₁
    exact turn c i T x y u h tk own (by simpa using hx) (by simpa using hy) hT hP ho F₁ N₁
  · intro c u h tk hP F₁ N₁
    have hP' : P xs.length c := by simpa [hsz] using hP
    exact done c u h tk hP' F₁ N₁
end
end
section
noncomputable def lvls (l o : Int) (n : Nat) : List Int := (List.range n).map fun (i : Nat) => lvl (i : Int) l o
theorem lvls_succ (l o : Int) (n : Nat) : lvls l o (n + 1) = lvls l o n ++ [lvl (n : Int) l o] := by
  unfold lvls; rw [List.range_succ, List.map_append]; rfl
theorem lvls_len (l o : Int) (n : Nat) : (lvls l o n).length = n := by simp [lvls]
theorem lvls_get (l o : Int) {n i : Nat} (h : i < n) : (lvls l o n)[i]? = some (lvl (i : Int) l o) := by
  simp [lvls, h]
theorem law_lvl {i l o : Int} (hl : 2 ≤ l) : Int.fdiv (2 * i * o + l - 1) (2 * (l - 1)) = lvl i l o := by
  unfold lvl
  rw [Int.fdiv_eq_ediv_of_nonneg _ (by omega), Int.fdiv_eq_ediv_of_nonneg _ (by omega), Int.fdiv_eq_ediv_of_nonneg _ (by omega), Int.mul_assoc 2 i o]
  generalize i * o = z
  rw [← Int.ediv_ediv_of_nonneg (by omega)]
  congr 1
  omega
theorem ints_snoc {vs : List Value} {ns : List Int} {a b : Int} {t : Tok} (h : IntsAre vs ns) (e : a = b) : IntsAre (vs ++ [.int a t]) (ns ++ [b]) := by
  subst e; exact h.append (.cons _ _ .nil)
theorem vals_snoc {vs : List Value} {l o a : Int} {i : Nat} {t : Tok} (h : IntsAre vs (lvls l o i)) (e : a = lvl i l o) : IntsAre (vs ++ [.int a t]) (lvls l o (i + 1)) := by
  rw [lvls_succ]; exact ints_snoc h e
theorem near_yes {f : Int → Int} {v b : Int} {i : Nat} (hb : b = nearUp f v (i - 1)) (h : (if f i - v < 0 then -(f i - v) else f i - v) < if f b - v < 0 then -(f b - v) else f b - v) : (i : Int) = nearUp f v (i + 1 - 1) := by
  cases i with
  | zero =>
    obtain rfl : b = 0 := hb
    exact absurd h (Int.lt_irrefl _)
  | succ k =>
    obtain rfl : b = nearUp f v k := hb
    show _ = nearUp f v (k + 1)
    rw [nearUp, if_pos (by simpa using h)]
    simp
theorem near_no {f : Int → Int} {v b : Int} {i : Nat} (hb : b = nearUp f v (i - 1)) (h : ¬ (if f i - v < 0 then -(f i - v) else f i - v) < if f b - v < 0 then -(f b - v) else f b - v) : b = nearUp f v (i + 1 - 1) := by
  cases i with
  | zero => exact hb
  | succ k =>
    obtain rfl : b = nearUp f v k := hb
    show _ = nearUp f v (k + 1)
    conv => rhs; rw [nearUp, if_neg (by simpa using h)]
section
variable {prog : Program} {w : World} {p : Program} {loose : List Str} {mean : ExcName → Option Value} {mg mb : Str → Option Value} {dp un : Nat} {gd : Option (List Code)} {env : Env} {outer : List Env} {A₀ : Around} {base h₀ : Heap} {L : Addr} {m : Str → Option Value} {news : List (Addr × Obj)} {s : Shared}
  {Q E : Value → Shared → Prop}
  (B : Below A₀ base outer h₀) (F : Fr h₀ L s.heap m) (X : (hd.heap_1 w.params).In h₀) (N : News h₀ L s.heap news) (T : Top p loose mean mg mb h₀) (hf : env.frame = some L) (hk : env.scope.kind = .function)
include B F X N T hf hk
section
theorem values_spec {l o : Int} {tl tm : Tok} (hroom : dp + 2 < recursionLimit) (hl : 2 ≤ l ∧ l ≤ 300) (ho : 1 ≤ o ∧ o ≤ 300)
    (ret : ∀ h' tk' va vs, Fr h₀ L h' m → News h₀ L h' ((va, LCg.lst vs) :: news) → (∀ p ∈ news, p.1 ≠ va) → IntsAre vs (lvls l o l.toNat) → Q (.ref va) { s with heap := h', toks := tk' }) :
    wpAny (model prog w) (AA dp un gd env outer) (call (.ref 209) [.int l tl, .int o tm]) Q E s := by
  refine' enterC (binds := [("levels", .int l tl), ("most", .int o tm)]) (fun v nw => ∃ va vs, v = .ref va ∧ nw = [(va, LCg.lst vs)] ∧ IntsAre vs (lvls l o l.toNat)) B F X (core := []) all_nil T hf hk ?ret ?k6 ?k7 ?k8 ?k9 ?kB ?kD ?_ ?c2 ?c3 ?c4
  case ret =>
    rintro v h' tk' nw F' N' st fr ⟨va, vs, rfl, rfl, hI⟩
    exact ret h' tk' va vs F' (newsApp N' (newsRest N st fun _ _ => all_nil)) (newsOff N (fr _ (.head _) all_nil)) hI
  (case k6 => k_dflt k_is); (case k7 => k_dflt k_is); (case k8 => k_dflt ktr_room); (case k9 => exact BindsTo.of_eq rfl); (case kB => first | exact locs rfl | exact rfl); (case c2 => rfl); (case c3 => rfl); (case c4 => rfl); (try case c5 => decide); (try case kD => decide +kernel)
  intro g' L' h' tk' cells' FG' F' N' Y' B' X' T' l1 st'
  first | refine gen_post fun gG gD gO QQ hQQ => ?_ | refine gen_post2 fun gG gD gO QQ hQQ => ?_
  clear B F X N T ret hf hk
  obtain ⟨c2, c1, hE, d2, d1⟩ := CellsAre.two Y'
  subst hE
  clear Y'
  replace d1 : c1.data = .cell (some (.int l tl)) := d1
  replace d2 : c2.data = .cell (some (.int o tm)) := d2
  simp only [List.cons_append, List.nil_append] at N'
  (try dsimp only); (try k_fold)
  k_steps
  unfold Halt
  rename Fr g' L' _ _ => F1
  rename News g' L' _ _ => N1
  refine LCg.ListComp_U (cl := [("most", L' + 2), ("levels", L' + 1)]) (F₀ := F1) (by rfl) (by decide) (by rfl) (by decide) (by rfl) ?_
  k_steps
  unfold Halt
  rename Fr g' L' _ _ => F2
  rename News g' L' _ _ => N2
  rename IsRange _ _ _ _ _ _ _ _ => R2
  refine LCg.CompSrc.range (by rfl) F2 N2 R2 (small_one (by omega) (by omega) (by omega) (by omega)) (n := l.toNat) (by rw [rangeSize_nat]; (try congr 1); (try omega)) (by rw [sizeLine_eq]; omega) ?_
  intro gg
  refine compRest_of (n := l.toNat) (fun i ys nw => nw = [(L' + 2, c2), (L' + 1, c1)] ∧ IntsAre ys (lvls l o i)) ?step ?fin l.toNat 0 [] _ (by omega) ⟨rfl, IntsAre.nil⟩
  case step =>
    intro i ys nw v I oI C oC D m₂ h tk E' hi hJ hP hC hx F3 N3 off ne
    obtain ⟨rfl, hI⟩ := hJ
    obtain ⟨ty, rfl⟩ := hP
    rw [Int.zero_add] at hx
    have N4 := newsSub N3 (l' := (L' + 1, c1) :: (L' + 2, c2) :: (I, oI) :: (C, oC) :: [(D, LCg.lst ys)]) (by k_units)
    clear N3
    have hio : 0 ≤ 2 * (i : Int) * o ∧ 2 * (i : Int) * o ≤ 600 * 300 := ⟨Int.mul_nonneg (by omega) (by omega), Int.mul_le_mul (by omega) ho.2 (by omega) (by omega)⟩
    (try k_fold)
    k_steps
    rename Fr g' L' _ _ => F5
    refine LCg.CompEnd.intro F5 N4 _ (fun p hp => ?_) off trivial ⟨rfl, ?_⟩
    · revert p; k_units
    · exact vals_snoc hI (law_lvl hl.1)
  case fin =>
    intro ys nw hJ
    obtain ⟨rfl, hI⟩ := hJ
    intro D h tk F3 N3 o1
    refine hQQ _ _ _ ?_
    exact LeaveP.intro F3 (newsSub N3 fun p hp => by rw [List.mem_singleton.mp hp]; exact .head _) ⟨D, ys, rfl, rfl, hI⟩
end
section
local macro_rules | `(tactic| walk_at "exec For Tuple Call cons nil") => `(tactic| regcatfin_turn)
local macro_rules | `(tactic| walk_at "call type:enumerate") => `(tactic| refine halt ?_)
theorem nearest_spec {va : Addr} {vs : List Value} {ns : List Int} {f : Int → Int} {n : Nat} {v : Int} {tv : Tok} (hroom : dp + 2 < recursionLimit) (hv : s.heap.IsList va vs.toArray) (hI : IntsAre vs ns) (hn : ns.length = n + 1) (h300 : n ≤ 300) (hfn : ∀ i : Nat, i ≤ n → ns[i]? = some (f i))
    (ret : ∀ h' tk' t, Fr h₀ L h' m → News h₀ L h' news → Q (.int (nearUp f v n) t) { s with heap := h', toks := tk' }) :
    wpAny (model prog w) (AA dp un gd env outer) (call (.ref 216) [.ref va, .int v tv]) Q E s := by
  refine' enter (binds := [("values", .ref va), ("number", .int v tv)]) (fun u _ => ∃ t, u = .int (nearUp f v n) t) B F X (core := []) all_nil T hf hk (fun v h' tk' nw F' _ st _ ⟨t, e⟩ => e ▸ ret h' tk' t F' (newsRest N st fun _ _ => all_nil)) ?k6 ?k7 ?k8 ?k9 ?kB ?_ ?c2 ?c3 ?c4 ?c5
  (case k6 => k_dflt k_is); (case k7 => k_dflt k_is); (case k8 => k_dflt ktr_room); (case k9 => exact BindsTo.of_eq rfl); (case kB => first | exact locs rfl | exact rfl); (case c2 => rfl); (case c3 => rfl); (case c4 => rfl); (try case c5 => decide); (try case kD => decide +kernel)
  intro g' L' h' FG' F' N' B' X' T' l1 st'
  first | refine gen_post fun gG gD gO QQ hQQ => ?_ | refine gen_post2 fun gG gD gO QQ hQQ => ?_
  have hl' : g'.IsList va vs.toArray := stays_list st'.nil hv
  clear B F X N T ret hf hk hv
  (try dsimp only); (try k_fold)
  k_steps
  unfold Halt
  rename Fr _ _ _ _ => F1
  rename News _ _ _ _ => N1
  with_unfolding_all refine' loopEnum (xs := vs) (fun _ => []) (fun (c : Int × Tok) => [("best", .int c.1 c.2)]) ["at", "value"] (fun i c => c.1 = nearUp f v (i - 1) ∧ 0 ≤ c.1 ∧ c.1 ≤ n) rfl (Or.inl hl') F1 N1 ?init ?turn ?done
  case init => exact ⟨(0, _), rfl, List.forall_mem_cons.mpr ⟨rfl, all_nil⟩, rfl, Int.le_refl _, by show (0 : Int) ≤ n; omega⟩
  case turn =>
    intro c i T t x u h tk own hx hT hP ho F2 N2
    first | refine gen_post fun gG gD gO QQ hQQ => ?_ | refine gen_post2 fun gG gD gO QQ hQQ => ?_
    obtain ⟨b, tb⟩ := c
    obtain ⟨hb, hb0, hbn⟩ := hP
    obtain ⟨n0, tx, rfl, hn0⟩ := hI.at i x hx
    have hin : i ≤ n := by
      have := (List.getElem?_eq_some_iff.mp hn0).1
      omega
    have hfi := (hn0.symm.trans (hfn i hin))
    obtain rfl : n0 = f i := Option.some.inj hfi
    have hbv : ns.getD b.toNat 0 = f b := by
      have := hfn b.toNat (by dsimp only at hbn hb0; omega)
      rw [List.getD_eq_getElem?_getD, this]
      dsimp only at hb0
      simp [Int.toNat_of_nonneg hb0]
    have hlb : b.toNat < ns.length := by dsimp only at hbn hb0; omega
    dsimp only [kstB] at *
    clear N1 F1
    (try k_fold)
    k_steps
    · rename (@LT.lt Int _ _ _) => hc
      rw [hbv] at hc
      refine hQQ _ _ _ (TurnPostK.next ?_)
      refine TurnEndK.intro (_, _) (by assumption) (by assumption) (fun _ h => h) ho (List.forall_mem_cons.mpr ⟨rfl, all_nil⟩) ?_ ⟨near_yes hb hc, ?_, ?_⟩
      · intro z h2 h3
        have z0 := h2 _ (.head _)
        have z1 := not_in h3 "at" (by first | k_units | simp)
        have z2 := not_in h3 "value" (by first | k_units | simp)
        (repeat first | with_reducible rfl | (refine (upd_ne (by assumption)).trans ?_) | (refine (if_neg (by assumption)).trans ?_) | (refine (ite_cf (by assumption)).trans ?_) | (refine (ite_cf rfl).trans ?_))
        all_goals rfl
      · show (0 : Int) ≤ (i : Int)
        omega
      · show (i : Int) ≤ (n : Int)
        omega
    · rename ¬ (@LT.lt Int _ _ _) => hc
      rw [hbv] at hc
      refine hQQ _ _ _ (TurnPostK.next ?_)
      refine TurnEndK.intro (b, tb) (by assumption) (by assumption) (fun _ h => h) ho (List.forall_mem_cons.mpr ⟨rfl, all_nil⟩) ?_ ⟨near_no hb hc, hb0, hbn⟩
      · intro z h2 h3
        have z0 := h2 _ (.head _)
        have z1 := not_in h3 "at" (by first | k_units | simp)
        have z2 := not_in h3 "value" (by first | k_units | simp)
        (repeat first | with_reducible rfl | (refine (upd_ne (by assumption)).trans ?_) | (refine (if_neg (by assumption)).trans ?_) | (refine (ite_cf (by assumption)).trans ?_) | (refine (ite_cf rfl).trans ?_))
        all_goals rfl
  case done =>
    intro c u h tk hP F2 N2
    obtain ⟨b, tb⟩ := c
    obtain ⟨hb, hb0, hbn⟩ := hP
    dsimp only [kstB] at *
    clear N1 F1
    (try k_fold)
    k_steps
    refine hQQ _ _ _ ?_
    exact LeaveP.intro (by assumption) (by assumption) ⟨_, congrArg (fun z => Value.int z _) (hb.trans (by rw [hI.length, hn]; rfl))⟩
end
end
end
section
/-! a dict keyed by pairs of ints -/
section
variable {K : Type} [DecidableEq K]
theorem atKey_cons (x : K × Addr × Value) (xs : List (K × Addr × Value)) (k : K) : atKey (x :: xs) k = if x.1 = k then some x.2 else atKey xs k := by
  unfold atKey
  rw [List.find?_cons]
  by_cases h : x.1 = k <;> simp [h]
theorem atKey_putAt (k k' : K) (v : Value) : ∀ xs : List (K × Addr × Value), (atKey (xs.map (putAt k v)) k').map (·.2) = if k' = k then (atKey xs k).map (fun _ => v) else (atKey xs k').map (·.2)
  | [] => by simp [atKey]
  | x :: xs => by
    rw [List.map_cons, atKey_cons, atKey_cons, atKey_cons]
    have hp : (putAt k v x).1 = x.1 := by unfold putAt; split <;> rfl
    rw [hp]
    by_cases h1 : x.1 = k'
    · subst h1
      rw [if_pos rfl]
      by_cases h2 : x.1 = k
      · simp [h2, putAt]
      · simp [h2, putAt]
    · rw [if_neg h1, atKey_putAt k k' v xs]
      by_cases h2 : k' = k
      · subst h2; simp [h1]
      · simp [h2, h1]
theorem atKey_snoc (k k' : K) (a : Addr) (v : Value) : ∀ xs : List (K × Addr × Value), atKey xs k = none → (atKey (xs ++ [(k, a, v)]) k').map (·.2) = if k' = k then some v else (atKey xs k').map (·.2)
  | [], _ => by
    rw [List.nil_append, atKey_cons]
    by_cases h : k' = k
    · subst h; simp
    · have : ¬ (k = k') := fun e => h e.symm
      simp [h, this]
  | x :: xs, hn => by
    rw [atKey_cons] at hn
    by_cases h0 : x.1 = k
    · rw [if_pos h0] at hn; cases hn
    · rw [if_neg h0] at hn
      rw [List.cons_append, atKey_cons, atKey_cons]
      by_cases h1 : x.1 = k'
      · subst h1; simp [h0]
      · rw [if_neg h1, if_neg h1, atKey_snoc k k' a v xs hn]
theorem atKey_storedH (xs : List (K × Addr × Value)) (k k' : K) (a : Addr) (v : Value) : (atKey (storedH xs k a v) k').map (·.2) = if k' = k then some v else (atKey xs k').map (·.2) := by
  cases h : atKey xs k with
  | none => rw [storedH_new h]; exact atKey_snoc k k' a v xs h
  | some p => rw [storedH_old h, atKey_putAt, h]; rfl
theorem storedH_length (xs : List (K × Addr × Value)) (k : K) (a : Addr) (v : Value) : (storedH xs k a v).length ≤ xs.length + 1 := by
  unfold storedH; split <;> simp
end
section
variable {prog : Program} {w : World} {A : Around} {E : Value → Shared → Prop} {s : Shared} {h₀ : Heap} {L d : Addr} {m : Str → Option Value}
noncomputable def HL (prog : Program) (w : World) (d : Addr) (o : Obj) (kl : List (Addr × Obj)) (c : Int → Int → Int) (k : Nat) : Prop :=
  (d == sysModules) = false ∧ ∃ es ep xs, o.ExactDict ∧ o.data = .dict es ep ∧ es.toList = xs.map (entryOfKey (tupleKind (intKind prog w))) ∧ (xs.map (·.1)).Nodup ∧
    (∀ x ∈ xs, ∃ ok, (x.2.1, ok) ∈ kl ∧ TupKeyObj (intKind prog w) x.1 ok) ∧ xs.length ≤ k ∧ ∀ a b, match (atKey xs [a, b]).map (·.2) with | none => c a b = 0 | some v => ∃ t, v = .int (c a b) t
theorem HL.start {o : Obj} (lo : (d == sysModules) = false) (hd : o.IsDictOf (intKind prog w) []) : HL prog w d o [] (fun _ _ => 0) 0 := by
  obtain ⟨es, ep, hc, hdat, _, hp, _⟩ := hd
  have he : es.toList = [] := List.length_eq_zero_iff.mp hp.length
  exact ⟨lo, es, ep, [], hc, hdat, he, List.nodup_nil, (fun _ hx => by simp at hx), Nat.le_refl _, fun a b => rfl⟩
theorem HL.more {o : Obj} {kl kl' : List (Addr × Obj)} {c : Int → Int → Int} {k k' : Nat} (H : HL prog w d o kl c k) (hs : ∀ p ∈ kl, p ∈ kl') (hk : k ≤ k') : HL prog w d o kl' c k' := by
  obtain ⟨lo, es, ep, xs, hc, hdat, he, hn, hks, hl, hv⟩ := H
  exact ⟨lo, es, ep, xs, hc, hdat, he, hn, (fun x hx => by obtain ⟨ok, z1, z2⟩ := hks x hx; exact ⟨ok, hs _ z1, z2⟩), Nat.le_trans hl hk, hv⟩
theorem HL.dictOf {o : Obj} {kl news : List (Addr × Obj)} {c : Int → Int → Int} {k : Nat} {h : Heap} (H : HL prog w d o kl c k) (N : News h₀ L h news) (hd : (d, o) ∈ news) (hs : ∀ p ∈ kl, p ∈ news) :
    ∃ xs, h.DictOfH (tupleKind (intKind prog w)) d xs ∧ xs.length ≤ k ∧ (∀ x ∈ xs, ∃ ok, (x.2.1, ok) ∈ kl ∧ TupKeyObj (intKind prog w) x.1 ok) ∧ ∀ a b, match (atKey xs [a, b]).map (·.2) with | none => c a b = 0 | some v => ∃ t, v = .int (c a b) t := by
  obtain ⟨lo, es, ep, xs, hc, hdat, he, hn, hks, hl, hv⟩ := H
  exact ⟨xs, ⟨o, es, ep, (N _ hd).1, hc, hdat, he, (fun x hx => by obtain ⟨ok, z1, z2⟩ := hks x hx; exact z2.key (N _ (hs _ z1)).1), hn⟩, hl, hks, hv⟩
theorem pairKey {a b : Int} {ta tb : Tok} {n : Nat} : TupKeyObj (intKind prog w) [a, b] { cls := .type "tuple", data := .seq #[.int a ta, .int b tb] n } :=
  ⟨rfl, _, n, rfl, .cons (intKind_is _ _ _ _) (.cons (intKind_is _ _ _ _) .nil)⟩
theorem heap_method {o : Obj} {kl news : List (Addr × Obj)} {c : Int → Int → Int} {k : Nat} {pl : Sem Bool} {Q : Value × List Value → Shared → Prop} (N : News h₀ L s.heap news) (H : HL prog w d o kl c k) (hd : (d, o) ∈ news) (hs : ∀ p ∈ kl, p ∈ news) (h : Q (.builtin "dict.get", [.ref d]) s) :
    wpAny (model prog w) A (getMethod (.ref d) "get" pl) Q E s := by
  obtain ⟨xs, hD, -⟩ := H.dictOf N hd hs
  exact getMethod_builtin hD.typeIs PySem.F.plainAttrs_dict PySem.F.slot_dict_get PySem.F.type_dict_get (dictOfH_noDict hD) h
theorem heap_get {o ok : Obj} {kl news : List (Addr × Obj)} {c : Int → Int → Int} {k : Nat} {T : Addr} {a b : Int} {t0 : Tok} {Q : Value → Shared → Prop} (hu : A.units + 1 < cLine) (N : News h₀ L s.heap news) (H : HL prog w d o kl c k) (hd : (d, o) ∈ news) (hs : ∀ p ∈ kl, p ∈ news)
    (hT : (T, ok) ∈ news) (hk : TupKeyObj (intKind prog w) [a, b] ok) (h : ∀ t tk, Q (.int (c a b) t) { s with toks := tk }) :
    wpAny (model prog w) A (call (.builtin "dict.get") [.ref d, .ref T, .int 0 t0]) Q E s := by
  obtain ⟨xs, hD, -, -, hv⟩ := H.dictOf N hd hs
  refine call_meetsIn PySem.F.slot_dict_get hD.typeIs PySem.F.entry_dict_get (PySem.F.args_dict_get_3 _ _ _) (meetsH_dict_get_default (tupleKind (intKind prog w)) d T H.1 _) ⟨tupleKind_room_in1 hu, [a, b], xs, hk.key (N _ hT).1, hD, ?_⟩
  have := hv a b
  cases e : (atKey xs [a, b]).map (·.2) with
  | none =>
    rw [e] at this
    have this : c a b = 0 := this
    have := h t0 (s.toks + (tupleKind (intKind prog w)).draws [a, b])
    rw [‹c a b = 0›] at this
    exact this
  | some v =>
    rw [e] at this
    obtain ⟨t, rfl⟩ := this
    exact h t _
theorem heap_set {o ok : Obj} {kl rest : List (Addr × Obj)} {c : Int → Int → Int} {k : Nat} {T : Addr} {a b v : Int} {t : Tok} {Q : Unit → Shared → Prop} (hu : A.units + 1 < cLine) (F : Fr h₀ L s.heap m) (N : News h₀ L s.heap ((d, o) :: (kl ++ rest)))
    (H : HL prog w d o kl c k) (hT : (T, ok) ∈ kl) (hk : TupKeyObj (intKind prog w) [a, b] ok) (off : ∀ p ∈ kl ++ rest, p.1 ≠ d) (hk9 : k ≤ 100000)
    (h : ∀ h' tk o', Fr h₀ L h' m → News h₀ L h' ((d, o') :: (kl ++ rest)) → HL prog w d o' kl (fun a' b' => if a' = a ∧ b' = b then v else c a' b') (k + 1) → Q () { s with heap := h', toks := tk }) :
    wpAny (model prog w) A (setItem (.ref d) (.ref T) (.int v t)) Q E s := by
  obtain ⟨xs, hD, hl, hks, hv⟩ := H.dictOf N (.head _) (fun p hp => .tail _ (List.mem_append_left _ hp))
  refine wpAny_setItem_heap (hsz := by rw [sizeLine_eq]; omega) (knd := tupleKind (intKind prog w)) (tupleKind_room_in1 hu) (hk.key (N _ (.tail _ (List.mem_append_left _ hT))).1) hD fun h' hm' hs => ?_
  obtain ⟨o', es', ep', ho', hc', hd', he', _, hn'⟩ := hm'
  refine h h' _ o' (F.change hs (N _ (.head _)).2.1 (N _ (.head _)).2.2) ?_ ⟨H.1, es', ep', _, hc', hd', he', hn', fun x hx => ?_, Nat.le_trans (storedH_length _ _ _ _) (Nat.succ_le_succ hl), fun a' b' => ?_⟩
  · intro p hp
    rcases List.mem_cons.mp hp with rfl | hp
    · exact ⟨ho', (N _ (.head _)).2⟩
    · exact ⟨(hs.2 _ (off p hp)).trans (N _ (.tail _ hp)).1, (N _ (.tail _ hp)).2⟩
  · rcases mem_storedH hx with ⟨y, hy, e1, e2⟩ | ⟨e1, e2⟩
    · obtain ⟨oky, hmk, t⟩ := hks y hy
      exact ⟨oky, by rw [e2]; exact hmk, by rw [e1]; exact t⟩
    · exact ⟨ok, by rw [e2]; exact hT, by rw [e1]; exact hk⟩
  · rw [atKey_storedH]
    by_cases e : a' = a ∧ b' = b
    · obtain ⟨rfl, rfl⟩ := e
      simp
    · have e2 : ¬ ([a', b'] = [a, b]) := fun z => e (by simpa using z)
      rw [if_neg e2]
      simp only [if_neg e]
      exact hv a' b'
end
section
variable {M : Model} {A : Around} {E : Value → Shared → Prop} {s : Shared} {h₀ : Heap} {L : Addr} {m : Str → Option Value} {news : List (Addr × Obj)}
theorem newPair_K {a b : Value} {Q : Value → Shared → Prop} (F : Fr h₀ L s.heap m) (N : News h₀ L s.heap news)
    (h : ∀ t h', Fr h₀ L h' m → News h₀ L h' ((t, { cls := .type "tuple", data := .seq #[a, b] }) :: news) → (∀ p ∈ news, p.1 < t) → Q (.ref t) { s with heap := h' }) : wpAny M A (newTuple [a, b]) Q E s :=
  wpAny_newTuple (h _ _ (F.push _) (News.push F N _) fun p hp => Heap.lt_size (N p hp).1) (by rw [sizeLine_eq]; simp)
end
end
section
theorem contains_no {l : List Str} {z : Str} (h : ∀ s ∈ l, z ≠ s) : l.contains z = false := by
  cases e : l.contains z with
  | false => rfl
  | true => exact absurd rfl (h z (List.contains_iff_mem.mp e))
noncomputable def ValIs (n : Int) (h : Heap) (G : Array GenState) (D : Drawn) (O : OsState) (v : Value) (s' : Shared) : Prop := ∃ tw tk', v = .int n tw ∧ s' = ⟨h, G, D, tk', O⟩
theorem ValIs.intro {n n' : Int} {h : Heap} {G : Array GenState} {D : Drawn} {O : OsState} {t : Tok} {tk : Nat} (e : n' = n) : ValIs n h G D O (.int n' t) ⟨h, G, D, tk, O⟩ := ⟨t, tk, by rw [e], rfl⟩
structure SS where
  o : Obj
  kl : List (Addr × Obj)
  rowsL : List (Addr × Obj)
  n : Nat
  lost : Int
  t : Tok
structure MS where
  o : Obj
  kl : List (Addr × Obj)
  vs : List Value
  lost : Int
  t : Tok
section
variable {prog : Program} {w : World} {p : Program} {loose : List Str} {mean : ExcName → Option Value} {mg mb : Str → Option Value} {dp un : Nat} {gd : Option (List Code)} {env : Env} {outer : List Env} {A₀ : Around} {base h₀ : Heap} {L : Addr} {m : Str → Option Value} {news : List (Addr × Obj)} {s : Shared}
  {Q E : Value → Shared → Prop}
  (B : Below A₀ base outer h₀) (F : Fr h₀ L s.heap m) (X : (hd.heap_1 w.params).In h₀) (N : News h₀ L s.heap news) (T : Top p loose mean mg mb h₀) (hf : env.frame = some L) (hk : env.scope.kind = .function)
include B F X N T hf hk
local macro_rules | `(tactic| walk_at "exec For Tuple Call cons nil") => `(tactic| regcatfin_turn)
local macro_rules | `(tactic| walk_at "eval IfExp") => `(tactic| refine halt ?_)
local macro_rules | `(tactic| walk_at "call type:enumerate") => `(tactic| refine halt ?_)
local macro_rules | `(tactic| walk_at "call type:zip") => `(tactic| refine halt ?_)
local macro_rules | `(tactic| walk_at "pyIter ref") => `(tactic| refine halt ?_)
local macro_rules | `(tactic| walk_at "newTuple") => `(tactic| ((with_reducible show wpAny _ _ (newTuple [_, _]) _ _ _); k_dflt (refine' newPair_K ?F ?N ?_; (case F => k_asm); (case N => k_asm); k_whole); intro t' h' F' N' l1; (try k_lt l1); (try k_sweep)))
local macro_rules | `(tactic| walk_at "getMethod ref") => `(tactic| with_reducible refine haltG ?_)
local macro_rules | `(tactic| walk_at "call builtin:dict.get") => `(tactic| refine halt ?_)
local macro_rules | `(tactic| walk_at "setItem ref ref") => `(tactic| refine halt ?_)
local macro_rules | `(tactic| walk_at "call builtin:len") => `(tactic| regdictc_post)
theorem spread_spec {ra va : Addr} {as : List Addr} {wd ht n : Nat} {g : List (List Int)} {vs : List Value} {ns : List Int} {f : Int → Int} (hroom : dp + 4 < recursionLimit) (hun : un + 100 < cLine)
    (hr : s.heap.IsList ra (as.map Value.ref).toArray) (has : as.length = ht) (hrow : ∀ (y : Nat) a ns, as[y]? = some a → g[y]? = some ns → ∃ vs, s.heap.IsList a (vs : List Value).toArray ∧ IntsAre vs ns)
    (hg : g.length = ht) (hgr : ∀ (j : Nat) ns, g[j]? = some ns → ns.length = wd) (h1 : 1 ≤ wd ∧ 1 ≤ ht) (hpx : ∀ x y, 0 ≤ pxAt g x y ∧ pxAt g x y ≤ 300) (h20 : ht * wd ≤ 20) (hw : wd ≤ 20) (hh : ht ≤ 20)
    (hv : s.heap.IsList va vs.toArray) (hI : IntsAre vs ns) (hn : ns.length = n + 1) (h300 : n ≤ 300) (hfn : ∀ i : Nat, i ≤ n → ns[i]? = some (f i)) (hfb : ∀ i : Int, 0 ≤ i → i ≤ n → 0 ≤ f i ∧ f i ≤ 100000)
    (ret : ∀ h' tk' tp fd tz k rowsL q, Fr h₀ L h' m → News h₀ L h' ((tp, { cls := .type "tuple", data := .seq [.ref fd, .int (planeRun wd ht f n g ht).1.2 tz].toArray k }) :: (fd, listOf ((rowsL.map (·.1)).map Value.ref).toArray q) :: (rowsL ++ news)) →
      rowsL.length = ht → RowsAre (fun j ns => (planeRun wd ht f n g ht).2[j]? = some ns) rowsL → (∀ p ∈ news, p.1 ≠ tp ∧ p.1 ≠ fd ∧ ∀ q ∈ rowsL, q.1 ≠ p.1) → Q (.ref tp) { s with heap := h', toks := tk' }) :
    wpAny (model prog w) (AA dp un gd env outer) (call (.ref 223) [.ref ra, .ref va]) Q E s := by
  refine' enter (binds := [("rows", .ref ra), ("values", .ref va)]) (fun v nw => ∃ tp fd tz k rowsL q, v = .ref tp ∧ nw = (tp, { cls := .type "tuple", data := .seq [.ref fd, .int (planeRun wd ht f n g ht).1.2 tz].toArray k }) :: (fd, listOf ((rowsL.map (·.1)).map Value.ref).toArray q) :: rowsL ∧ rowsL.length = ht ∧ RowsAre (fun j ns => (planeRun wd ht f n g ht).2[j]? = some ns) rowsL) B F X (core := []) all_nil T hf hk ?ret ?k6 ?k7 ?k8 ?k9 ?kB ?_ ?c2 ?c3 ?c4 ?c5
  case ret =>
    rintro v h' tk' nw F' N' st fr ⟨tp, fd, tz, k, rowsL, q, rfl, rfl, hlen, hrows⟩
    have NR := newsRest N st fun _ _ => all_nil
    refine ret h' tk' tp fd tz k rowsL q F' (newsApp N' NR) hlen hrows fun p hp => ⟨newsOff N (fr _ (.head _) all_nil) p hp, newsOff N (fr _ (.tail _ (.head _)) all_nil) p hp, fun q hq e => ?_⟩
    exact newsOff N (fr q (.tail _ (.tail _ hq)) all_nil) p hp e.symm
  (case k6 => k_dflt k_is); (case k7 => k_dflt k_is); (case k8 => k_dflt ktr_room); (case k9 => exact BindsTo.of_eq rfl); (case kB => first | exact locs rfl | exact rfl); (case c2 => rfl); (case c3 => rfl); (case c4 => rfl); (try case c5 => decide); (try case kD => decide +kernel)
  intro g' L' h' FG' F' N' B' X' T' l1 st'
  first | refine gen_post fun gG gD gO QQ hQQ => ?_ | refine gen_post2 fun gG gD gO QQ hQQ => ?_
  replace hr := stays_list st'.nil hr
  replace hv := stays_list st'.nil hv
  replace hrow : ∀ (y : Nat) a ns, as[y]? = some a → g[y]? = some ns → ∃ vs, g'.IsList a (vs : List Value).toArray ∧ IntsAre vs ns := fun y a ns e1 e2 => by
    obtain ⟨vs, z1, z2⟩ := hrow y a ns e1 e2
    exact ⟨vs, stays_list st'.nil z1, z2⟩
  clear B F X N T ret hf hk
  obtain ⟨a0, ha0⟩ : ∃ a, as[(0 : Int).toNat]? = some a := ⟨as[0]'(by omega), List.getElem?_eq_getElem _⟩
  obtain ⟨ns0, hns0⟩ : ∃ ns, g[0]? = some ns := ⟨g[0]'(by omega), List.getElem?_eq_getElem _⟩
  obtain ⟨vs0, hl0, hi0⟩ := hrow 0 _ _ ha0 hns0
  have hlen0 : ns0.length = wd := hgr _ _ hns0
  (try dsimp only); (try k_fold)
  k_steps
  unfold Halt
  rename_i d0 hp1 o0 lo0 q1 q2 hi0' q4 q5 fd hp2 lt1 hp3 hk3 hr hv hl0 nm3 hp4 hp5 hp6 hp7 hp8 F1 N1
  rw [hlen0] at F1
  have hfd0 : @Ne Nat fd d0 := Ne.symm (Nat.ne_of_lt lt1.1)
  replace N1 := newsSub N1 (l' := [(d0, o0), (fd, listOf #[] 0)]) (by k_units)
  with_unfolding_all refine' loopEnum (σ := SS) (xs := as.map Value.ref) (fun c => (d0, c.o) :: (fd, listOf ((c.rowsL.map (·.1)).map Value.ref).toArray c.n) :: (c.rowsL ++ c.kl)) (fun c => [("lost", .int c.lost c.t)])
                          ["y", "row", "told", "way", "turn", "x", "number", "error", "shares", "goals", "goal", "share"]
                          (fun y c => HL prog w d0 c.o c.kl (planeRun wd ht f n g y).1.1 (4 * (wd * y)) ∧ c.lost = (planeRun wd ht f n g y).1.2 ∧ c.rowsL.length = y ∧ RowsAre (fun j ns => (planeRun wd ht f n g y).2[j]? = some ns) c.rowsL ∧ ∀ p ∈ c.rowsL ++ c.kl, p.1 ≠ d0 ∧ p.1 ≠ fd)
                          rfl (Or.inl hr) F1 N1 ?init ?turn ?done
  case init => exact ⟨⟨o0, [], [], 0, 0, _⟩, rfl, List.forall_mem_cons.mpr ⟨rfl, all_nil⟩, HL.start lo0 hi0', rfl, rfl, (fun _ _ h => by simp at h), all_nil⟩
  case turn =>
    intro c y Tq ty x u h tk own hx hT hP ho F2 N2
    first | refine gen_post fun gG gD gO QQ hQQ => ?_ | refine gen_post2 fun gG gD gO QQ hQQ => ?_
    obtain ⟨o, kl, rowsL, nn, lost, tl⟩ := c
    refine and5 hP ?_
    clear hP
    rintro hH hlost hlen hrows hoff
    dsimp only at hH hlost hlen hrows hoff ho
    dsimp only [kstB] at F2 N2
    rw [List.getElem?_map] at hx
    obtain ⟨ay, hay, rfl⟩ := Option.map_eq_some_iff.mp hx
    have hyt : y < ht := by have := (List.getElem?_eq_some_iff.mp hay).1; omega
    obtain ⟨nsy, hnsy⟩ : ∃ ns, g[y]? = some ns := ⟨g[y]'(by omega), List.getElem?_eq_getElem _⟩
    obtain ⟨vsy, hly, hiy⟩ := hrow y _ _ hay hnsy
    have hleny : nsy.length = wd := hgr _ _ hnsy
    clear N1 F1
    (try k_fold)
    k_steps
    unfold Halt
    rename_i l'' z1 Fa Na lt3 td z2 F3a N3a I0 n1 s1 e1 e2 e3 lt4
    obtain ⟨wy, hwy⟩ : ∃ wy : Int, (if (y : Int) % 2 = 0 then (1 : Int) else -1) = wy := ⟨_, rfl⟩
    have hpa : wy = 1 ∨ wy = -1 := by rw [← hwy]; split <;> simp
    refine wpAny_mono (E := fun _ _ => False) (Q := ValIs wy z2 gG gD gO) ?_ ?_ (fun _ _ q => q.elim)
    · refine PyProof.Rows.IfExp_ ?_
      k_steps
      · rename Int.fmod _ _ = _ => hpr
        rw [Int.fmod_eq_emod_of_nonneg _ (by decide)] at hpr
        exact ValIs.intro (by rw [← hwy, if_pos hpr])
      · rename ¬ (Int.fmod _ _ = _) => hpr
        rw [Int.fmod_eq_emod_of_nonneg _ (by decide)] at hpr
        exact ValIs.intro (by rw [← hwy, if_neg hpr])
    rintro _ _ ⟨tw, tk', rfl, rfl⟩
    clear Fa Na
    k_steps
    unfold Halt
    rename_i Fo No hq5 tkq tq uq vq R3 F3 N3 kp
    clear Fo No kp
    rw [show (List.replicate (wd : Int).toNat [(0 : Int)]).flatten = List.replicate wd 0 by simp] at I0
    generalize hvs0 : (List.replicate (wd : Int).toNat [Value.int 0 _]).flatten = vt0 at N3 I0
    clear s1 e1 e2 e3
    obtain ⟨lt5, lt6⟩ := lt4
    have hall := allLt_at lt6
    have htd : ∀ q ∈ own ++ (d0, o) :: (fd, listOf ((rowsL.map (·.1)).map Value.ref).toArray nn) :: (rowsL ++ kl), q.1 ≠ td := fun q hq => Nat.ne_of_lt (hall q hq)
    have N4 := newsSub N3 (l' := (td, listOf vt0.toArray 0) :: (d0, o) :: (kl ++ ((fd, listOf ((rowsL.map (·.1)).map Value.ref).toArray nn) :: (rowsL ++ own)))) (by k_units)
    clear N3
    have hyk : 4 * (wd * y) ≤ 2000 := by
      have : wd * y ≤ 20 * 20 := Nat.mul_le_mul hw (by omega)
      omega
    with_unfolding_all refine' loopRange (σ := MS) (n := wd) (fun c => (td, listOf c.vs.toArray 0) :: (d0, c.o) :: (c.kl ++ ((fd, listOf ((rowsL.map (·.1)).map Value.ref).toArray nn) :: (rowsL ++ own)))) (fun c => [("lost", .int c.lost c.t)])
                          ["x", "number", "error", "shares", "goals", "goal", "share"]
                          (fun i c => HL prog w d0 c.o c.kl (rowRun wd ht f n g y wy (planeRun wd ht f n g y).1 i).1.1 (4 * (wd * y) + 4 * i) ∧ c.lost = (rowRun wd ht f n g y wy (planeRun wd ht f n g y).1 i).1.2 ∧ IntsAre c.vs (rowRun wd ht f n g y wy (planeRun wd ht f n g y).1 i).2 ∧ ∀ p ∈ c.kl, p.1 ≠ d0 ∧ p.1 ≠ fd ∧ p.1 ≠ td ∧ ∀ q ∈ own, q.1 ≠ p.1)
                          rfl R3 ?k3 ?k4 F3 N4 ?init2 ?turn2 ?done2
    case k3 => exact small_one (by omega) (by omega) (by omega) (by omega)
    case k4 => (rw [rangeSize_nat]; (try congr 1); (try omega))
    case init2 =>
      refine ⟨⟨o, kl, vt0, lost, tl⟩, rfl, List.forall_mem_cons.mpr ⟨rfl, all_nil⟩, hH, hlost, I0, fun p hp => ⟨(hoff p (List.mem_append_right _ hp)).1, (hoff p (List.mem_append_right _ hp)).2, htd p (by k_units), fun q hq => ho q hq p (by k_units)⟩⟩
    case turn2 =>
      intro c i t u2 h2 tk2 I oI hi hP hoI F5 N5
      first | refine gen_post fun gG gD gO QQ hQQ => ?_ | refine gen_post2 fun gG gD gO QQ hQQ => ?_
      obtain ⟨o2, kl2, vt, lost2, tl2⟩ := c
      refine and4 hP ?_
      clear hP
      rintro hH2 hlost2 hI2 hoff2
      dsimp only [kstB] at F5 N5 hoI hH2 hlost2 hI2 hoff2
      rw [show 0 + (i : Int) * 1 = (i : Int) by omega] at F5
      have hB3 := rowRun_bound (wd := wd) (ht := ht) (f := f) (n := n) (y := (y : Int)) (a := wy) (st := (planeRun wd ht f n g y).1) (k := y * wd) (planeRun_bound hpx hfb y) hpx hfb i
      have hk20 : y * wd + i ≤ 20 := by
        have : (y + 1) * wd ≤ ht * wd := Nat.mul_le_mul_right _ hyt
        rw [Nat.succ_mul] at this
        omega
      have hB4 := BB_le (y * wd + i) hk20
      have hB5 := BB_pos (y * wd + i)
      have hlen3 := rowRun_len (wd := wd) (ht := ht) (f := f) (n := n) (g := g) (y := (y : Int)) (a := wy) (st := (planeRun wd ht f n g y).1) i
      generalize hC : (rowRun wd ht f n g y wy (planeRun wd ht f n g y).1 i).1.1 = C at hH2 hB3
      generalize hl3 : (rowRun wd ht f n g y wy (planeRun wd ht f n g y).1 i).2 = l3 at hI2 hlen3
      have N6 := newsSub N5 (l' := (d0, o2) :: (td, listOf vt.toArray 0) :: ((I, oI) :: (kl2 ++ ((fd, listOf ((rowsL.map (·.1)).map Value.ref).toArray nn) :: (rowsL ++ own))))) (by k_units)
      clear N5 N4 F3 R3 I0 hvs0
      have hd0td : @Ne Nat d0 td := htd (d0, o) (by k_units)
      have htail : ∀ q ∈ (I, oI) :: (kl2 ++ ((fd, listOf ((rowsL.map (·.1)).map Value.ref).toArray nn) :: (rowsL ++ own))), q.1 ≠ td := all_cons (Ne.symm (hoI (td, _) (.head _))) (all_app (fun q hq => (hoff2 q hq).2.2.1) (all_sub htd (by k_units)))
      have xx : ∃ x : Int, x = xAt wd wy i ∧ 0 ≤ x ∧ x < wd := ⟨_, rfl, by unfold xAt; split <;> omega⟩
      obtain ⟨x, hxa, hx0, hx1⟩ := xx
      have hB6 := hB3 x y
      have hpxe : pxAt g x y = nsy.getD x.toNat 0 := by
        unfold pxAt
        simp [List.getD, hnsy]
      have hB7 := hpx x y
      rw [hpxe] at hB7
      have hidb := nearUp_bound f (nsy.getD x.toNat 0 + C x y) n
      generalize hidx : nearUp f (nsy.getD x.toNat 0 + C x y) n = idx at hidb
      have hfi := hfb idx hidb.1 hidb.2
      have hset : (l3.set x.toNat idx).getD x.toNat 0 = idx := by
        have : x.toNat < l3.length := by omega
        simp [List.getD, this]
      have hnsi : ns.getD idx.toNat 0 = f idx := by
        have := hfn idx.toNat (by omega)
        rw [List.getD_eq_getElem?_getD, this]
        simp [Int.toNat_of_nonneg hidb.1]
      have hraw : ns.getD ((l3.set x.toNat idx).getD x.toNat 0).toNat 0 = f idx := by rw [hset, hnsi]
      have hlen5 : ((as.map Value.ref).toArray.size : Int) = (ht : Int) := by simp [has]
      have hxe : (if wy = 1 then (i : Int) else (wd : Int) - 1 - i) = x := hxa.symm
      have huu : un + 100 < 9900 := hun
      (try k_fold)
      k_steps
      unfold Halt
      refine wpAny_mono (E := fun _ _ => False) (Q := ValIs x h2 gG gD gO) ?_ ?_ (fun _ _ q => q.elim)
      · refine PyProof.Rows.IfExp_ ?_
        k_steps
        · rename wy = 1 => hq
          exact ValIs.intro (by rw [← hxe, if_pos hq])
        · rename ¬ (wy = 1) => hq
          exact ValIs.intro (by rw [← hxe, if_neg hq])
      rintro _ _ ⟨tx, tkx, rfl, rfl⟩
      k_steps
      unfold Halt
      rename Fr g' L' _ _ => F7
      rename News g' L' _ _ => N7
      have hkl : ∀ p ∈ kl2, p ∈ (d0, o2) :: (td, listOf vt.toArray 0) :: ((I, oI) :: (kl2 ++ ((fd, listOf ((rowsL.map (·.1)).map Value.ref).toArray nn) :: (rowsL ++ own)))) := (by k_units)
      refine heap_method N7 hH2 (.head _) hkl ?_
      k_steps
      unfold Halt
      rename Fr g' L' _ _ => F8
      rename News g' L' _ _ => N8
      refine heap_get (a := x) (b := y) (by show un + 3 + 1 < cLine; omega) N8 hH2 (by k_units) (fun p hp => .tail _ (hkl p hp)) (.head _) pairKey ?_
      intro t9 tk9
      k_steps
      unfold Halt
      rename Fr g' L' _ _ => F9
      rename News g' L' _ _ => N9
      refine nearest_spec B' F9 X' (newsSub N9 (l' := (d0, o2) :: (td, listOf vt.toArray 0) :: ((I, oI) :: (kl2 ++ ((fd, listOf ((rowsL.map (·.1)).map Value.ref).toArray nn) :: (rowsL ++ own))))) fun p hp => .tail _ hp) T' rfl rfl (by k_dflt ktr_room) (listBase F9 (by assumption)) hI hn h300 hfn ?_
      intro h10 tk10 t10 F10 N10
      rw [hidx]
      (try clear F5); (try clear N6); (try clear F7); (try clear N7); (try clear F8); (try clear N8); (try clear F9); (try clear N9)
      k_steps
      unfold Halt
      rename_i Ivt hlv hsv tA tB hA sh hB ltS hC' T1 hD lt1' T2 hE lt2' T3 hF lt3' T4 hG lt4' gl hH' ltG hI' hJ tkC tC s2 hK ltS2 Dz hL F11 N11 ltD
      rw [hraw] at N11
      have hee : ∃ e, nsy.getD x.toNat 0 + C x y - f idx = e := ⟨_, rfl⟩
      obtain ⟨e, he⟩ := hee
      rw [he] at N11
      have N12x : ∀ G : Prop, (∀ (X1 X2 X3 X4 Y1 Y2 Y3 Y4 P1 P2 P3 P4 : Int) (u1 u2 u3 u4 v1 v2 v3 v4 q1 q2 q3 q4 : Tok) (ox oy : Obj),
          (News g' L' hL ((Dz, listOf [.int P1 q1, .int P2 q2, .int P3 q3, .int P4 q4].toArray 0) :: (s2, ox) :: (gl, listOf [.ref T1, .ref T2, .ref T3, .ref T4].toArray 0) ::
            (T4, tupO X4 u4 Y4 v4) :: (T3, tupO X3 u3 Y3 v3) :: (T2, tupO X2 u2 Y2 v2) :: (T1, tupO X1 u1 Y1 v1) ::
            (sh, oy) :: (d0, o2) :: (td, listOf (vt.set x.toNat (.int idx t10)).toArray 0) :: ((I, oI) :: (kl2 ++ ((fd, listOf ((rowsL.map (·.1)).map Value.ref).toArray nn) :: (rowsL ++ own)))))) →
          (X1 = x + wy * wayX 0) →
          (X2 = x + wy * wayX 1) →
          (X3 = x + wy * wayX 2) →
          (X4 = x + wy * wayX 3) →
          (Y1 = y + wayY 0) →
          (Y2 = y + wayY 1) →
          (Y3 = y + wayY 2) →
          (Y4 = y + wayY 3) →
          (P1 = partN e 0) →
          (P2 = partN e 1) →
          (P3 = partN e 2) →
          (P4 = partN e 3) → G) → G := fun G k => by
        refine' k _ _ _ _ _ _ _ _ _ _ _ _ _ _ _ _ _ _ _ _ _ _ _ _ _ _ ?hN ?h1 ?h2 ?h3 ?h4 ?h5 ?h6 ?h7 ?h8 ?h9 ?h10 ?h11 ?h12
        case hN => exact N11
        case h1 => (rcases hpa with z | z <;> (rw [z]; first | (show x + 1 = x + 1 * (1 : Int); omega) | (show x + -1 = x + -1 * (1 : Int); omega)))
        case h2 => (rcases hpa with z | z <;> (rw [z]; first | (show x - 1 = x + 1 * (-1 : Int); omega) | (show x - -1 = x + -1 * (-1 : Int); omega)))
        case h3 => (rcases hpa with z | z <;> (rw [z]; first | (show x = x + 1 * (0 : Int); omega) | (show x = x + -1 * (0 : Int); omega)))
        case h4 => (rcases hpa with z | z <;> (rw [z]; first | (show x + 1 = x + 1 * (1 : Int); omega) | (show x + -1 = x + -1 * (1 : Int); omega)))
        case h5 => exact (Int.add_zero _).symm
        case h6 => rfl
        case h7 => rfl
        case h8 => rfl
        case h9 => exact congrArg (fun z => Int.fdiv z 16) (Int.mul_comm _ _)
        case h10 => exact congrArg (fun z => Int.fdiv z 16) (Int.mul_comm _ _)
        case h11 => exact congrArg (fun z => Int.fdiv z 16) (Int.mul_comm _ _)
        case h12 =>
          show _ = e - (Int.fdiv (e * 7) 16 + (Int.fdiv (e * 3) 16 + (Int.fdiv (e * 5) 16 + 0)))
          rw [Int.mul_comm e 7, Int.mul_comm e 3, Int.mul_comm e 5]
      clear N11
      refine N12x _ ?_
      clear N12x
      intro X1 X2 X3 X4 Y1 Y2 Y3 Y4 P1 P2 P3 P4 u1 u2 u3 u4 v1 v2 v3 v4 q1 q2 q3 q4 ox oy N12 c1 c2 c3 c4 c5 c6 c7 c8 c9 c10 c11 c12
      refine and5 lt1' ?_
      clear lt1'
      rintro - a1 b1 e1 f1
      refine and6 lt2' ?_
      clear lt2'
      rintro - - a2 b2 e2 f2
      refine and7 lt3' ?_
      clear lt3'
      rintro - - - a3 b3 e3 f3
      refine and8 lt4' ?_
      clear lt4'
      rintro - - - - a4 b4 e4 f4
      refine and9 ltG ?_
      clear ltG
      rintro - - - - - aG bG eG fG
      refine and11 ltD ?_
      clear ltD
      rintro - - - - - - - aD bD eD fD
      have hst1 : (rowRun wd ht f n g y wy (planeRun wd ht f n g y).1 i).1 = (C, lost2) := Prod.ext hC hlost2.symm
      have hrow1 : rowRun wd ht f n g y wy (planeRun wd ht f n g y).1 (i + 1) = (gifts wd ht x y wy e (C, lost2) 4, l3.set x.toNat idx) := by
        show cellStep wd ht f n g (xAt wd wy i) y wy (rowRun wd ht f n g y wy (planeRun wd ht f n g y).1 i) = _
        unfold cellStep
        rw [hst1, hl3, ← hxa, hpxe]
        dsimp only
        rw [hidx, he]
      have hR0 : ∀ p ∈ kl2 ++ ((fd, listOf ((rowsL.map (·.1)).map Value.ref).toArray nn) :: (rowsL ++ own)), p.1 ≠ d0 := all_app (fun p h => (hoff2 p h).1) (all_cons hfd0 (all_app (fun p h => (hoff p (List.mem_append_left _ h)).1) (fun p h => ho p h (d0, o) (.head _))))
      have hId0 : @Ne Nat I d0 := Ne.symm (hoI (d0, o2) (.tail _ (.head _)))
      have off0 : ∀ p ∈ ((T1, tupO X1 u1 Y1 v1) :: (T2, tupO X2 u2 Y2 v2) :: (T3, tupO X3 u3 Y3 v3) :: (T4, tupO X4 u4 Y4 v4) :: kl2) ++ ((gl, listOf [.ref T1, .ref T2, .ref T3, .ref T4].toArray 0) :: (Dz, listOf [.int P1 q1, .int P2 q2, .int P3 q3, .int P4 q4].toArray 0) :: (td, listOf (vt.set x.toNat (.int idx t10)).toArray 0) :: ((I, oI) :: ((fd, listOf ((rowsL.map (·.1)).map Value.ref).toArray nn) :: (rowsL ++ own)))), p.1 ≠ d0 := all_app (all_cons (Nat.ne_of_gt a1) (all_cons (Nat.ne_of_gt a2) (all_cons (Nat.ne_of_gt a3) (all_cons (Nat.ne_of_gt a4) (all_sub hR0 (by k_units)))))) (all_cons (Nat.ne_of_gt aG) (all_cons (Nat.ne_of_gt aD) (all_cons (Ne.symm hd0td) (all_cons hId0 (all_sub hR0 (by k_units))))))
      have hH3 : HL prog w d0 o2 ((T1, tupO X1 u1 Y1 v1) :: (T2, tupO X2 u2 Y2 v2) :: (T3, tupO X3 u3 Y3 v3) :: (T4, tupO X4 u4 Y4 v4) :: kl2) C (4 * (wd * y) + 4 * i) := hH2.more (by k_units) (Nat.le_refl _)
      have N13 := newsSub N12 (l' := (gl, listOf [.ref T1, .ref T2, .ref T3, .ref T4].toArray 0) :: (Dz, listOf [.int P1 q1, .int P2 q2, .int P3 q3, .int P4 q4].toArray 0) :: (d0, o2) :: (((T1, tupO X1 u1 Y1 v1) :: (T2, tupO X2 u2 Y2 v2) :: (T3, tupO X3 u3 Y3 v3) :: (T4, tupO X4 u4 Y4 v4) :: kl2) ++ ((td, listOf (vt.set x.toNat (.int idx t10)).toArray 0) :: ((I, oI) :: ((fd, listOf ((rowsL.map (·.1)).map Value.ref).toArray nn) :: (rowsL ++ own)))))) (by k_units)
      clear N12
      with_unfolding_all refine' loopZip2 (σ := Obj × Int × Tok) (xs := [.ref T1, .ref T2, .ref T3, .ref T4]) (ys := [.int P1 q1, .int P2 q2, .int P3 q3, .int P4 q4]) (n1 := 0) (n2 := 0)
                            (fun c => (gl, listOf [.ref T1, .ref T2, .ref T3, .ref T4].toArray 0) :: (Dz, listOf [.int P1 q1, .int P2 q2, .int P3 q3, .int P4 q4].toArray 0) :: (d0, c.1) :: (((T1, tupO X1 u1 Y1 v1) :: (T2, tupO X2 u2 Y2 v2) :: (T3, tupO X3 u3 Y3 v3) :: (T4, tupO X4 u4 Y4 v4) :: kl2) ++ ((td, listOf (vt.set x.toNat (.int idx t10)).toArray 0) :: ((I, oI) :: ((fd, listOf ((rowsL.map (·.1)).map Value.ref).toArray nn) :: (rowsL ++ own)))))) (fun c => [("lost", .int c.2.1 c.2.2)]) ["goal", "share"]
                            (fun j c => HL prog w d0 c.1 ((T1, tupO X1 u1 Y1 v1) :: (T2, tupO X2 u2 Y2 v2) :: (T3, tupO X3 u3 Y3 v3) :: (T4, tupO X4 u4 Y4 v4) :: kl2) (gifts wd ht x y wy e (C, lost2) j).1 (4 * (wd * y) + 4 * i + j) ∧ c.2.1 = (gifts wd ht x y wy e (C, lost2) j).2)
                            rfl (fun _ => .head _) (fun _ => .tail _ (.head _)) rfl F11 N13 ?init3 ?turn3 ?done3
      case init3 => exact ⟨(o2, lost2, tl2), rfl, List.forall_mem_cons.mpr ⟨rfl, all_nil⟩, hH3, rfl⟩
      case turn3 =>
        intro cc j Tz x' y' u3' h3' tk3' own3 hx' hy' hT3 hP3 ho3 F14 N14
        first | refine gen_post fun gG gD gO QQ hQQ => ?_ | refine gen_post2 fun gG gD gO QQ hQQ => ?_
        obtain ⟨o3, lost3, tl3⟩ := cc
        obtain ⟨hH4, hlost4⟩ := hP3
        dsimp only [kstB] at F14 N14 hH4 hlost4 ho3
        have hj4 : j = 0 ∨ j = 1 ∨ j = 2 ∨ j = 3 := by
          have := (List.getElem?_eq_some_iff.mp hx').1
          simp at this
          omega
        have off1 : ∀ p ∈ own3, p.1 ≠ d0 := fun p hp => ho3 p hp (d0, o3) (.tail _ (.tail _ (.head _)))
        have off2 : ∀ p ∈ ((T1, tupO X1 u1 Y1 v1) :: (T2, tupO X2 u2 Y2 v2) :: (T3, tupO X3 u3 Y3 v3) :: (T4, tupO X4 u4 Y4 v4) :: kl2) ++ ((gl, listOf [.ref T1, .ref T2, .ref T3, .ref T4].toArray 0) :: (Dz, listOf [.int P1 q1, .int P2 q2, .int P3 q3, .int P4 q4].toArray 0) :: ((td, listOf (vt.set x.toNat (.int idx t10)).toArray 0) :: ((I, oI) :: ((fd, listOf ((rowsL.map (·.1)).map Value.ref).toArray nn) :: (rowsL ++ (own ++ own3)))))), p.1 ≠ d0 := all_app (all_sub off0 (by k_units)) (all_cons (off0 (gl, _) (by k_units)) (all_cons (off0 (Dz, _) (by k_units)) (all_cons (off0 (td, _) (by k_units)) (all_cons (off0 (I, oI) (by k_units)) (all_cons (off0 (fd, _) (by k_units)) (all_app (all_sub off0 (by k_units)) (all_app (all_sub off0 (by k_units)) off1)))))))
        have hgen : ∃ (TJ : Addr) (XJ YJ PJ : Int) (uJ vJ qJ : Tok), x' = .ref TJ ∧ y' = .int PJ qJ ∧ (TJ, ({ cls := .type "tuple", data := .seq #[.int XJ uJ, .int YJ vJ] } : Obj)) ∈ ((T1, tupO X1 u1 Y1 v1) :: (T2, tupO X2 u2 Y2 v2) :: (T3, tupO X3 u3 Y3 v3) :: (T4, tupO X4 u4 Y4 v4) :: kl2) ∧ giveS wd ht (gifts wd ht x y wy e (C, lost2) j) XJ YJ PJ = gifts wd ht x y wy e (C, lost2) (j + 1) := by
          (try clear hQQ); (try clear F14); (try clear N14); (try clear ho3); (try clear hH4 hlost4)
          rcases hj4 with rfl | rfl | rfl | rfl <;> simp only [List.getElem?_cons_zero, List.getElem?_cons_succ, Option.some.injEq] at hx' hy' <;> subst hx' hy'
          · exact ⟨T1, X1, Y1, P1, u1, v1, q1, rfl, rfl, by k_units, by rw [c1, c5, c9]; rfl⟩
          · exact ⟨T2, X2, Y2, P2, u2, v2, q2, rfl, rfl, by k_units, by rw [c2, c6, c10]; rfl⟩
          · exact ⟨T3, X3, Y3, P3, u3, v3, q3, rfl, rfl, by k_units, by rw [c3, c7, c11]; rfl⟩
          · exact ⟨T4, X4, Y4, P4, u4, v4, q4, rfl, rfl, by k_units, by rw [c4, c8, c12]; rfl⟩
        refine exE7 hgen ?_
        clear hgen
        intro TJ XJ YJ PJ uJ vJ qJ hq0
        refine and4 hq0 ?_
        clear hq0
        rintro rfl rfl hTJ hgs
        have N15 := newsSub N14 (l' := (TJ, { cls := .type "tuple", data := .seq #[.int XJ uJ, .int YJ vJ] }) :: (d0, o3) :: (((T1, tupO X1 u1 Y1 v1) :: (T2, tupO X2 u2 Y2 v2) :: (T3, tupO X3 u3 Y3 v3) :: (T4, tupO X4 u4 Y4 v4) :: kl2) ++ ((gl, listOf [.ref T1, .ref T2, .ref T3, .ref T4].toArray 0) :: (Dz, listOf [.int P1 q1, .int P2 q2, .int P3 q3, .int P4 q4].toArray 0) :: ((td, listOf (vt.set x.toNat (.int idx t10)).toArray 0) :: ((I, oI) :: ((fd, listOf ((rowsL.map (·.1)).map Value.ref).toArray nn) :: (rowsL ++ (own ++ own3)))))))) (by k_units)
        have hTd : @Ne Nat TJ d0 := off2 _ (List.mem_append_left _ hTJ)
        have hj3 : j ≤ 3 := by omega
        clear N14 N13 hx' hy' hj4
        generalize hTl : (((T1, tupO X1 u1 Y1 v1) :: (T2, tupO X2 u2 Y2 v2) :: (T3, tupO X3 u3 Y3 v3) :: (T4, tupO X4 u4 Y4 v4) :: kl2) ++ ((gl, listOf [.ref T1, .ref T2, .ref T3, .ref T4].toArray 0) :: (Dz, listOf [.int P1 q1, .int P2 q2, .int P3 q3, .int P4 q4].toArray 0) :: ((td, listOf (vt.set x.toNat (.int idx t10)).toArray 0) :: ((I, oI) :: ((fd, listOf ((rowsL.map (·.1)).map Value.ref).toArray nn) :: (rowsL ++ (own ++ own3))))))) = TL at N15
        clear a1 b1 e1 f1 a2 b2 e2 f2 a3 b3 e3 f3 a4 b4 e4 f4 aG bG eG fG aD bD eD fD hB3 hB4 hB5 hB6 hB7 hpxe hidb hfi hset hnsi hraw Ivt hlv hsv hrow1 hst1 htail
        (try k_fold)
        k_steps
        all_goals first
          | (rename Fr g' L' _ _ => F16
             rename News g' L' _ _ => N16
             have hout : ¬ (0 ≤ XJ ∧ XJ < wd ∧ YJ < ht) := by omega
             have hgo : gifts wd ht x y wy e (C, lost2) (j + 1) = ((gifts wd ht x y wy e (C, lost2) j).1, (gifts wd ht x y wy e (C, lost2) j).2 + PJ) := by rw [← hgs]; unfold giveS giveC giveLost; rw [if_neg hout, if_neg hout]
             subst hTl
             refine hQQ _ _ _ (TurnPostK.next ?_)
             refine TurnEndK.intro (o3, lost3 + PJ, _) F16 N16 ?_ (Off.addr ho3 rfl) (List.forall_mem_cons.mpr ⟨rfl, all_nil⟩) ?_ ⟨?_, ?_⟩
             · k_units
             · intro z h2 h3
               have z0 := h2 _ (.head _)
               have z1 := not_in h3 "goal" (by k_units)
               have z2 := not_in h3 "share" (by k_units)
               (repeat first | with_reducible rfl | (refine (upd_ne (by assumption)).trans ?_) | (refine (if_neg (by assumption)).trans ?_) | (refine (ite_cf (by assumption)).trans ?_) | (refine (ite_cf rfl).trans ?_))
               all_goals rfl
             · rw [hgo]; exact hH4.more (fun _ h => h) (by omega)
             · rw [hgo]; exact congrArg (· + PJ) hlost4)
          | (unfold Halt
             rename Fr g' L' _ _ => F16
             rename News g' L' _ _ => N16
             have hin : 0 ≤ XJ ∧ XJ < wd ∧ YJ < ht := by omega
             have hgo : gifts wd ht x y wy e (C, lost2) (j + 1) = (fun a b => if a = XJ ∧ b = YJ then (gifts wd ht x y wy e (C, lost2) j).1 XJ YJ + PJ else (gifts wd ht x y wy e (C, lost2) j).1 a b, (gifts wd ht x y wy e (C, lost2) j).2) := by rw [← hgs]; unfold giveS giveC giveLost; rw [if_pos hin, if_pos hin]
             have hmem : ∀ p ∈ ((T1, tupO X1 u1 Y1 v1) :: (T2, tupO X2 u2 Y2 v2) :: (T3, tupO X3 u3 Y3 v3) :: (T4, tupO X4 u4 Y4 v4) :: kl2), p ∈ (TJ, ({ cls := .type "tuple", data := .seq #[.int XJ uJ, .int YJ vJ] } : Obj)) :: (d0, o3) :: TL := fun p hp => .tail _ (.tail _ (by rw [← hTl]; exact List.mem_append_left _ hp))
             refine heap_method N16 hH4 (.tail _ (.head _)) hmem ?_
             k_steps
             unfold Halt
             rename Fr g' L' _ _ => F17
             rename News g' L' _ _ => N17
             refine heap_get (a := XJ) (b := YJ) (by show un + 3 + 1 < cLine; omega) N17 hH4 (.tail _ (.head _)) hmem (T := TJ) (.head _) pairKey ?_
             intro t18 tk18
             k_steps
             unfold Halt
             rename Fr g' L' _ _ => F18
             rename News g' L' _ _ => N18
             subst hTl
             refine heap_set (kl := (T1, tupO X1 u1 Y1 v1) :: (T2, tupO X2 u2 Y2 v2) :: (T3, tupO X3 u3 Y3 v3) :: (T4, tupO X4 u4 Y4 v4) :: kl2) (rest := (gl, listOf [.ref T1, .ref T2, .ref T3, .ref T4].toArray 0) :: (Dz, listOf [.int P1 q1, .int P2 q2, .int P3 q3, .int P4 q4].toArray 0) :: ((td, listOf (vt.set x.toNat (.int idx t10)).toArray 0) :: ((I, oI) :: ((fd, listOf ((rowsL.map (·.1)).map Value.ref).toArray nn) :: (rowsL ++ (own ++ own3)))))) (a := XJ) (b := YJ) (by show un + 3 + 1 < cLine; omega) F18 (newsSub N18 fun p hp => .tail _ hp) hH4 (T := TJ) hTJ pairKey off2 (by omega) ?_
             intro h19 tk19 o19 F19 N19 H19
             (try clear N15); (try clear N16); (try clear N17); (try clear N18)
             k_steps
             refine hQQ _ _ _ (TurnPostK.next ?_)
             refine TurnEndK.intro (o19, lost3, tl3) F19 N19 ?_ (Off.addr ho3 rfl) (List.forall_mem_cons.mpr ⟨rfl, all_nil⟩) ?_ ⟨?_, ?_⟩
             · k_units
             · intro z h2 h3
               have z0 := h2 _ (.head _)
               have z1 := not_in h3 "goal" (by k_units)
               have z2 := not_in h3 "share" (by k_units)
               (repeat first | with_reducible rfl | (refine (upd_ne (by assumption)).trans ?_) | (refine (if_neg (by assumption)).trans ?_) | (refine (ite_cf (by assumption)).trans ?_) | (refine (ite_cf rfl).trans ?_))
               all_goals rfl
             · rw [hgo]; exact H19
             · rw [hgo]; exact hlost4)
      case done3 =>
        intro cc u3' h3' tk3' hP3 F14 N14
        obtain ⟨o3, lost3, tl3⟩ := cc
        obtain ⟨hH4, hlost4⟩ := hP3
        dsimp only [kstB] at F14 N14 hH4 hlost4
        clear N13
        (try k_fold)
        k_steps
        rename Fr g' L' _ _ => F16
        rename News g' L' _ _ => N16
        refine hQQ _ _ _ (TurnPost.next ?_)
        refine TurnEnd.intro ⟨o3, (T1, tupO X1 u1 Y1 v1) :: (T2, tupO X2 u2 Y2 v2) :: (T3, tupO X3 u3 Y3 v3) :: (T4, tupO X4 u4 Y4 v4) :: kl2, vt.set x.toNat (.int idx t10), lost3, tl3⟩ F16 N16 ?_ ?_ (List.forall_mem_cons.mpr ⟨rfl, all_nil⟩) ?_ ⟨?_, ?_, ?_, ?_⟩
        · k_units
        · exact all_cons (show @Ne Nat td I from hoI (td, listOf vt.toArray 0) (.head _)) (all_cons (Ne.symm hId0) (all_app (all_cons (Nat.ne_of_gt e1) (all_cons (Nat.ne_of_gt e2) (all_cons (Nat.ne_of_gt e3) (all_cons (Nat.ne_of_gt e4) (all_sub hoI (by k_units)))))) (all_sub hoI (by k_units))))
        · intro z h1 h2 h3
          have z0 := h2 _ (.head _)
          have z1 := not_in h3 "x" (by k_units)
          have z2 := not_in h3 "number" (by k_units)
          have z3 := not_in h3 "error" (by k_units)
          have z4 := not_in h3 "shares" (by k_units)
          have z5 := not_in h3 "goals" (by k_units)
          have z6 := not_in h3 "goal" (by k_units)
          have z7 := not_in h3 "share" (by k_units)
          have z8 : (["goal", "share"] : List Str).contains z = false := contains_no (by simp [z6, z7])
          (repeat first | with_reducible rfl | (refine (upd_ne (by assumption)).trans ?_) | (refine (if_neg (by assumption)).trans ?_) | (refine (ite_cf (by assumption)).trans ?_) | (refine (ite_cf rfl).trans ?_))
          all_goals rfl
        · rw [hrow1]; exact hH4.more (fun _ h => h) (by show 4 * (wd * y) + 4 * i + 4 ≤ 4 * (wd * y) + 4 * (i + 1); omega)
        · rw [hrow1]; exact hlost4
        · rw [hrow1]; exact Ivt
        · have own_lt : ∀ {T0 : Addr}, AllLt T0 (kl2 ++ (fd, listOf ((rowsL.map (·.1)).map Value.ref).toArray nn) :: (rowsL ++ own)) → (fd < T0) ∧ ∀ q ∈ own, q.1 < T0 := fun f0 => ⟨allLt_at f0 ((fd, listOf ((rowsL.map (·.1)).map Value.ref).toArray nn)) (by first | k_units | simp), fun q hq => allLt_at f0 q (by simp [hq])⟩
          exact all_cons ⟨Nat.ne_of_gt a1, Nat.ne_of_gt (own_lt f1).1, Nat.ne_of_gt b1, fun q hq => Nat.ne_of_lt ((own_lt f1).2 q hq)⟩ (all_cons ⟨Nat.ne_of_gt a2, Nat.ne_of_gt (own_lt f2).1, Nat.ne_of_gt b2, fun q hq => Nat.ne_of_lt ((own_lt f2).2 q hq)⟩ (all_cons ⟨Nat.ne_of_gt a3, Nat.ne_of_gt (own_lt f3).1, Nat.ne_of_gt b3, fun q hq => Nat.ne_of_lt ((own_lt f3).2 q hq)⟩ (all_cons ⟨Nat.ne_of_gt a4, Nat.ne_of_gt (own_lt f4).1, Nat.ne_of_gt b4, fun q hq => Nat.ne_of_lt ((own_lt f4).2 q hq)⟩ hoff2)))
    case done2 =>
      subst hwy
      intro c u2 h2 tk2 hP F5 N5
      obtain ⟨o2, kl2, vt, lost2, tl2⟩ := c
      refine and4 hP ?_
      clear hP
      rintro hH2 hlost2 hI2 hoff2
      dsimp only [kstB] at F5 N5 hH2 hlost2 hI2 hoff2
      have N6 := newsSub N5 (l' := (fd, listOf ((rowsL.map (·.1)).map Value.ref).toArray nn) :: (td, listOf vt.toArray 0) :: (d0, o2) :: (kl2 ++ (rowsL ++ own))) (by k_units)
      have hfdt : ∀ q ∈ (td, listOf vt.toArray 0) :: (d0, o2) :: (kl2 ++ (rowsL ++ own)), q.1 ≠ fd := all_cons (Ne.symm (htd (fd, listOf ((rowsL.map (·.1)).map Value.ref).toArray nn) (by k_units))) (all_cons (Ne.symm hfd0) (all_app (fun q h => (hoff2 q h).2.1) (all_app (fun q h => (hoff q (List.mem_append_left _ h)).2) (fun q h => ho q h (fd, listOf ((rowsL.map (·.1)).map Value.ref).toArray nn) (.tail _ (.head _))))))
      clear N5 N4 F3 R3 I0 hvs0
      (try k_fold)
      k_steps
      rename Fr g' L' _ _ => F7
      rename News g' L' _ _ => N7
      have hq : listOf (((rowsL ++ [(td, listOf vt.toArray 0)]).map (·.1)).map Value.ref).toArray (nn + 1) = listOf ((((rowsL.map (·.1)).map Value.ref).toArray).push (.ref td)) (nn + 1) := by simp
      refine hQQ _ _ _ (TurnPostK.next ?_)
      refine TurnEndK.intro (⟨o2, kl2, rowsL ++ [(td, listOf vt.toArray 0)], nn + 1, lost2, tl2⟩ : SS) F7 N7 ?_ ?_ (List.forall_mem_cons.mpr ⟨rfl, all_nil⟩) ?_ ⟨?_, ?_, ?_, ?_, ?_⟩
      · dsimp only
        rw [hq]
        k_units
      · exact fun p hp => all_cons (ho p hp (d0, o) (.head _)) (all_cons (ho p hp (fd, listOf ((rowsL.map (·.1)).map Value.ref).toArray nn) (.tail _ (.head _))) (all_app (all_app (fun q h => ho p hp q (List.mem_cons_of_mem _ (List.mem_cons_of_mem _ (List.mem_append_left _ h)))) (all_cons (htd p (List.mem_append_left _ hp)) all_nil)) (fun q h => (hoff2 q h).2.2.2 p hp)))
      · intro z h2 h3
        have z0 := h2 _ (.head _)
        have z1 := not_in h3 "x" (by k_units)
        have z2 := not_in h3 "number" (by k_units)
        have z3 := not_in h3 "error" (by k_units)
        have z4 := not_in h3 "shares" (by k_units)
        have z5 := not_in h3 "goals" (by k_units)
        have z6 := not_in h3 "goal" (by k_units)
        have z7 := not_in h3 "share" (by k_units)
        have z8 := not_in h3 "y" (by k_units)
        have z9 := not_in h3 "row" (by k_units)
        have z10 := not_in h3 "told" (by k_units)
        have z11 := not_in h3 "way" (by k_units)
        have z12 := not_in h3 "turn" (by k_units)
        have z13 : (["x", "number", "error", "shares", "goals", "goal", "share"] : List Str).contains z = false := contains_no (by simp [z1, z2, z3, z4, z5, z6, z7])
        (repeat first | with_reducible rfl | (refine (upd_ne (by assumption)).trans ?_) | (refine (if_neg (by assumption)).trans ?_) | (refine (ite_cf (by assumption)).trans ?_) | (refine (ite_cf rfl).trans ?_))
        all_goals rfl
      · exact hH2.more (fun _ h => h) (by rw [Nat.mul_succ]; omega)
      · exact hlost2
      · show (rowsL ++ [_]).length = y + 1
        rw [List.length_append, hlen]
        rfl
      · exact rowsAre_snoc2 hrows (hlen.trans (planeRun_len y).symm) hI2
      · exact all_app (all_app (fun p h => hoff p (List.mem_append_left _ h)) (all_cons ⟨Ne.symm (htd (d0, o) (by k_units)), Ne.symm (htd (fd, listOf ((rowsL.map (·.1)).map Value.ref).toArray nn) (by k_units))⟩ all_nil)) (fun p h => ⟨(hoff2 p h).1, (hoff2 p h).2.1⟩)
  case done =>
    intro c u h tk hP F2 N2
    obtain ⟨o, kl, rowsL, nn, lost, tl⟩ := c
    refine and5 hP ?_
    clear hP
    rintro hH hlost hlen hrows hoff
    dsimp only at hH hlost hlen hrows hoff
    dsimp only [kstB] at F2 N2
    clear N1 F1
    have has' : (as.map Value.ref).length = ht := by rw [List.length_map, has]
    rw [has'] at hH hlost hlen hrows
    subst hlost
    (try k_fold)
    k_steps
    rename Fr g' L' _ _ => F4
    rename News g' L' _ _ => N4
    refine hQQ _ _ _ ?_
    refine LeaveP.intro F4 (newsSub N4 (l' := (_, { cls := .type "tuple", data := .seq [.ref fd, .int (planeRun wd ht f n g ht).1.2 tl].toArray 0 }) :: (fd, listOf ((rowsL.map (·.1)).map Value.ref).toArray nn) :: rowsL) fun p hp => ?_) ⟨_, fd, tl, 0, rowsL, nn, rfl, rfl, hlen, hrows⟩
    revert p; k_units
end
end
section
noncomputable def encG (g : List (List Int)) : PyData := .list (g.map fun r => PyData.list (r.map PyData.int))
theorem readsAll_rows {h : Heap} : ∀ (as : List Addr) (g : List (List Int)), as.length = g.length → (∀ (y : Nat) a ns, as[y]? = some a → g[y]? = some ns → ∃ vs, h.IsList a (vs : List Value).toArray ∧ IntsAre vs ns) →
    ∃ ft, ReadsAll h (as.map Value.ref) (g.map fun r => PyData.list (r.map PyData.int)) ft
  | [], [], _, _ => ⟨[], .nil⟩
  | [], _ :: _, e, _ => by simp at e
  | _ :: _, [], e, _ => by simp at e
  | a :: as, r :: g, e, H => by
    obtain ⟨vs, h1, h2⟩ := H 0 a r rfl rfl
    obtain ⟨ft, h3⟩ := readsAll_rows as g (by simpa using e) fun y a ns e1 e2 => H (y + 1) a ns (by simpa using e1) (by simpa using e2)
    exact ⟨_, ReadsAll.cons (reads_of_ints h1 h2) h3⟩
theorem grid_reads {h : Heap} {rl : Addr} {g : List (List Int)} (G : GridAt h rl g) : ∃ ft, Reads h (.ref rl) (encG g) ft := by
  obtain ⟨as, ⟨o, h1, h2, n, h3⟩, h4, h5⟩ := G
  obtain ⟨ft, h6⟩ := readsAll_rows as g h4 h5
  exact ⟨_, Reads.list h1 h2 h3 (by simpa using h6)⟩
theorem canLayAll0_rows : ∀ g : List (List Int), PyData.canLayAll0 (g.map fun r => PyData.list (r.map PyData.int)) = true
  | [] => by simp [PyData.canLayAll0]
  | r :: g => by simp [PyData.canLayAll0, PyData.canLay0, canLayAll0_ints r, canLayAll0_rows g]
theorem depthAll_rows : ∀ g : List (List Int), PyData.depthAll (g.map fun r => PyData.list (r.map PyData.int)) ≤ 4
  | [] => by simp [PyData.depthAll]
  | r :: g => by
    have h1 := PySem.W.depthAll_ints r
    have h2 := depthAll_rows g
    simp only [List.map_cons, PyData.depthAll, PyData.depth]
    omega
theorem shaped_rows (g : List (List Int)) : SeqAt.shaped (encG g) = true := by
  have h1 := depthAll_rows g
  have h2 : PyData.depth (encG g) ≤ 64 := by unfold encG; simp only [PyData.depth]; omega
  show (PyData.canLay0 (encG g) && decide (PyData.depth (encG g) ≤ 64)) = true
  rw [Bool.and_eq_true]
  exact ⟨by unfold encG; simp only [PyData.canLay0]; exact canLayAll0_rows g, decide_eq_true h2⟩
theorem sameAll_rows : ∀ g : List (List Int), PySem.Spec.sameAll (g.map fun r => PyData.list (r.map PyData.int)) (g.map fun r => PyData.list (r.map PyData.int)) = true
  | [] => by simp [PySem.Spec.sameAll]
  | r :: g => by
    simp only [List.map_cons, PySem.Spec.sameAll]
    rw [ke_same, sameAll_rows g]
    simp
section
variable {prog : Program} {w : World} {A : Around} {E : Value → Shared → Prop} {s : Shared}
theorem grid_eq {a b : Addr} {g : List (List Int)} {Q : Value → Shared → Prop} (ha : GridAt s.heap a g) (hb : GridAt s.heap b g) (hu : A.units + 64 < cLine) (h : Q (.bool true) s) : wpAny (model prog w) A (compareOp .Eq (.ref a) (.ref b)) Q E s := by
  obtain ⟨f1, r1⟩ := grid_reads ha
  obtain ⟨f2, r2⟩ := grid_reads hb
  refine eq_dataH_same r1 r2 (shaped_rows g) (shaped_rows g) hu (SeqAt.noMix_of_shape (.list (.list .int)) rfl _ _ (list_map_has fun _ => list_map_has fun _ => rfl) (list_map_has fun _ => list_map_has fun _ => rfl)) ?_
  have : PySem.Spec.same (encG g) (encG g) = true := by unfold encG; simp only [PySem.Spec.same]; exact sameAll_rows g
  rw [this]
  exact h
end
theorem haltE {M : Model} {A : Around} {hp : Heap} {a b : Addr} {g : List (List Int)} {Q E : Value → Shared → Prop} {s : Shared} (_ : GridAt hp b g) (h : Halt (wpAny M A (compareOp .Eq (.ref a) (.ref b)) Q E s)) : wpAny M A (compareOp .Eq (.ref a) (.ref b)) Q E s := h
section
variable {prog : Program} {w : World} {p : Program} {loose : List Str} {mean : ExcName → Option Value} {mg mb : Str → Option Value} {dp un : Nat} {gd : Option (List Code)} {env : Env} {outer : List Env} {A₀ : Around} {base h₀ : Heap} {L : Addr} {m : Str → Option Value} {news : List (Addr × Obj)} {s : Shared}
  {Q E : Value → Shared → Prop}
  (B : Below A₀ base outer h₀) (F : Fr h₀ L s.heap m) (X : (hd.heap_1 w.params).In h₀) (N : News h₀ L s.heap news) (T : Top p loose mean mg mb h₀) (hf : env.frame = some L) (hk : env.scope.kind = .function)
include B F X N T hf hk
local macro_rules | `(tactic| walk_at "call builtin:len") => `(tactic| regdictc_post)
local macro_rules | `(tactic| walk_at "compareOp Eq ref ref") => `(tactic| with_reducible refine haltE (by assumption) ?_)
theorem alike_spec {pl ra : Addr} {wd ht : Nat} {g : List (List Int)} (hroom : dp + 2 < recursionLimit) (hun : un + 100 < cLine) (P : PlaneAt w s.heap pl wd ht g) (G : GridAt s.heap ra g) (hg : g.length = ht) (hgr : ∀ (j : Nat) ns, g[j]? = some ns → ns.length = wd) (h1 : 1 ≤ ht) (hw : wd ≤ 1000) (hh : ht ≤ 1000)
    (ret : ∀ h' tk', Fr h₀ L h' m → News h₀ L h' news → Q (.bool true) { s with heap := h', toks := tk' }) :
    wpAny (model prog w) (AA dp un gd env outer) (call (.ref 244) [.ref pl, .ref ra]) Q E s := by
  refine' enter (binds := [("plane", .ref pl), ("rows", .ref ra)]) (fun u _ => u = .bool true) B F X (core := []) all_nil T hf hk (fun v h' tk' nw F' _ st _ e => e ▸ ret h' tk' F' (newsRest N st fun _ _ => all_nil)) ?k6 ?k7 ?k8 ?k9 ?kB ?_ ?c2 ?c3 ?c4 ?c5
  (case k6 => k_dflt k_is); (case k7 => k_dflt k_is); (case k8 => k_dflt ktr_room); (case k9 => exact BindsTo.of_eq rfl); (case kB => first | exact locs rfl | exact rfl); (case c2 => rfl); (case c3 => rfl); (case c4 => rfl); (try case c5 => decide); (try case kD => decide +kernel)
  intro g' L' h' FG' F' N' B' X' T' l1 st'
  first | refine gen_post fun gG gD gO QQ hQQ => ?_ | refine gen_post2 fun gG gD gO QQ hQQ => ?_
  replace P := P.keep st'.nil
  replace G := G.keep st'.nil
  clear B F X N T ret hf hk
  refine exE7 P ?_
  clear P
  intro dpl rl u1 u2 u3 uw uh hq0
  refine and3 hq0 ?_
  clear hq0
  rintro hP1 hP2 G2
  obtain ⟨as, hr, has, hrow⟩ := id G
  obtain ⟨a0, ha0⟩ : ∃ a, as[(0 : Int).toNat]? = some a := ⟨as[0]'(by omega), List.getElem?_eq_getElem _⟩
  obtain ⟨ns0, hns0⟩ : ∃ ns, g[0]? = some ns := ⟨g[0]'(by omega), List.getElem?_eq_getElem _⟩
  obtain ⟨vs0, hl0, hi0⟩ := hrow 0 _ _ ha0 hns0
  have hlen0 : (vs0.toArray.size : Int) = (wd : Int) := by rw [List.size_toArray, hi0.length, hgr _ _ hns0]
  have hlen5 : ((as.map Value.ref).toArray.size : Int) = (ht : Int) := by simp [has, hg]
  (try dsimp only); (try k_fold)
  k_steps
  unfold Halt
  k_dflt (refine' grid_eq ?k1 ?k2 ?k3 ?_; (case k1 => exact GridAt.keep (by assumption) (Fr.keep (by k_asm))); (case k2 => exact GridAt.keep (by assumption) (Fr.keep (by k_asm))); (case k3 => show un + 3 + 64 < cLine; omega); k_whole)
  k_steps
  refine hQQ _ _ _ ?_
  exact LeaveP.intro (by assumption) (by assumption) rfl
end
end
section
local macro_rules | `(tactic| walk_at "no such step") => `(tactic| skip)
section
variable {M : Model} {A : Around} {E : Value → Shared → Prop} {h : Heap} {g : Array GenState} {d : Drawn} {t : Nat} {os : OsState}
variable {nm q : Str} {C N : Addr} {bs bm bmB : List Value} {hdct : Bool} {sn : List Str} {sub : List Value} {ab : Bool} {col : Option Bool} {dd : Option Addr} {k0 k1 k2 k3 k5 : Option Value} {B newId initId : String}
theorem check_new2 (F : ExcBaseFacts B newId initId bmB) (hB : bm.contains (.type B) = true) {rest : List Value} {Q : Unit → Shared → Prop} (hC : h.get? C = some (excClassObj nm q C N bs bm hdct sn sub ab col dd k0 k1 k2 k3 k5 newId))
    (hq : Q () ⟨h, g, d, t, os⟩) : wpAny M A (checkBuiltinCall newId ⟨.ref C :: rest, []⟩) Q E ⟨h, g, d, t, os⟩ := by
  have hcont : (Value.ref C :: bm).contains (.type B) = true := by rw [List.contains_cons, hB, Bool.or_true]
  have hstar := F.noStar
  simp only [checkBuiltinCall, F.newKind, F.newSplit, F.newRow]
  repeat (first | refine wpAny_loadPart_at hC ?_ | (refine wpAny_isSubtype_exc hC ?_; rw [hcont]) | refine wpAny_staticBase_exc hC ?_ | refine wpAny_madeBy_exc hC ?_ | simp only [bne_self_eq_false, Bool.false_eq_true, if_false] | wp_step)
  exact hq
end
section
variable {prog : Program} {w : World} {A : Around} {R : Result → Shared → Prop} {h : Heap} {g : Array GenState} {d : Drawn} {t : Nat} {os : OsState}
variable {nm q : Str} {C N : Addr} {bs bm bmB : List Value} {hdct : Bool} {sn : List Str} {sub : List Value} {ab : Bool} {col : Option Bool} {dd : Option Addr} {k0 k1 k2 k3 k5 : Option Value} {B newId initId : String}
theorem exc_new2 (F : ExcBaseFacts B newId initId bmB) (hB : bm.contains (.type B) = true) (hA : bm.contains (.type "AttributeError") = false) (hN : bm.contains (.type "NameError") = false) {rest : List Value} (hC : h.get? C = some (excClassObj nm q C N bs bm hdct sn sub ab col dd k0 k1 k2 k3 k5 newId))
    (hq : R (.ok (.ret (.ref (h.objs.size + 1)))) ⟨(h.push { cls := .type "tuple", data := .seq rest.toArray }).push
      { cls := .ref C, data := .fields #[.ref h.objs.size, .none, .none, .none, .bool false, .none] }, g, d, t, os⟩) (hrest : rest.length ≤ sizeLine := by size_fits) :
    codeAny (model prog w) A (.builtin newId ⟨.ref C :: rest, []⟩) R ⟨h, g, d, t, os⟩ := by
  have hends := F.ends
  have hcB : (Value.ref C :: bm).contains (.type B) = true := by rw [List.contains_cons, hB, Bool.or_true]
  have hcA : (Value.ref C :: bm).contains (.type "AttributeError") = false := by rw [List.contains_cons, hA]; rfl
  have hcN : (Value.ref C :: bm).contains (.type "NameError") = false := by rw [List.contains_cons, hN]; rfl
  refine codeAny_builtinAt F.entry ?_
  unfold Builtin.«BaseException.__new__»
  refine PySem.wpAt_bind ?_
  show PySem.wpAt _ _ _ (stack >>= _) _ _ _
  refine PySem.wpAt_bind (PySem.wpAt_stack fun p below => PySem.wpAt_of_wpAny ?_)
  wp_walk
  refine PySem.wpAt_of_wpAny ?_
  rw [F.owner]
  repeat (first | with_reducible refine wpAny_madeHere_exc F.canon hC ?_ | with_reducible refine wpAny_loadPart_at hC ?_ | (with_reducible refine wpAny_isSubtype_exc hC ?_; first | rw [hcB] | rw [hcA] | rw [hcN]) | wp_step)
  show R _ _
  rw [Heap.size_push]
  exact hq
end
section
variable {prog : Program} {w : World} {A : Around} {E : Value → Shared → Prop} {h : Heap} {g : Array GenState} {d : Drawn} {t : Nat} {os : OsState}
variable {nm q : Str} {C N : Addr} {bs bm bmB : List Value} {hdct : Bool} {sn : List Str} {sub : List Value} {ab : Bool} {col : Option Bool} {dd : Option Addr} {k0 k1 k2 k3 k5 : Option Value} {B newId initId : String}
theorem type_call2 (F : ExcBaseFacts B newId initId bmB) (hB : bm.contains (.type B) = true) (hA : bm.contains (.type "AttributeError") = false) (hN : bm.contains (.type "NameError") = false) {rest : List Value} {fI : Addr} {oI : Obj} {Q : Fin → Shared → Prop}
    (hC : h.get? C = some (excClassObj nm q C N bs bm hdct sn sub ab col dd k0 k1 k2 k3 k5 newId)) (hl : Looks (model prog w) h (typeLookup (.ref C) "__init__") (some (.ref fI)))
    (hfI : h.get? fI = some oI) (hfc : oI.cls = .type "function")
    (hq : ∀ h' e, Heap.MadeExcOf h h' e (.ref C) rest →
      wpAny (model prog w) A (call (.ref fI) (.ref e :: rest)) (fun r s' => r = .none ∧ Q (.done (.ret (.ref e))) s') E ⟨h', g, d, t, os⟩) (hrest : rest.length ≤ sizeLine := by size_fits) :
    wpAny (model prog w) A (Builtin.«type.__call__» ⟨.ref C :: rest, []⟩) Q E ⟨h, g, d, t, os⟩ := by
  repeat (first | with_reducible refine wpAny_loadPart_at hC ?_ | with_reducible refine wpAny_madeBy_exc hC ?_ | wp_step)
  refine codeAny_call_builtin_code (Code.quiet_builtin _ F.quiet) (check_new2 F hB hC ?_)
  refine exc_new2 F hB hA hN hC ?_ hrest
  show wpAny _ _ _ _ _ _
  have hC₁ := Heap.get?_push_of_some { cls := .ref C, data := .fields #[.ref h.objs.size, .none, .none, .none, .bool false, .none] }
    (Heap.get?_push_of_some { cls := .type "tuple", data := .seq rest.toArray } hC)
  have hfI₁ := Heap.get?_push_of_some { cls := .ref C, data := .fields #[.ref h.objs.size, .none, .none, .none, .bool false, .none] }
    (Heap.get?_push_of_some { cls := .type "tuple", data := .seq rest.toArray } hfI)
  have hget : ((h.push { cls := .type "tuple", data := .seq rest.toArray }).push
      { cls := .ref C, data := .fields #[.ref h.objs.size, .none, .none, .none, .bool false, .none] }).get? (h.objs.size + 1) = some
      { cls := .ref C, data := .fields #[.ref h.objs.size, .none, .none, .none, .bool false, .none] } := by heap_get
  have hcC : (Value.ref C :: bm).contains (.ref C) = true := by simp
  unfold isInstance
  repeat (first | with_reducible refine wpAny_loadPart_at hget ?_ | (with_reducible refine wpAny_isSubtype_exc hC₁ ?_; rw [hcC]) | wp_step)
  show wpAny _ _ (typeLookup (.ref C) _) _ _ _
  refine hl A _ E _ (fun b o hb => Heap.get?_push_of_some _ (Heap.get?_push_of_some _ hb)) ?_
  refine wpAny_holding (wpAny_bind ?_)
  unfold bindSpecial
  refine wpAny_bind (wpAny_typeOf (T := "function") ⟨_, hfI₁, hfc⟩ ?_)
  rw [if_pos (by decide)]
  refine wpAny_pure (wpAny_bind (wpAny_mono (hq _ (h.objs.size + 1) ⟨fun b o hb => Heap.get?_push_of_some _ (Heap.get?_push_of_some _ hb), Heap.get?_none_of_le (Nat.le_succ _), h.objs.size, hget, Heap.get?_none_of_le (Nat.le_refl _), ?_⟩) (fun r s' hr => ?_) fun _ _ x => x))
  · exact Heap.get?_push_of_some _ (Heap.get?_push_at rfl rfl)
  · obtain ⟨rfl, hQ⟩ := hr
    wp_walk
    exact hQ
theorem exc_call2 (F : ExcBaseFacts B newId initId bmB) (hB : bm.contains (.type B) = true) (hA : bm.contains (.type "AttributeError") = false) (hN : bm.contains (.type "NameError") = false) {rest : List Value} {fI : Addr} {oI : Obj} {Q : Value → Shared → Prop}
    (hC : h.get? C = some (excClassObj nm q C N bs bm hdct sn sub ab col dd k0 k1 k2 k3 k5 newId)) (hl : Looks (model prog w) h (typeLookup (.ref C) "__init__") (some (.ref fI)))
    (hfI : h.get? fI = some oI) (hfc : oI.cls = .type "function")
    (hq : ∀ h' e, Heap.MadeExcOf h h' e (.ref C) rest →
      wpAny (model prog w) (A.under (.builtin "type.__call__" ⟨.ref C :: rest, []⟩)) (call (.ref fI) (.ref e :: rest)) (fun r s' => r = .none ∧ Q (.ref e) s') E ⟨h', g, d, t, os⟩) (hrest : rest.length ≤ sizeLine := by size_fits) :
    wpAny (model prog w) A (call (.ref C) rest) Q E ⟨h, g, d, t, os⟩ := by
  have f1 := tc_lookup
  have f2 := tc_bind (.ref C)
  have hT : (⟨h, g, d, t, os⟩ : Shared).TypeIs (.ref C) "type" := ⟨_, hC, rfl⟩
  refine wpAny_call (codeAny_of_tree ?_)
  show wpAny _ _ (callAny (.ref C) _) _ _ _
  repeat (any_goals (first | assumption | with_reducible refine wpAny_loadPart_at hC ?_ | wp_step))
  refine ⟨rfl, ?_⟩
  refine codeAny_call_builtin_at (Code.quiet_builtin _ (by decide +kernel)) entry_typeCall (wpAny_check_type_call_sub hC (type_call2 (hrest := hrest) F hB hA hN hC hl hfI hfc fun h' e hm => ?_))
  exact hq h' e hm
theorem check_init2 (F : ExcBaseFacts B newId initId bmB) (hB : bm.contains (.type B) = true) {M : Model} {e : Addr} {oe : Obj} {rest : List Value} {Q : Unit → Shared → Prop}
    (hC : h.get? C = some (excClassObj nm q C N bs bm hdct sn sub ab col dd k0 k1 k2 k3 k5 newId)) (he : h.get? e = some oe) (hcls : oe.cls = .ref C) (hq : Q () ⟨h, g, d, t, os⟩) :
    wpAny M A (checkBuiltinCall initId ⟨.ref e :: rest, []⟩) Q E ⟨h, g, d, t, os⟩ := by
  have hcB : (Value.ref C :: bm).contains (.type B) = true := by rw [List.contains_cons, hB, Bool.or_true]
  have hshort := F.noStar
  simp only [checkBuiltinCall, F.initKind, F.initSplit, F.initRow]
  repeat (first | (with_reducible refine wpAny_loadPart_at he ?_; rw [hcls]) | with_reducible refine wpAny_loadPart_at hC ?_ | (with_reducible refine wpAny_isSubtype_exc hC ?_; rw [hcB]) | wp_step)
  refine wpAny_onRaise ?_
  rw [show ∀ (a b : String) (n : Nat), Bind.check ⟨.positional, "*", B, .self, [⟨"args", .varPos, false⟩]⟩ a b n (List.map (fun x => x.fst) ({ pos := Value.ref e :: rest } : Args).kw) = pure () from
    fun a b n => check_star_args _ _ _ _ _ _]
  exact wpAny_pure hq
theorem exc_init2 (F : ExcBaseFacts B newId initId bmB) (hB : bm.contains (.type B) = true) {e t0 : Addr} {rest : List Value} {Q : Value → Shared → Prop}
    (hC : h.get? C = some (excClassObj nm q C N bs bm hdct sn sub ab col dd k0 k1 k2 k3 k5 newId)) (hget : h.get? e = some { cls := .ref C, data := .fields #[.ref t0, .none, .none, .none, .bool false, .none] })
    (hq : ∀ h', (∀ b o, h.get? b = some o → b ≠ e → h'.get? b = some o) → h'.get? e = some { cls := .ref C, data := .fields #[.ref h.objs.size, .none, .none, .none, .bool false, .none] } →
      h'.get? h.objs.size = some { cls := .type "tuple", data := .seq rest.toArray } → Q .none ⟨h', g, d, t, os⟩) (hrest : rest.length ≤ sizeLine := by size_fits) :
    wpAny (model prog w) A (call (.builtin initId) (.ref e :: rest)) Q E ⟨h, g, d, t, os⟩ := by
  refine wpAny_call (codeAny_call_builtin F.init.plain F.initEntry (check_init2 F hB hC hget rfl ?_))
  wp_walk
  have le := Heap.lt_size hget
  refine hq _ (fun b o hb ne => ?_) ?_ ?_
  · rw [Heap.get?_update_other _ _ (Ne.symm ne)]
    exact Heap.get?_push_of_some _ hb
  · rw [Heap.get?_update_self _ (Heap.get?_push_of_some _ hget) rfl]
    rfl
  · rw [Heap.get?_update_other _ _ (Nat.ne_of_lt le)]
    exact Heap.get?_push_at rfl rfl
end
section
variable {prog : Program} {w : World} {A : Around} {E : Value → Shared → Prop} {h : Heap} {g : Array GenState} {d : Drawn} {t : Nat} {os : OsState}
variable {nm q : Str} {C C0 N x : Addr} {bs bm : List Value} {sn : List Str} {sub : List Value} {ab : Bool} {col : Option Bool} {dd : Option Addr} {k0 k1 k2 k3 k5 : Option Value} {B newId sa owner : String} {name : Str} {v : Value}
open Builtin Builtin.ObjectAttr
theorem check_sa2 {M : Model} {o : Obj} {nameV : Value} {Q : Unit → Shared → Prop} (SF : StoreFacts B bm sa owner)
    (hC : h.get? C = some (excClassObj nm q C N bs (.ref C0 :: bm) true sn sub ab col dd k0 k1 k2 k3 k5 newId)) (hx : h.get? x = some o) (hc : o.cls = .ref C) (hq : Q () ⟨h, g, d, t, os⟩) :
    wpAny M A (checkBuiltinCall sa ⟨[.ref x, nameV, v], []⟩) Q E ⟨h, g, d, t, os⟩ := by
  have hcB : (Value.ref C :: .ref C0 :: bm).contains (.type owner) = true := by rw [List.contains_cons, List.contains_cons, SF.hasOwner, Bool.or_true, Bool.or_true]
  have ha := SF.args (.ref x) nameV v
  simp only [checkBuiltinCall, SF.kind, SF.split]
  refine wpAny_bind ?_
  · unfold isInstance
    repeat (first | (with_reducible refine wpAny_loadPart_at hx ?_; rw [hc]) | (with_reducible refine wpAny_isSubtype_exc hC ?_; rw [hcB]) | wp_step)
    cases hsig : Manifest.signature? sa with
    | none => exact wpAny_pure hq
    | some sig =>
      simp only [argsOk, hsig] at ha
      have h2 : Bind.checkArgs sa sig ⟨[.ref x, nameV, v], []⟩ = pure () := ha
      show wpAny M A (Bind.checkArgs sa sig ⟨[.ref x, nameV, v], []⟩) Q E _
      rw [h2]; exact wpAny_pure hq
theorem store_entry2 {tk : Tok} {Q : Fin → Shared → Prop} {o : Obj} (SF : StoreFacts B bm sa owner)
    (hC : h.get? C = some (excClassObj nm q C N bs (.ref C0 :: bm) true sn sub ab col dd k0 k1 k2 k3 k5 newId)) (h2 : Looks (model prog w) h (typeLookup (.ref C) name) none) (hx : h.get? x = some o) (hc : o.cls = .ref C) (hdn : o.dict = none) (hnc : ∀ c, o.data ≠ .cls c)
    (hq : ∀ h' tk', (∀ b o, b ≠ x → h.get? b = some o → h'.get? b = some o) → h'.get? x = some { cls := o.cls, dict := some h.objs.size, data := o.data, slots := o.slots } → Q (.done (.ret .none)) ⟨h', g, d, tk', os⟩) :
    wpAny (model prog w) A (Builtin.«object.__setattr__» ⟨[.ref x, .str name tk, v], []⟩) Q E ⟨h, g, d, t, os⟩ := by
  have hpass := SF.passes (.ref x)
  unfold Builtin.«object.__setattr__»
  repeat (first | rw [refuse_eq] | (rw [refuseLoop_ref, refuseLoop_ref, hpass]) | (with_reducible refine wpAny_loadPart_at hx ?_; rw [hc]) | with_reducible refine wpAny_mroOf_exc hC ?_ | (with_reducible refine h2.here ?_) | wp_step)
  rw [hdn, if_neg (by simp [typeHasDict])]
  split
  · rename_i hcd
    cases hcd
  split
  · rename_i c hcd
    exact absurd hcd (hnc c)
  · have hx₁ : (h.push { cls := .type "dict", data := .dict #[] }).get? x = some o := Heap.get?_push_of_some _ hx
    have hxs : x ≠ h.objs.size := Nat.ne_of_lt (Heap.lt_size hx)
    refine wpAny_bind (wpAny_alloc' ?_)
    refine wpAny_bind (wpAny_update' hx₁ ?_)
    refine wpAny_pure ?_
    have hgd : ((h.push { cls := .type "dict", data := .dict #[] }).update x fun o => { cls := o.cls, dict := some h.objs.size, data := o.data, slots := o.slots }).get? h.objs.size
        = some { cls := .type "dict", data := .dict #[] } :=
      (Heap.get?_update_ne _ _ _ _ hxs.symm).trans (Heap.get?_push_at rfl rfl)
    have hnd : ((h.push { cls := .type "dict", data := .dict #[] }).update x fun o => { cls := o.cls, dict := some h.objs.size, data := o.data, slots := o.slots }).Ns h.objs.size (fun _ => none) :=
      ⟨_, #[], _, hgd, rfl, fun e he => absurd he (by first | k_units | simp), fun _ => rfl⟩
    show wpAny _ _ (storeInDict h.objs.size (.str name tk) name v) _ _ _
    unfold storeInDict newKeyGuard
    refine wpAny_bind (wpAny_pure (wpAny_bind (wpAny_nsSet1 (Heap.Ns1.of_empty hnd) fun h' hn' hs => ?_)))
    obtain ⟨oD, esD, epD, hoD, hdD, hcD⟩ := hn'.count (Within.cons name v Within.nil)
    refine wpAny_bind (wpAny_lookBehind hoD (by rw [hdD]; exact pastItsLine_dict (Nat.le_trans hcD (by rw [List.length_cons, List.length_nil, sizeLine_eq]; omega))) ?_)
    wp_walk
    refine hq h' _ (fun b ob hbx hb => ?_) ?_
    · exact (hs.2 b (Nat.ne_of_lt (Heap.lt_size hb))).trans ((Heap.get?_update_ne _ _ _ _ hbx).trans (Heap.get?_push_of_some _ hb))
    · refine (hs.2 x hxs).trans (Heap.get?_update_self _ hx₁ ?_)
      have hfr := (Heap.get?_some_iff.mp hx).2
      obtain ⟨oc, od, odt, osl⟩ := o
      cases odt <;> first | rfl | exact hfr
theorem store_attr2 {Q : Unit → Shared → Prop} {o : Obj} (SF : StoreFacts B bm sa owner)
    (hC : h.get? C = some (excClassObj nm q C N bs (.ref C0 :: bm) true sn sub ab col dd k0 k1 k2 k3 k5 newId)) (h1 : Looks (model prog w) h (typeLookup (.ref C) "__setattr__") (some (.builtin sa))) (h2 : Looks (model prog w) h (typeLookup (.ref C) name) none)
    (hx : h.get? x = some o) (hc : o.cls = .ref C) (hdn : o.dict = none) (hnc : ∀ c, o.data ≠ .cls c)
    (hq : ∀ h' tk', (∀ b o, b ≠ x → h.get? b = some o → h'.get? b = some o) → h'.get? x = some { cls := o.cls, dict := some h.objs.size, data := o.data, slots := o.slots } → Q () ⟨h', g, d, tk', os⟩) :
    wpAny (model prog w) A (setAttr (.ref x) name v) Q E ⟨h, g, d, t, os⟩ := by
  have f3 := SF.slot.bind (.ref x)
  unfold setAttr callSpecial? specialOf
  repeat (any_goals (first | assumption | (with_reducible refine wpAny_loadPart_at hx ?_; rw [hc]) | (with_reducible refine h1.here ?_) | wp_step))
  refine codeAny_call_builtin SF.slot.plain SF.entry (check_sa2 SF hC hx hc (store_entry2 SF hC h2 hx hc hdn hnc fun h' tk' hk hx' => ?_))
  repeat (any_goals (first | assumption | wp_step))
  exact hq h' tk' hk hx'
end
section
variable {prog : Program} {w : World} {A : Around} {E : Value → Shared → Prop}
noncomputable def RaisableO (C : Addr) (E : Value → Shared → Prop) (v : Value) (s₁ : Shared) : Prop :=
  ∃ e t sl dx nm q N bs bm hdct sn sub ab col dd k0 k1 k2 k3 k5 newId, v = .ref e ∧ s₁.heap.get? C = some (excClassObj nm q C N bs bm hdct sn sub ab col dd k0 k1 k2 k3 k5 newId) ∧ bm.contains (.type "BaseException") = true ∧
    s₁.heap.get? e = some { cls := .ref C, dict := dx, data := .fields #[.ref t, .none, .none, .none, .bool false, .none], slots := sl } ∧ E (.ref e) s₁
theorem raise_own {s : Shared} {env : Env} {C : Addr} {e : Expr} {pos : Pos} {Q : Flow → Shared → Prop} (hh : A.handled = none)
    (h : wpAny (model prog w) A (eval e env) (RaisableO C E) E s) : wpAny (model prog w) A (exec (.Raise (some e) none pos) env) Q E s := by
  show wpAny (model prog w) A (do standAt pos; raiseStmt env (some (do let v ← eval e env; standAt pos; pure v)) none) Q E s
  refine wpAny_bind (wpAny_standAt ?_)
  unfold raiseStmt
  dsimp only
  refine wpAny_bind (wpAny_bind (wpAny_mono h (fun v s₁ h₁ => wpAny_bind (wpAny_standAt (wpAny_pure ?_))) fun _ _ x => x))
  obtain ⟨e, t, sl, dx, nm, q, N, bs, bm, hdct, sn, sub, ab, col, dd, k0, k1, k2, k3, k5, newId, rfl, hC, hbase, he, hE⟩ := h₁
  have hcB : (Value.ref C :: bm).contains (.type "BaseException") = true := by rw [List.contains_cons, hbase, Bool.or_true]
  obtain ⟨hp, g, d, tk, os⟩ := s₁
  repeat (first | with_reducible refine wpAny_loadPart_at he ?_ | with_reducible refine wpAny_loadPart_at hC ?_ | (with_reducible refine wpAny_isSubtype_exc hC ?_; rw [hcB]) | wp_step)
  exact wpAny_raiseNew_none hh hE
end
theorem with_lookup {K : Frag} {a : Addr} {P : Prop} {o : Obj} (e : K.lookup a = some o) (k : K.lookup a = some o → P) : P := k e
theorem with_find {K : Frag} {v : Value} {n : Str} {P : Prop} {o : Option Value} (e : findIn K v n = some o) (k : findIn K v n = some o → P) : P := k e
section
variable {prog : Program} {w : World} {p : Program} {loose : List Str} {mean : ExcName → Option Value} {mg mb : Str → Option Value} {dp un : Nat} {gd : Option (List Code)} {env : Env} {outer : List Env} {A₀ : Around} {base h₀ : Heap} {L : Addr} {m : Str → Option Value} {s : Shared}
  {Q E : Value → Shared → Prop}
  (B : Below A₀ base outer h₀) (F : Fr h₀ L s.heap m) (X : (hd.heap_1 w.params).In h₀) (T : Top p loose mean mg mb h₀) (hf : env.frame = some L) (hk : env.scope.kind = .function)
include B F X T hf hk
local macro_rules | `(tactic| walk_at "call builtin:Exception.__init__") => `(tactic| refine halt ?_)
local macro_rules | `(tactic| walk_at "getMethod type:Exception") => `(tactic| refine halt ?_)
theorem rangeErr_spec {msg : Str} {ts : Tok} (hroom : dp + 3 < recursionLimit)
    (ret : ∀ h' tk' x t dx sl, Fr h₀ L h' m → s.heap.StaysIn h' → s.heap.get? x = none → s.heap.get? t = none → h'.get? x = some { cls := .ref 51, dict := dx, data := .fields #[.ref t, .none, .none, .none, .bool false, .none], slots := sl } →
      h'.TupAt t [.str msg ts] → Q (.ref x) { s with heap := h', toks := tk' }) :
    wpAny (model prog w) (AA dp un gd env outer) (call (.ref 51) [.str msg ts]) Q E s := by
  have hX := X.keeps F.keep
  obtain ⟨hp, gg, dr, tk, os⟩ := s
  k_dflt (refine' with_lookup (K := hd.heap_1 w.params) (a := 51) ?e1 ?_; (case e1 => k_is))
  intro h51
  k_dflt (refine' with_find (K := hd.heap_1 w.params) (v := .ref 51) (n := "__init__") ?e2 ?_; (case e2 => k_is))
  intro hfi
  k_dflt (refine' with_lookup (K := hd.heap_1 w.params) (a := 35) ?e1 ?_; (case e1 => k_is))
  intro h35
  k_dflt (refine' with_find (K := hd.heap_1 w.params) (v := .ref 51) (n := "__setattr__") ?e2 ?_; (case e2 => k_is))
  intro hsa
  k_dflt (refine' with_find (K := hd.heap_1 w.params) (v := .ref 51) (n := "message") ?e2 ?_; (case e2 => k_is))
  intro hms
  refine exc_call2 (C := 51) PySem.F.excBase_Exception ?hB ?hA ?hN (hX 51 _ h51) (looks_findIn hX hfi) (hX 35 _ h35) rfl ?_ ?hr
  case hB => decide
  case hA => decide
  case hN => decide
  case hr => size_fits
  intro h' e hm
  obtain ⟨t, he, htn, ht⟩ := hm.there
  have F2 : Fr h₀ L h' m := F.keeps hm.keeps
  have nL : ∀ b, hp.get? b = none → @Ne Nat b L := fun b e q => by
    obtain ⟨oL, _, _, eL, _⟩ := F.ns
    rw [q] at e; exact absurd (e.symm.trans eL) (by first | k_units | simp)
  have N2 : News h₀ L h' [(e, { cls := .ref 51, data := .fields #[.ref t, .none, .none, .none, .bool false, .none] }), (t, { cls := .type "tuple", data := .seq [Value.str msg ts].toArray })] := fun q hq => by
    rcases List.mem_cons.mp hq with rfl | hq
    · exact ⟨he, nL _ hm.new, kts_none F.keep hm.new⟩
    · rw [List.mem_singleton.mp hq]; exact ⟨ht, nL _ htn, kts_none F.keep htn⟩
  have net : @Ne Nat e t := fun q => by
    rw [q, ht] at he; cases he
  k_dflt (refine' enter (binds := [("self", .ref e), ("message", .str msg ts)]) (fun v nw => v = .none ∧ ∃ t' dx sl ot nn, (e, { cls := .ref 51, dict := dx, data := .fields #[.ref t', .none, .none, .none, .bool false, .none], slots := sl }) ∈ nw ∧ (t', { cls := .type "tuple", data := .seq [Value.str msg ts].toArray nn, slots := ot }) ∈ nw) B F2 X N2 T hf hk ?ret ?k6 ?k7 ?k8 ?k9 ?kB ?_ ?c2 ?c3 ?c4 ?c5)
  case k8 => (change dp + 1 < recursionLimit; omega)
  case k6 => k_dflt k_is
  case k7 => k_dflt k_is
  case k9 => exact BindsTo.of_eq rfl
  case c5 => decide
  case kB => exact locs rfl
  case c2 => exact rfl
  case c3 => exact rfl
  case c4 => exact rfl
  case ret =>
    rintro v h5 tk5 nw F5 N5 st5 fr5 ⟨rfl, t5, dx, sl, ot, nn, m1, m2⟩
    refine ⟨rfl, ret h5 tk5 e t5 dx sl F5 (fun b o hb => st5 b o (hm.keeps b o hb) fun p hp => ?_) hm.new ?_ (N5 _ m1).1 ⟨_, nn, (N5 _ m2).1, rfl, rfl⟩⟩
    · rcases List.mem_cons.mp hp with rfl | hp
      · exact fun q => by rw [← q, hm.new] at hb; cases hb
      · rw [List.mem_singleton.mp hp]; exact fun q => by rw [← q, htn] at hb; cases hb
    · cases q : hp.get? t5 with
      | none => rfl
      | some o =>
        by_cases q1 : t5 = e
        · rw [q1, hm.new] at q; cases q
        by_cases q2 : t5 = t
        · rw [q2, htn] at q; cases q
        have := fr5 _ m2 (fun p hp => by
          rcases List.mem_cons.mp hp with rfl | hp
          · exact Ne.symm q1
          · rw [List.mem_singleton.mp hp]; exact Ne.symm q2)
        have z := hm.keeps _ _ q
        replace this : h'.get? t5 = none := this
        rw [z] at this; cases this
  have hB1 : ([Value.ref 38, Value.type "Exception", Value.type "BaseException", Value.type "object"]).contains (.type "Exception") = true := by decide
  clear B F X T ret hf hk F2 hX h35 hfi
  intro g' L' h'' FG' F' N' B' X' T' l1 st'
  (try dsimp only); (try k_fold)
  k_steps
  unfold Halt
  (refine' method_type ?F ?X ?m (by decide +kernel) ?e ?h ?_; (case F => k_asm); (case X => k_asm); (case m => first | rfl | kernel_rfl); (case e => k_dflt k_is); (case h => k_handed))
  k_steps
  unfold Halt
  rename Fr g' L' _ _ => F1
  rename News g' L' _ _ => N1
  have hC1 := X'.keeps F1.keep 51 _ h51
  have he1 := N1 _ (.head _)
  refine exc_init2 (C := 51) PySem.F.excBase_Exception hB1 hC1 he1.1 (fun h3 kp he3 ht3 => ?_) (by size_fits)
  have F3 : Fr g' L' h3 (fun y => List.lookup y ([("self", Value.ref e), ("message", .str msg ts)] : List (Str × Value)).reverse) := by
    obtain ⟨oL, es, ep, eL, r⟩ := F1.ns
    exact ⟨⟨oL, es, ep, kp _ _ eL (Ne.symm he1.2.1), r⟩, fun b o hb => kp _ _ (F1.keep b o hb) (fun q => by rw [q, he1.2.2] at hb; cases hb), F1.above⟩
  have nt3 : g'.get? h''.objs.size = none := kts_none F1.keep (Heap.get?_none_of_le (Nat.le_refl _))
  have N3 : News g' L' h3 [(e, { cls := .ref 51, data := .fields #[.ref h''.objs.size, .none, .none, .none, .bool false, .none] }), (h''.objs.size, { cls := .type "tuple", data := .seq [Value.str msg ts].toArray })] := fun q hq => by
    rcases List.mem_cons.mp hq with rfl | hq
    · exact ⟨he3, he1.2.1, he1.2.2⟩
    · rw [List.mem_singleton.mp hq]
      refine ⟨ht3, fun q => ?_, nt3⟩
      obtain ⟨oL, es, ep, eL, r⟩ := F1.ns
      have := Heap.lt_size eL
      rw [← q] at this
      exact Nat.lt_irrefl _ this
  k_steps
  have hX3 := X'.keeps F3.keep
  refine store_attr2 (C := 51) PySem.F.store_Exception (hX3 51 _ h51) (looks_findIn hX3 hsa) (looks_findIn hX3 hms) he3 rfl rfl (fun _ q => nomatch q) (fun h4 tk4 kp4 he4 => ?_)
  have n4 : g'.get? e = none := he1.2.2
  have F4 : Fr g' L' h4 (fun y => List.lookup y ([("self", Value.ref e), ("message", .str msg ts)] : List (Str × Value)).reverse) := by
    obtain ⟨oL, es, ep, eL, r⟩ := F3.ns
    exact ⟨⟨oL, es, ep, kp4 _ _ (Ne.symm he1.2.1) eL, r⟩, fun b o hb => kp4 _ _ (fun q => by rw [q, he1.2.2] at hb; cases hb) (F3.keep b o hb), F3.above⟩
  have N4 : News g' L' h4 [(e, { cls := .ref 51, dict := some h3.objs.size, data := .fields #[.ref h''.objs.size, .none, .none, .none, .bool false, .none] }), (h''.objs.size, { cls := .type "tuple", data := .seq [Value.str msg ts].toArray })] := fun q hq => by
    rcases List.mem_cons.mp hq with rfl | hq
    · exact ⟨he4, he1.2.1, he1.2.2⟩
    · have z := N3 _ (.tail _ (.head _))
      rw [List.mem_singleton.mp hq]
      exact ⟨kp4 _ _ (Nat.ne_of_gt (Heap.lt_size he1.1)) z.1, z.2⟩
  clear F1 N1 F3 N3
  k_steps
  exact LeaveP.intro F4 N4 ⟨rfl, _, _, _, _, _, .head _, .tail _ (.head _)⟩
theorem rangeErr_raise {msg : Str} {ts : Tok} {E' : Value → Shared → Prop} (hroom : dp + 3 < recursionLimit)
    (ret : ∀ h' tk' x t dx sl, Fr h₀ L h' m → s.heap.StaysIn h' → s.heap.get? x = none → s.heap.get? t = none → h'.get? x = some { cls := .ref 51, dict := dx, data := .fields #[.ref t, .none, .none, .none, .bool false, .none], slots := sl } →
      h'.TupAt t [.str msg ts] → E (.ref x) { s with heap := h', toks := tk' }) :
    wpAny (model prog w) (AA dp un gd env outer) (call (.ref 51) [.str msg ts]) (RaisableO 51 E) E' s := by
  refine rangeErr_spec B F X T hf hk hroom fun h' tk' x t dx sl F' st n1 n2 e1 e2 => ?_
  have hX' := X.keeps F'.keep
  k_dflt (refine' with_lookup (K := hd.heap_1 w.params) (a := 51) ?e1 ?_; (case e1 => k_is))
  intro h51
  exact ⟨x, t, sl, dx, _, _, _, _, _, _, _, _, _, _, _, _, _, _, _, _, _, rfl, hX' 51 _ h51, (by decide), e1, ret h' tk' x t dx sl F' st n1 n2 e1 e2⟩
end
end
section
theorem mem_frames {env : Env} {L b : Addr} {outer : List Env} (hf : env.frame = some L) (hm : b ∈ (env :: outer).filterMap (·.frame)) : b = L ∨ b ∈ outer.filterMap (·.frame) := by
  obtain ⟨env', he, hf'⟩ := List.mem_filterMap.mp hm
  rcases List.mem_cons.mp he with rfl | he
  · exact .inl (Option.some.inj (hf'.symm.trans hf))
  · exact .inr (List.mem_filterMap.mpr ⟨env', he, hf'⟩)
noncomputable def RaiseP (C : Prop) (base g : Heap) (env' : Env) (outer' : List Env) (L' : Addr) (s : Shared) (e : Value) (s' : Shared) : Prop :=
  C ∧ ∃ x h' tk', e = .ref x ∧ s' = { s with heap := h', toks := tk' } ∧
    ((∃ h m t vs dx sl, Fr g L' h m ∧ h.StaysIn h' ∧ h.get? x = none ∧ h.get? t = none ∧ h'.get? x = some { cls := .ref 51, dict := dx, data := .fields #[.ref t, .none, .none, .none, .bool false, .none], slots := sl } ∧ h'.TupAt t vs) ∨
      ∃ G m t vs, Fr g L' G m ∧ RaisedS base G (env' :: outer') x (.ref 51) t vs [] h' ∧ G.UpToSlots h')
theorem RaiseP.here {C : Prop} {base g h h' : Heap} {env' : Env} {outer' : List Env} {L' x t : Addr} {s : Shared} {tk' : Nat} {m : Str → Option Value} {vs : List Value} {dx : Option Addr} {sl : Array (Option Value)} (hc : C) (F : Fr g L' h m) (st : h.StaysIn h') (n1 : h.get? x = none) (n2 : h.get? t = none)
    (e1 : h'.get? x = some { cls := .ref 51, dict := dx, data := .fields #[.ref t, .none, .none, .none, .bool false, .none], slots := sl }) (e2 : h'.TupAt t vs) : RaiseP C base g env' outer' L' s (.ref x) { s with heap := h', toks := tk' } :=
  ⟨hc, x, h', tk', rfl, rfl, .inl ⟨h, m, t, vs, dx, sl, F, st, n1, n2, e1, e2⟩⟩
theorem RaiseP.on {C : Prop} {base g G h' : Heap} {env' : Env} {outer' : List Env} {L' x t : Addr} {s : Shared} {tk' : Nat} {m : Str → Option Value} {vs : List Value} (hc : C) (F : Fr g L' G m) (R : RaisedS base G (env' :: outer') x (.ref 51) t vs [] h') (U : G.UpToSlots h') :
    RaiseP C base g env' outer' L' s (.ref x) { s with heap := h', toks := tk' } := ⟨hc, x, h', tk', rfl, rfl, .inr ⟨G, m, t, vs, F, R, U⟩⟩
section
variable {M : Model} {A : Around} {E : Value → Shared → Prop} {s s' : Shared} {base g : Heap} {outer : List Env} {L : Addr} {env' : Env} {e : Value} {Q : Unit → Shared → Prop}
theorem leaveErr {C : Prop} (K : Below A base outer g) (hf : env'.frame = some L) (hk : env'.scope.kind = .function) (R : RaiseP C base g env' outer L s e s')
    (hQ : ∀ x t vs h' tk', C → e = .ref x → RaisedS base g outer x (.ref 51) t vs [] h' → g.UpToSlots h' → Q () { s with heap := h', toks := tk' }) :
    wpAny M (A.deeper env') (leaving env' e) Q E s' := by
  obtain ⟨hc, x, h1, tk', rfl, rfl, ⟨h, m, t, vs, dx, sl, F, st, n1, n2, e1, e2⟩ | ⟨G, m, t, vs, F, R, U⟩⟩ := R
  · have K' := pushX K F hf hk
    have hin : ∀ env ∈ (env' :: outer), ∀ b, env.frame = some b → b ∈ (env' :: outer).filterMap (·.frame) := fun env he b hb => List.mem_filterMap.mpr ⟨env, he, hb⟩
    have stB : base.StaysIn (hideAll h ((env' :: outer).filterMap (·.frame))) := fun b o q => hideAll_get _ (K'.stays b o q) fun hm => by
      rw [(K'.frames.mem hm).1] at q; cases q
    have sg : ∀ b o, g.get? b = some o → b ∉ outer.filterMap (·.frame) → (hideAll h ((env' :: outer).filterMap (·.frame))).get? b = some o := fun b o q nm => hideAll_get _ (F.keep b o q) fun hm => by
      rcases mem_frames hf hm with z | z
      · rw [z, kts_self F] at q
        cases q
      · exact nm z
    have hB : (hideAll h ((env' :: outer).filterMap (·.frame))).StaysIn h1 := fun b o q => st b o (of_hideAll _ q)
    have fresh : ∀ b, h.get? b = none → (hideAll h ((env' :: outer).filterMap (·.frame))).get? b = none := fun b hb => by
      cases q : (hideAll h ((env' :: outer).filterMap (·.frame))).get? b with
      | none => rfl
      | some o => have := of_hideAll _ q; rw [hb] at this; cases this
    refine wpAny_leaving_firstW (a0 := .ref t) (oe := { cls := .ref 51, dict := dx, data := .fields #[.ref t, .none, .none, .none, .bool false, .none], slots := sl }) K'.stack
      ((funFrames_hide K'.frames hin).of_keeps fun b o hb _ => ⟨o, st b o hb, rfl⟩) hf e1 hB (fresh x n1) rfl rfl rfl fun h' hL => ?_
    obtain ⟨k1, ⟨_, _, k2⟩, k3, k4⟩ := hL
    exact hQ x t vs h' tk' hc rfl ⟨⟨_, stB, sg, (fun _ hq => nomatch hq), ⟨k1, fresh x n1, k2, k3⟩, fresh t n2⟩, e2.of_slots k4⟩
      (((Heap.UpToSlots.of_keeps F.keep).trans (Heap.UpToSlots.of_keeps st)).trans k4)
  · obtain ⟨⟨B, hB, hBG, hl, hfl, hnew⟩, htup⟩ := R
    exact wpAny_leaves_onW (Around.frames_deeper K.stack) hf hfl fun h' x1 x2 =>
      hQ x t vs h' tk' hc rfl ⟨⟨B, hB, fun b o q nm => hBG b o (F.keep b o q) (fun hm => by
        rcases mem_frames hf hm with z | z
        · rw [z, kts_self F] at q
          cases q
        · exact nm z), (fun _ hq => nomatch hq), x1, hnew⟩, htup.of_slots x2⟩ ((Heap.UpToSlots.of_keeps F.keep).trans (U.trans x2))
end
section
variable {prog : Program} {w : World} {A₀ : Around} {s : Shared} {base h₀ : Heap} {outer : List Env} {L : Addr} {m mg mb : Str → Option Value} {env : Env} {K : Frag} {p : Program} {loose : List Str} {mean : ExcName → Option Value}
  {name qual : Str} {params : Arguments} {body : List Stmt} {scope : Scope} {cl : List (Str × Addr)} {dV kV doc pm cdv ct oc : Value} {an od : Option Addr} {osl : Array (Option Value)} {f : Addr} {args : List Value} {binds : List (Str × Value)}
  {dp un : Nat} {gd : Option (List Code)} {Q E : Value → Shared → Prop}
theorem enterR (Post : Value → List (Addr × Obj) → Prop) (C : Prop)
    (B : Below A₀ base outer h₀) (F : Fr h₀ L s.heap m) (X₀ : K.In h₀) (T : Top p loose mean mg mb h₀) (hf : env.frame = some L) (hke : env.scope.kind = .function)
    (ret : ∀ v h' tk' news', Fr h₀ L h' m → News h₀ L h' news' → s.heap.StaysIn h' → (∀ p ∈ news', s.heap.get? p.1 = none) → Post v news' → Q v { s with heap := h', toks := tk' })
    (err : C → ∀ x t vs h' tk', RaisedS base s.heap (env :: outer) x (.ref 51) t vs [] h' → s.heap.UpToSlots h' → E (.ref x) { s with heap := h', toks := tk' })
    (ho : K.lookup f = some ⟨oc, od, .func (fnOf name qual params body scope dV kV doc pm an cdv ct), osl⟩) (hcd : codeIn K cdv qual = true) (hroom : dp < recursionLimit)
    (hbind : BindsTo s (fnOf name qual params body scope dV kV doc pm an cdv ct) ⟨args, []⟩ binds) (hloc : ∀ y ∈ binds, scope.names.lookup y.1 = some .local)
    (h : ∀ L' h₁, Fr h₀ L s.heap m → Fr s.heap L' h₁ (fun y => binds.reverse.lookup y) → News s.heap L' h₁ [] → Below (AA dp un gd env outer) base (env :: outer) s.heap → K.In s.heap → Top p loose mean mg mb s.heap →
      wpAny (model prog w) ((AA dp un gd env outer).deeper (envOf qual scope L' f cdv)) (execs body (envOf qual scope L' f cdv))
        (fun fl s' => LeaveP s.heap s Post (match fl with | .ret v => v | _ => .none) s')
        (fun e s' => RaiseP C base s.heap (envOf qual scope L' f cdv) (env :: outer) L' s e s')
        { s with heap := h₁, toks := s.toks + binds.length })
    (hco : scope.isCoroutine = false) (hgen : scope.isGenerator = false) (hk : scope.kind = .function)
    (hcell : ∀ x ∈ scope.names, x.2 ≠ .cell) : wpAny (model prog w) (AA dp un gd env outer) (call (.ref f) args) Q E s := by
  have hA : (AA dp un gd env outer).frames = some (env :: outer) := rfl
  obtain ⟨FG, BG, st, lv⟩ := groundX (news := []) (R := fun r s' => match r with | .ok (.ret v) => Q v s' | .ok _ => False | .error e => E e s') B F all_nil hA hf hke
  refine wpAny_call (codeAny_call_def (fd := fnOf name qual params body scope dV kV doc pm an cdv ct) (body := body) (binds := binds) hroom ((X₀.keeps F.keep) _ _ ho) rfl (T.nolimit.keeps F.keep) (codeRec_of (X₀.keeps F.keep) hcd) rfl hbind hcell hloc (fun h₁ hns hk₁ => ?_) hco hgen hk)
  refine wpAny_mono (h s.heap.objs.size h₁ F ⟨hns, hk₁, Nat.le_refl _⟩ (fun _ hp => nomatch hp) BG (X₀.keeps F.keep) (T.keeps F.keep)) (fun fl s' hl => ?_) (fun e s' he => ?_)
  · obtain ⟨h', tk', L', m', news', rfl, F', N', hP⟩ := hl
    refine lv _ _ ⟨L', m', news', F', N', fun F'' N'' => ?_⟩
    exact ret _ _ _ _ F'' N'' F'.keep (fun p hp => (N' p hp).2.2) hP
  · exact leaveErr BG rfl hk he fun x t vs h' tk' hc q R U => by subst q; exact err hc x t vs h' tk' R U
theorem enterRC (Post : Value → List (Addr × Obj) → Prop) (C : Prop)
    (B : Below A₀ base outer h₀) (F : Fr h₀ L s.heap m) (X₀ : K.In h₀) (T : Top p loose mean mg mb h₀) (hf : env.frame = some L) (hke : env.scope.kind = .function)
    (ret : ∀ v h' tk' news', Fr h₀ L h' m → News h₀ L h' news' → s.heap.StaysIn h' → (∀ p ∈ news', s.heap.get? p.1 = none) → Post v news' → Q v { s with heap := h', toks := tk' })
    (err : C → ∀ x t vs h' tk', RaisedS base s.heap (env :: outer) x (.ref 51) t vs [] h' → s.heap.UpToSlots h' → E (.ref x) { s with heap := h', toks := tk' })
    (ho : K.lookup f = some ⟨oc, od, .func (fnOf name qual params body scope dV kV doc pm an cdv ct), osl⟩) (hcd : codeIn K cdv qual = true) (hroom : dp < recursionLimit)
    (hbind : BindsTo s (fnOf name qual params body scope dV kV doc pm an cdv ct) ⟨args, []⟩ binds) (hkind : (binds.all fun y => scope.names.lookup y.1 == some .local || scope.names.lookup y.1 == some .cell) = true)
    (hnd : ((cellsFrom 0 scope.names []).map (·.1)).Nodup)
    (h : ∀ L' h₁ tk cells, Fr h₀ L s.heap m → Fr s.heap L' h₁ (bindL (envOfC qual scope L' f cdv).kindOf binds fun _ => none) → News s.heap L' h₁ (cells ++ []) →
      CellsAre (bindC (envOfC qual scope L' f cdv).kindOf binds fun _ => none) (cellsFrom (L' + 1) scope.names []) cells → Below (AA dp un gd env outer) base (env :: outer) s.heap → K.In s.heap → Top p loose mean mg mb s.heap →
      wpAny (model prog w) ((AA dp un gd env outer).deeper (envOfC qual scope L' f cdv)) (execs body (envOfC qual scope L' f cdv))
        (fun fl s' => LeaveP s.heap s Post (match fl with | .ret v => v | _ => .none) s')
        (fun e s' => RaiseP C base s.heap (envOfC qual scope L' f cdv) (env :: outer) L' s e s')
        { s with heap := h₁, toks := tk })
    (hco : scope.isCoroutine = false) (hgen : scope.isGenerator = false) (hk : scope.kind = .function) : wpAny (model prog w) (AA dp un gd env outer) (call (.ref f) args) Q E s := by
  have hA : (AA dp un gd env outer).frames = some (env :: outer) := rfl
  obtain ⟨FG, BG, st, lv⟩ := groundX (news := []) (R := fun r s' => match r with | .ok (.ret v) => Q v s' | .ok _ => False | .error e => E e s') B F all_nil hA hf hke
  refine wpAny_call (codeAny_call_function hroom ((X₀.keeps F.keep) _ _ ho) rfl hco hgen rfl (codeRec_of (X₀.keeps F.keep) hcd) (hbind _ _ _ _ ?_))
  refine wpAny_newFunctionEnv_cells hk (kindsX hkind _) fun env' he s' x => ?_
  subst he
  refine ⟨(T.nolimit.keeps F.keep).keeps x.toInCall.keep, codeAny_func ?_⟩
  obtain ⟨h₁, tk, rfl, _⟩ := x.done
  have hk₁ := x.toInCall.keep
  obtain ⟨cells, NC, Y⟩ := Cl.news (h₀ := s.heap) (Nat.le_refl _) fun n c hm => ⟨x.cell n c (lookup_of_mem_nodup (cellsFrom_names scope.names 0 (s.heap.objs.size + 1) [] [] rfl ▸ hnd) hm), x.above n c hm⟩
  refine wpAny_mono (h s.heap.objs.size h₁ tk cells F ⟨x.toInCall.ns, hk₁, Nat.le_refl _⟩ (fun p hp => ?_) Y BG (X₀.keeps F.keep) (T.keeps F.keep)) (fun fl s' hl => ?_) (fun e s' he => ?_)
  · rw [List.append_nil] at hp
    exact NC p hp
  · obtain ⟨h', tk', L', m', news', rfl, F', N', hP⟩ := hl
    refine lv _ _ ⟨L', m', news', F', N', fun F'' N'' => ?_⟩
    exact ret _ _ _ _ F'' N'' F'.keep (fun p hp => (N' p hp).2.2) hP
  · exact leaveErr BG rfl hk he fun x t vs h' tk' hc q R U => by subst q; exact err hc x t vs h' tk' R U
end
end
section
section
variable {prog : Program} {w : World} {A : Around} {E : Value → Shared → Prop} {s : Shared} {env : Env} {h₀ : Heap} {target : Expr} {body : List Stmt} {Q : Flow → Shared → Prop}
theorem letGo_tupleiter {elts : List Expr} {x1} {pos : Pos} {I t : Addr} {i : Nat} {v : Value} {Q : Unit → Shared → Prop} (hit : s.heap.IsTupleIter I t i) (hQ : Q () s) :
    wpAny (model prog w) A (letOwnedTupleGo (.Tuple elts x1 pos) (.ref I) v) Q E s := by
  obtain ⟨o, ho, hc, hd⟩ := hit
  unfold letOwnedTupleGo
  cases v with
  | ref T =>
    refine wpAny_bind (wpAny_load ho ?_)
    rw [hc, hd]
    show wpAny _ A (if (["enumerate", "zip", "dict_itemiterator", "dict_reverseitemiterator", "odict_iterator", "itertools.zip_longest", "itertools.pairwise"].contains "tuple_iterator" &&
        (#[.ref t, .int i 0] : Array Value)[0]? == some (rawInt T)) = true then _ else _) Q E s
    rw [if_neg (by
      intro h
      rw [show (["enumerate", "zip", "dict_itemiterator", "dict_reverseitemiterator", "odict_iterator", "itertools.zip_longest", "itertools.pairwise"].contains "tuple_iterator") = false from by decide, Bool.false_and] at h
      cases h)]
    exact wpAny_pure hQ
  | _ => exact wpAny_pure hQ
theorem loopTup {σ : Type} {elts : List Expr} {k : Nat} {pos : Pos} {ax : Addr} {items : Array Value} {n₀ : Nat} {m₀ : Str → Option Value} (Led : σ → List (Addr × Obj)) (ps : σ → List (Str × Value)) (stored : List Str) (P : Nat → σ → Prop) {news₀ : List (Addr × Obj)}
    (hh : A.handled = none) (hl : ∀ c, (ax, ({ cls := .type "tuple", data := .seq items n₀ } : Obj)) ∈ Led c) (F : Fr h₀ env.locals s.heap m₀) (N : News h₀ env.locals s.heap news₀)
    (init : ∃ c₀, Led c₀ = news₀ ∧ (∀ p ∈ ps c₀, m₀ p.1 = some p.2) ∧ P 0 c₀)
    (turn : ∀ (c : σ) (i : Nat) v (u : Str → Option Value) h tk own, items[i]? = some v → P i c → Off own (Led c) →
      Fr h₀ env.locals h (kstB (fun z => if stored.contains z then u z else m₀ z) (ps c)) → News h₀ env.locals h (own ++ Led c) →
      wpAny (model prog w) A (assign (.Tuple elts k pos) env v) (fun _ s₃ => wpAny (model prog w) A (execs body env) (TurnPostK h₀ env.locals own Led ps stored m₀ (P (i + 1)) { s with heap := h, toks := tk } Q) E s₃) E { s with heap := h, toks := tk })
    (done : ∀ (c : σ) (u : Str → Option Value) h tk, P items.size c → Fr h₀ env.locals h (kstB (fun z => if stored.contains z then u z else m₀ z) (ps c)) → News h₀ env.locals h (Led c) → Q .next { s with heap := h, toks := tk }) :
    wpAny (model prog w) A (pyIter (.ref ax)) (fun it s₂ => TurnsAt prog w A h₀ env (.Tuple elts k pos) body Q E it s₂) E s := by
  obtain ⟨c₀, rfl, hk, hp⟩ := init
  have hax := N _ (hl c₀)
  have ht : s.heap.IsTuple ax items := ⟨_, hax.1, rfl, n₀, rfl⟩
  have hlt : ax < s.heap.objs.size := Heap.lt_size hax.1
  have hne : ax ≠ s.heap.objs.size := Nat.ne_of_lt hlt
  have hLs : env.locals < s.heap.objs.size := F.ns.lt
  refine wpAny_pyIter_tuple ht ?_
  refine loopK (s := { s with heap := _ }) (its := [s.heap.objs.size]) Led ps stored P c₀ (KTurns.ofWalks (Walks.tuple hh s.heap.objs.size ax hne items) (fun i v s Q E st hQ => letGo_tupleiter st.1 hQ)) ?_ ?_ ?_ ?_ ?_ ?_
    ⟨⟨_, Heap.get?_push_size _ rfl, rfl, rfl⟩, ht.at fun o e => Heap.get?_push_of_some _ e⟩ (F.push _) (fun p hp => ⟨Heap.get?_push_of_some _ (N p hp).1, (N p hp).2⟩) ?_ hk hp ?_ ?_
  · intro b hb; exact hb
  · intro b hb; simp at hb ⊢; exact .inl hb
  · intro b hb
    rw [List.mem_singleton.mp hb]; exact next_is_new F
  · intro hI'
    have hb' : env.locals = s.heap.objs.size ∨ env.locals = ax := by simpa using hI'
    rcases hb' with e | e
    · exact Nat.ne_of_lt hLs e
    · exact hax.2.1 e.symm
  · intro b hb
    have hb' : b = s.heap.objs.size ∨ b = ax := by simpa using hb
    rcases hb' with rfl | rfl
    · exact .inl (by first | k_units | simp)
    · exact .inr (.inr ⟨_, hl⟩)
  · rintro i h ⟨⟨o, ho, _⟩, _⟩ b hb
    rw [List.mem_singleton.mp hb]; exact ⟨o, ho⟩
  · intro q hq hb
    have hlp := Heap.lt_size (N q hq).1
    exact Nat.ne_of_lt hlp (List.mem_singleton.mp hb)
  · rintro c i v u h tk own hi hv hP ho F₁ N₁
    exact turn c i v u h tk own hv hP ho F₁ N₁
  · exact done
end
end
section
section
variable {prog : Program} {w : World} {A : Around} {E : Value → Shared → Prop} {s : Shared} {env : Env} {test : PySem.Expr} {body orelse : List Stmt} {Q : Flow → Shared → Prop}
noncomputable def WhlNext (I : Nat → Shared → Prop) (n : Nat) (s : Shared) : Prop := ∃ m, m < n ∧ I m s
theorem whl_ind (hE : PassesOwn (model prog w) A env E) (I : Nat → Shared → Prop)
    (step : ∀ n s, I n s → wpAny (model prog w) A (isTrue test env (eval test env)) (fun b s₂ => WhlIf b (wpAny (model prog w) A (execs body env) (fun f s₃ => match f with | .ret v => Q (.ret v) s₃ | .brk => Q .next s₃ | _ => WhlNext I n s₃) E s₂) (wpAny (model prog w) A (execs orelse env) Q E s₂)) E s) :
    ∀ n s, I n s → WhlRest prog w A E env test body orelse Q 1 s := by
  intro n
  induction n using Nat.strongRecOn with
  | ind n ih =>
    intro s hI
    refine whl_turn (k := 0) hE (wpAny_mono (step n s hI) (fun b s₂ h₂ => ?_) fun _ _ e => e)
    cases b with
    | false => exact WhlIf.no rfl (by unfold WhlIf at h₂; rw [if_neg Bool.false_ne_true] at h₂; exact h₂)
    | true =>
      refine WhlIf.yes rfl ?_
      unfold WhlIf at h₂
      rw [if_pos rfl] at h₂
      refine wpAny_mono h₂ (fun f s₃ h₄ => ?_) fun _ _ e => e
      cases f with
      | next => obtain ⟨m, hm, hI'⟩ := h₄; exact ih m hm s₃ hI'
      | cont => obtain ⟨m, hm, hI'⟩ := h₄; exact ih m hm s₃ hI'
      | brk => exact h₄
      | ret v => exact h₄
end
noncomputable def Pow2 (K : Nat) : Prop := K = 1 ∨ K = 2 ∨ K = 4 ∨ K = 8 ∨ K = 16
noncomputable def Lim (K s : Nat) : Prop := K = 1 ∨ K < 2 * s
theorem pow2_le {K : Nat} (h : Pow2 K) : 1 ≤ K ∧ K ≤ 16 := by rcases h with rfl | rfl | rfl | rfl | rfl <;> decide
theorem pow2_side {K s : Nat} (h : Pow2 K) (hs : Pow2 s) (h1 : Lim K s) (h2 : s ≤ K) : K = s := by
  unfold Lim at h1
  rcases h with rfl | rfl | rfl | rfl | rfl <;> rcases hs with rfl | rfl | rfl | rfl | rfl <;> first | rfl | exact absurd h2 (by decide) | exact absurd h1 (by decide)
theorem pow2_twice {K s : Nat} (h : Pow2 K) (hs : s ≤ 16) (h1 : K < s) : Pow2 (2 * K) := by
  rcases h with rfl | rfl | rfl | rfl | rfl
  · exact .inr (.inl rfl)
  · exact .inr (.inr (.inl rfl))
  · exact .inr (.inr (.inr (.inl rfl)))
  · exact .inr (.inr (.inr (.inr rfl)))
  · exact absurd (Nat.lt_of_lt_of_le h1 hs) (by decide)
noncomputable def ThrI (g' : Heap) (L' : Addr) (s : Shared) (side : Nat) (ts : Tok) (n : Nat) (s₁ : Shared) : Prop :=
  ∃ (h : Heap) (tk : Nat) (rowsL : List (Addr × Obj)) (q K : Nat) (u : Str → Option Value) (fd : Addr) (c2' c1' : Obj) (x2 x1 : Option Value), s₁ = { s with heap := h, toks := tk } ∧
    Fr g' L' h (fun z => if z = "found" then some (.ref fd) else if z = "side" then some (.int side ts) else u z) ∧ News g' L' h ((fd, listOf ((rowsL.map (·.1)).map Value.ref).toArray q) :: (L' + 2, c2') :: (L' + 1, c1') :: rowsL) ∧ c2'.data = .cell x2 ∧ c1'.data = .cell x1 ∧
    rowsL.length = K ∧ K + n = 17 ∧ Pow2 K ∧ Lim K side ∧ RowsAre (fun _ ns => ns.length = K ∧ ∀ v ∈ ns, 0 ≤ v ∧ v + 1 ≤ K * K) rowsL ∧ (∀ p ∈ rowsL, p.1 ≠ fd ∧ p.1 ≠ L' + 1 ∧ p.1 ≠ L' + 2) ∧ fd ≠ L' + 1 ∧ fd ≠ L' + 2
theorem fr_eq {g h : Heap} {L : Addr} {m m' : Str → Option Value} (F : Fr g L h m) (e : ∀ z, m z = m' z) : Fr g L h m' := (funext e : m = m') ▸ F
theorem thr_next {g' h3 : Heap} {L' fd : Addr} {m : Str → Option Value} {c2 c1 : Obj} {x2 x1 : Option Value} {ts : Tok} {side tk q K n : Nat} {s : Shared} {rowsL all : List (Addr × Obj)} (F : Fr g' L' h3 m) (N : News g' L' h3 all)
    (sub : ∀ p ∈ (fd, listOf ((rowsL.map (·.1)).map Value.ref).toArray q) :: (L' + 2, c2) :: (L' + 1, c1) :: rowsL, p ∈ all)
    (h1 : m "found" = some (.ref fd)) (h2 : m "side" = some (.int side ts)) (d2 : c2.data = .cell x2) (d1 : c1.data = .cell x1) (hK : rowsL.length = K) (hn : K + n = 17) (hK2 : Pow2 K) (hK3 : Lim K side) (hrows : RowsAre (fun _ ns => ns.length = K ∧ ∀ v ∈ ns, 0 ≤ v ∧ v + 1 ≤ K * K) rowsL)
    (hoff : ∀ p ∈ rowsL, p.1 ≠ fd ∧ p.1 ≠ L' + 1 ∧ p.1 ≠ L' + 2) (n4 : @Ne Nat fd (L' + 1)) (n5 : @Ne Nat fd (L' + 2)) :
    ThrI g' L' s side ts n { s with heap := h3, toks := tk } := by
  refine ⟨h3, tk, rowsL, q, K, m, fd, c2, c1, x2, x1, rfl, fr_eq F fun z => ?_, newsSub N sub, d2, d1, hK, hn, hK2, hK3, hrows, hoff, n4, n5⟩
  by_cases z1 : z = "found"
  · rw [if_pos z1, z1, h1]
  · rw [if_neg z1]
    by_cases z2 : z = "side"
    · rw [if_pos z2, z2, h2]
    · rw [if_neg z2]
theorem thr_init {g' h3 : Heap} {L' fd0 fd1 : Addr} {m : Str → Option Value} {c2 c1 : Obj} {x2 x1 : Option Value} {t0 ts : Tok} {side tk : Nat} {s : Shared} (F : Fr g' L' h3 m) (N : News g' L' h3 [(fd1, listOf #[.ref fd0] 0), (fd0, listOf #[.int 0 t0] 0), (L' + 1 + 1, c2), (L' + 1, c1)])
    (h1 : m "found" = some (.ref fd1)) (h2 : m "side" = some (.int side ts)) (d2 : c2.data = .cell x2) (d1 : c1.data = .cell x1) (n1 : @Ne Nat fd0 fd1) (n2 : @Ne Nat fd0 (L' + 1)) (n3 : @Ne Nat fd0 (L' + 2)) (n4 : @Ne Nat fd1 (L' + 1)) (n5 : @Ne Nat fd1 (L' + 2)) :
    ThrI g' L' s side ts 16 { s with heap := h3, toks := tk } := by
  refine ⟨h3, tk, [(fd0, listOf #[.int 0 t0] 0)], 0, 1, m, fd1, c2, c1, x2, x1, rfl, fr_eq F fun z => ?_, newsSub N fun p hp => ?_, d2, d1, rfl, rfl, .inl rfl, .inl rfl, ?_, ?_, n4, n5⟩
  · by_cases z1 : z = "found"
    · rw [if_pos z1, z1, h1]
    · rw [if_neg z1]
      by_cases z2 : z = "side"
      · rw [if_pos z2, z2, h2]
      · rw [if_neg z2]
  · simp only [List.mem_cons, List.not_mem_nil, or_false] at hp ⊢
    rcases hp with h | h | h | h <;> simp [h]
  · intro j p hj
    cases j with
    | zero =>
      obtain rfl := Option.some.inj hj
      exact ⟨[.int 0 _], 0, [0], rfl, .cons _ _ .nil, rfl, fun v hv => by rw [List.mem_singleton.mp hv]; decide⟩
    | succ j => simp at hj
  · intro p hp
    rw [List.mem_singleton.mp hp]
    exact ⟨n1, n2, n3⟩
theorem take_map_snoc {f : Int → Int} {ns : List Int} {i : Nat} {n0 : Int} (h : ns[i]? = some n0) : (ns.take (i + 1)).map f = (ns.take i).map f ++ [f n0] := by
  rw [List.take_add_one, h, Option.toList, List.map_append]; rfl
theorem arr_snoc (l : List (Addr × Obj)) (p : Addr × Obj) : (((l ++ [p]).map (·.1)).map Value.ref).toArray = ((l.map (·.1)).map Value.ref).toArray.push (.ref p.1) := by simp
theorem led3 {P : Prop} {g h : Heap} {L a b c : Addr} {oa ob oc : Obj} {r : List (Addr × Obj)} (N : News g L h ((a, oa) :: (b, ob) :: (c, oc) :: r)) (k : ∀ oa' ob' oc', oa' = oa → ob' = ob → oc' = oc → News g L h ((a, oa') :: (b, ob') :: (c, oc') :: r) → P) : P := k _ _ _ rfl rfl rfl N
theorem tup_of {g h : Heap} {L a : Addr} {o : Obj} {items : Array Value} {n : Nat} {r : List (Addr × Obj)} (N : News g L h r) (hm : (a, o) ∈ r) (e : o = { cls := .type "tuple", data := .seq items n }) : IsTup h a items := ⟨o, (N _ hm).1, congrArg Obj.cls e, n, congrArg Obj.data e⟩
theorem if_no {c : Prop} [Decidable c] {a b : Prop} (h : ¬ c) (x : b) : if c then a else b := by rw [if_neg h]; exact x
theorem if_yes {c : Prop} [Decidable c] {a b : Prop} (h : c) (x : a) : if c then a else b := by rw [if_pos h]; exact x
section
variable {prog : Program} {w : World} {p : Program} {loose : List Str} {mean : ExcName → Option Value} {mg mb : Str → Option Value} {dp un : Nat} {gd : Option (List Code)} {env : Env} {outer : List Env} {A₀ : Around} {base h₀ : Heap} {L : Addr} {m : Str → Option Value} {news : List (Addr × Obj)} {s : Shared}
  {Q E : Value → Shared → Prop}
  (B : Below A₀ base outer h₀) (F : Fr h₀ L s.heap m) (X : (hd.heap_1 w.params).In h₀) (N : News h₀ L s.heap news) (T : Top p loose mean mg mb h₀) (hf : env.frame = some L) (hk : env.scope.kind = .function)
include B F X N T hf hk
local macro_rules | `(tactic| walk_at "exec For Name Name cons nil") => `(tactic| stopclose_end2)
local macro_rules | `(tactic| walk_at "exec While") => `(tactic| refine halt ?_)
local macro_rules | `(tactic| walk_at "exec While Compare") => `(tactic| refine halt ?_)
local macro_rules | `(tactic| walk_at "last exec While") => `(tactic| refine halt ?_)
local macro_rules | `(tactic| walk_at "call builtin:len") => `(tactic| regdictc_post)
local macro_rules | `(tactic| walk_at "pyIter ref") => `(tactic| with_reducible refine haltL ?_)
local macro_rules | `(tactic| walk_at "exec If") => `(tactic| refine wpAny_If ?_)
local macro_rules | `(tactic| walk_at "exec Raise some none") => `(tactic| refine raise_own (C := 51) rfl ?_)
local macro_rules | `(tactic| walk_at "ite") => `(tactic| refine halt ?_)
local macro_rules | `(tactic| walk_at "pyIter ref") => `(tactic| with_reducible refine haltT ?_)
theorem thr_spec {side : Nat} {ts : Tok} (hroom : dp + 6 < recursionLimit) (hs : side ≤ 16)
    (ret : Pow2 side → ∀ h' tk' fd rowsL q, Fr h₀ L h' m → News h₀ L h' ((fd, listOf ((rowsL.map (·.1)).map Value.ref).toArray q) :: (rowsL ++ news)) → rowsL.length = side → RowsAre (fun _ ns => ns.length = side ∧ ∀ v ∈ ns, 0 ≤ v ∧ v + 1 ≤ side * side) rowsL →
      (∀ p ∈ news, p.1 ≠ fd ∧ ∀ q ∈ rowsL, q.1 ≠ p.1) → Q (.ref fd) { s with heap := h', toks := tk' })
    (err : ¬ Pow2 side → ∀ x t vs h' tk', RaisedS base s.heap (env :: outer) x (.ref 51) t vs [] h' → s.heap.UpToSlots h' → E (.ref x) { s with heap := h', toks := tk' }) :
    wpAny (model prog w) (AA dp un gd env outer) (call (.ref 126) [.int side ts]) Q E s := by
  refine' enterRC (binds := [("side", .int side ts)]) (fun v nw => Pow2 side ∧ ∃ fd rowsL q, v = .ref fd ∧ nw = (fd, listOf ((rowsL.map (·.1)).map Value.ref).toArray q) :: rowsL ∧ rowsL.length = side ∧ RowsAre (fun _ ns => ns.length = side ∧ ∀ v ∈ ns, 0 ≤ v ∧ v + 1 ≤ side * side) rowsL) (¬ Pow2 side) B F X T hf hk ?ret err ?k6 ?k7 ?k8 ?k9 ?kB ?kD ?_ ?c2 ?c3 ?c4
  case ret =>
    rintro v h' tk' nw F' N' st fr ⟨h2, fd, rowsL, q, rfl, rfl, hlen, hrows⟩
    refine ret h2 h' tk' fd rowsL q F' (newsApp N' (newsRest (core := []) N (fun b o e _ => st b o e) fun _ _ => all_nil)) hlen hrows fun p hp => ⟨newsOff N (fr _ (.head _)) p hp, fun q hq e => newsOff N (fr q (.tail _ hq)) p hp e.symm⟩
  (case k6 => k_dflt k_is); (case k7 => k_dflt k_is); (case k8 => k_dflt ktr_room); (case k9 => exact BindsTo.of_eq rfl); (case kB => first | exact locs rfl | exact rfl); (case c2 => rfl); (case c3 => rfl); (case c4 => rfl); (try case c5 => decide); (try case kD => decide +kernel)
  intro L' h' tk' cells' FG' F' N' Y' B' X' T'
  have hgs : s.heap.StaysIn s.heap := fun _ _ e => e
  revert FG' F' N' Y' B' X' T'
  generalize hgg : s.heap = g'
  intro FG' F' N' Y' B' X' T'
  clear B F X N T ret err hf hk hgs
  obtain ⟨c2, c1, hE, d2, d1⟩ := CellsAre.two Y'
  subst hE
  clear Y'
  simp only [List.cons_append, List.nil_append] at N'
  (try dsimp only); (try k_fold)
  k_steps
  unfold Halt
  rename_i fd0 h1 lt1 fd1 h2 lt2 h3 F1 N1
  refine wpAny_mono (E := fun _ _ => False) ?_ (fun _ _ q => q) (fun _ _ e => e.elim)
  refine whl_start 1 (whl_ind (by passes_own) (ThrI g' L' s side ts) ?step 16 _ ?init)
  case init =>
    exact thr_init F1 N1 rfl rfl d2 d1 (by omega) (by omega) (by omega) (by omega) (by omega)
  case step =>
    intro n s₁ hq1
    refine exE11 hq1 ?_
    clear hq1
    intro h tk rowsL q K u fd c2' c1' x2 x1 hq0
    refine and13 hq0 ?_
    clear hq0
    rintro rfl F2 N2 e2 e1 hK hn hK2 hK3 hrows hoff ne1 ne2
    have hK4 := pow2_le hK2
    have hlenK : (((rowsL.map (·.1)).map Value.ref).toArray.size : Int) = (K : Int) := by simp [hK]
    k_steps
    by_cases hlt : (K : Int) < side
    · refine WhlIf.yes (decide_eq_true hlt) ?_
      k_steps
      unfold Halt
      rename_i fdR hR lR hR2 D2 hD2 lD2 D1 hD1 lD1 D0 hD0 F3 N3 lD0
      refine led3 N3 ?_
      intro o0 o1 o2 q0 q1 q2 N4
      clear N3
      refine and7 lD0 ?_
      clear lD0
      rintro z1 z2 z3 z4 z5 z6 z7
      with_unfolding_all refine' loopTup (n₀ := 0) (items := #[.ref D2, .ref D1])
                                (fun (c : List (Addr × Obj) × Nat × Obj × Obj) => (fdR, listOf ((c.1.map (·.1)).map Value.ref).toArray c.2.1) :: (D0, o0) :: (D1, o1) :: (D2, o2) :: (fd, listOf ((rowsL.map (·.1)).map Value.ref).toArray q) :: (L' + 2, c.2.2.1) :: (L' + 1, c.2.2.2) :: (c.1 ++ rowsL)) (fun _ => []) ["row"]
                                (fun i c => c.1.length = i * K ∧ RowsAre (fun _ ns => ns.length = 2 * K ∧ ∀ v ∈ ns, 0 ≤ v ∧ v + 1 ≤ 4 * (K * K)) c.1 ∧ (∃ x, c.2.2.1.data = .cell x) ∧ (∃ x, c.2.2.2.data = .cell x) ∧ ∀ p ∈ c.1, @LT.lt Nat _ D0 p.1) rfl ?hl F3 (newsSub N4 (l' := (fdR, listOf #[] 0) :: (D0, o0) :: (D1, o1) :: (D2, o2) :: (fd, listOf ((rowsL.map (·.1)).map Value.ref).toArray q) :: (L' + 2, c2') :: (L' + 1, c1') :: rowsL) (by k_units)) ?init ?turn ?done
      case hl => exact fun c => by rw [q0]; exact List.Mem.tail _ (List.Mem.head _)
      case init => exact ⟨([], 0, c2', c1'), rfl, all_nil, (Nat.zero_mul K).symm, (fun _ _ h => by simp at h), ⟨_, e2⟩, ⟨_, e1⟩, all_nil⟩
      case done =>
        intro c u2 h2 tk2 hP2 F6 N9
        obtain ⟨rowsN, qN, cc2, cc1⟩ := c
        dsimp only [kstB] at F6 hP2 N9
        refine and5 hP2 ?_
        clear hP2
        rintro hNl hNr hqa hqb hNo
        obtain ⟨y2, hy2⟩ := hqa
        obtain ⟨y1, hy1⟩ := hqb
        clear F3 N4
        (try k_fold)
        k_steps
        rename Fr g' L' _ _ => F7
        rename News g' L' _ _ => N10
        have hNl' : rowsN.length = 2 * K := hNl
        have hp2 : Pow2 (2 * K) := pow2_twice hK2 hs (by omega)
        have hle := pow2_le hp2
        have hKK : 4 * ((K : Int) * K) = ((2 * K : Nat) : Int) * ((2 * K : Nat) : Int) := by
          rw [Int.natCast_mul]
          generalize (K : Int) = z
          show 4 * (z * z) = 2 * z * (2 * z)
          rw [Int.mul_assoc 2 z, Int.mul_left_comm z 2 z, ← Int.mul_assoc 2 2]; rfl
        refine ⟨17 - 2 * K, by omega, thr_next (q := qN) F7 N10 ?_ rfl rfl hy2 hy1 hNl' (by omega) hp2 (.inr (by omega)) (fun j p hj => ?_) (fun p hp => ?_) (Nat.ne_of_gt lR.2.2.1) (Nat.ne_of_gt lR.2.1)⟩
        · k_units
        · obtain ⟨vs, k, ns, e1, e2, e3, e4⟩ := hNr j p hj
          exact ⟨vs, k, ns, e1, e2, e3, fun v hv => hKK ▸ e4 v hv⟩
        · have := hNo p hp
          exact ⟨Nat.ne_of_gt (Nat.lt_trans z3 this), Nat.ne_of_gt (Nat.lt_trans z6 this), Nat.ne_of_gt (Nat.lt_trans z5 this)⟩
      case turn =>
        intro c i v u h tk own hv hP ho F4 N5
        first | refine gen_post fun gG gD gO QQ hQQ => ?_ | refine gen_post2 fun gG gD gO QQ hQQ => ?_
        obtain ⟨rowsM, qM, cc2, cc1⟩ := c
        dsimp only [kstB] at F4 hP N5 ho
        refine and5 hP ?_
        clear hP
        rintro hPl hPr hqa hqb hPo
        obtain ⟨y2, hc2⟩ := hqa
        obtain ⟨y1, hc1⟩ := hqb
        obtain ⟨T, a, b, ta, tb, rfl, hT, ha, hb⟩ : ∃ T a b ta tb, v = .ref T ∧ IsTup h T #[.int a ta, .int b tb] ∧ (0 ≤ a ∧ a ≤ 3) ∧ (0 ≤ b ∧ b ≤ 3) := by
          have hi2 : i = 0 ∨ i = 1 := by
            have := (Array.getElem?_eq_some_iff.mp hv).1
            simp at this
            omega
          rcases hi2 with rfl | rfl
          · obtain rfl := Option.some.inj hv
            exact ⟨_, 0, 2, _, _, rfl, tup_of (n := 0) N5 (List.mem_append_right _ (.tail _ (.tail _ (.tail _ (.head _))))) q2, by decide, by decide⟩
          · obtain rfl := Option.some.inj hv
            exact ⟨_, 3, 1, _, _, rfl, tup_of (n := 0) N5 (List.mem_append_right _ (.tail _ (.tail _ (.head _)))) q1, by decide, by decide⟩
        have hik : i * K ≤ 16 := by
          have h1 := (Array.getElem?_eq_some_iff.mp hv).1
          have h2 : i ≤ 1 := by simp at h1; omega
          have h3 := Nat.mul_le_mul_right K h2
          omega
        clear hv
        have hofn := ho
        have N6 := newsSub N5 (l' := (L' + 2, cc2) :: (L' + 1, cc1) :: (fdR, listOf ((rowsM.map (·.1)).map Value.ref).toArray qM) :: (fd, listOf ((rowsL.map (·.1)).map Value.ref).toArray q) :: (rowsM ++ (own ++ (D0, o0) :: (D1, o1) :: (D2, o2) :: rowsL))) (by k_units)
        have hR2 : ∀ p ∈ rowsM ++ (own ++ (D0, o0) :: (D1, o1) :: (D2, o2) :: rowsL), p.1 ≠ L' + 2 := by
          intro p hp
          simp only [List.mem_append, List.mem_cons] at hp
          rcases hp with h | h | rfl | rfl | rfl | h
          · exact Nat.ne_of_gt (Nat.lt_trans z5 (hPo p h))
          · exact hofn p h (L' + 2, _) (List.mem_cons_of_mem _ (List.mem_cons_of_mem _ (List.mem_cons_of_mem _ (List.mem_cons_of_mem _ (List.mem_cons_of_mem _ List.mem_cons_self)))))
          · show @Ne Nat D0 (L' + 2); omega
          · show @Ne Nat D1 (L' + 2); omega
          · show @Ne Nat D2 (L' + 2); omega
          · exact (hoff p h).2.2
        have hR1 : ∀ p ∈ rowsM ++ (own ++ (D0, o0) :: (D1, o1) :: (D2, o2) :: rowsL), p.1 ≠ L' + 1 := by
          intro p hp
          simp only [List.mem_append, List.mem_cons] at hp
          rcases hp with h | h | rfl | rfl | rfl | h
          · exact Nat.ne_of_gt (Nat.lt_trans z6 (hPo p h))
          · exact hofn p h (L' + 1, _) (List.mem_cons_of_mem _ (List.mem_cons_of_mem _ (List.mem_cons_of_mem _ (List.mem_cons_of_mem _ (List.mem_cons_of_mem _ (List.mem_cons_of_mem _ List.mem_cons_self))))))
          · show @Ne Nat D0 (L' + 1); omega
          · show @Ne Nat D1 (L' + 1); omega
          · show @Ne Nat D2 (L' + 1); omega
          · exact (hoff p h).2.1
        have hRf : ∀ p ∈ rowsM ++ (own ++ (D0, o0) :: (D1, o1) :: (D2, o2) :: rowsL), p.1 ≠ fdR := by
          intro p hp
          simp only [List.mem_append, List.mem_cons] at hp
          rcases hp with h | h | rfl | rfl | rfl | h
          · exact Nat.ne_of_gt (Nat.lt_trans z3 (hPo p h))
          · exact hofn p h (fdR, _) List.mem_cons_self
          · show @Ne Nat D0 (fdR); omega
          · show @Ne Nat D1 (fdR); omega
          · show @Ne Nat D2 (fdR); omega
          · exact Nat.ne_of_lt (allLt_at lR.2.2.2 p h)
        generalize hR : rowsM ++ (own ++ (D0, o0) :: (D1, o1) :: (D2, o2) :: rowsL) = R at N6 hR2 hR1 hRf
        clear N5 N4 F3
        (try k_fold)
        k_steps
        unfold Halt
        rename_i hA oA dA hB oB F5 N7 dB
        subst hR
        have N8 := newsSub N7 (l' := (fdR, listOf ((rowsM.map (·.1)).map Value.ref).toArray qM) :: (L' + 2, oB) :: (L' + 1, oA) :: (fd, listOf ((rowsL.map (·.1)).map Value.ref).toArray q) :: (rowsM ++ (own ++ (D0, o0) :: (D1, o1) :: (D2, o2) :: rowsL))) (by k_units)
        clear N7
        with_unfolding_all refine' loopList (items := ((rowsL.map (·.1)).map Value.ref).toArray)
                                (fun (c : List (Addr × Obj) × Nat) => (fdR, listOf ((c.1.map (·.1)).map Value.ref).toArray c.2) :: (L' + 2, oB) :: (L' + 1, oA) :: (fd, listOf ((rowsL.map (·.1)).map Value.ref).toArray q) :: (c.1 ++ (own ++ (D0, o0) :: (D1, o1) :: (D2, o2) :: rowsL))) (fun _ => []) []
                                (fun j c => c.1.length = i * K + j ∧ RowsAre (fun _ ns => ns.length = 2 * K ∧ ∀ v ∈ ns, 0 ≤ v ∧ v + 1 ≤ 4 * (K * K)) c.1 ∧ ∀ p ∈ c.1, @LT.lt Nat _ D0 p.1 ∧ ∀ o ∈ own, o.1 ≠ p.1) rfl ?hl2 F5 N8 ?init2 ?turn2 ?done2
        case hl2 => exact .inr ⟨q, fun c => List.Mem.tail _ (List.Mem.tail _ (List.Mem.tail _ (List.Mem.head _)))⟩
        case init2 => exact ⟨(rowsM, qM), rfl, all_nil, hPl, hPr, fun p hp => ⟨hPo p hp, fun o ho' => hofn o ho' p (List.mem_cons_of_mem _ (List.mem_cons_of_mem _ (List.mem_cons_of_mem _ (List.mem_cons_of_mem _ (List.mem_cons_of_mem _ (List.mem_cons_of_mem _ (List.mem_cons_of_mem _ (List.mem_append_left _ hp))))))))⟩⟩
        case done2 =>
          intro c u2 h2 tk2 hP2 F6 N9
          obtain ⟨rowsN, qN⟩ := c
          dsimp only [kstB] at F6 hP2 N9
          obtain ⟨hNl, hNr, hNo⟩ := hP2
          clear N8 F5
          (try k_fold)
          k_steps
          have hNl' : rowsN.length = (i + 1) * K := by
            rw [hNl, List.size_toArray, List.length_map, List.length_map, hK, Nat.succ_mul]
          refine hQQ _ _ _ (TurnPostK.next ?_)
          refine TurnEndK.intro (rowsN, qN, oB, oA) F6 N9 ?_ ?_ all_nil ?_ ⟨hNl', hNr, ⟨_, dB⟩, ⟨_, dA⟩, fun p hp => (hNo p hp).1⟩
          · k_units
          · intro p hp r hr
            have hof := hofn p hp
            rcases List.mem_append.mp (show r ∈ ((fdR, listOf ((rowsN.map (·.1)).map Value.ref).toArray qN) :: (D0, o0) :: (D1, o1) :: (D2, o2) :: (fd, listOf ((rowsL.map (·.1)).map Value.ref).toArray q) :: (L' + 2, oB) :: (L' + 1, oA) :: rowsN) ++ rowsL from by simpa using hr) with hr | hr
            · rcases List.mem_cons.mp hr with rfl | hr
              · exact hof (fdR, listOf ((rowsM.map (·.1)).map Value.ref).toArray qM) (by first | k_units | simp)
              rcases List.mem_cons.mp hr with rfl | hr
              · exact hof _ (by first | k_units | simp)
              rcases List.mem_cons.mp hr with rfl | hr
              · exact hof _ (by first | k_units | simp)
              rcases List.mem_cons.mp hr with rfl | hr
              · exact hof _ (by first | k_units | simp)
              rcases List.mem_cons.mp hr with rfl | hr
              · exact hof _ (by first | k_units | simp)
              rcases List.mem_cons.mp hr with rfl | hr
              · exact hof (L' + 2, cc2) (by first | k_units | simp)
              rcases List.mem_cons.mp hr with rfl | hr
              · exact hof (L' + 1, cc1) (by first | k_units | simp)
              · exact (hNo r hr).2 p hp
            · exact hof r (by simp [hr])
          · intro z _ h3
            have z1 := not_in h3 "row" (by first | k_units | simp)
            (repeat first | with_reducible rfl | (refine (upd_ne (by assumption)).trans ?_) | (refine (if_neg (by assumption)).trans ?_) | (refine (ite_cf (by assumption)).trans ?_) | (refine (ite_cf rfl).trans ?_)); all_goals rfl
        case turn2 =>
          intro c j v u2 h2 tk2 I oI hv hP2 hO F6 N9
          first | refine gen_post fun gG gD gO QQ hQQ => ?_ | refine gen_post2 fun gG gD gO QQ hQQ => ?_
          obtain ⟨rowsN, qN⟩ := c
          dsimp only [kstB] at F6 hP2 N9 hO
          obtain ⟨hNl, hNr, hNo⟩ := hP2
          obtain ⟨⟨ra, ob⟩, hra, rfl⟩ : ∃ p, rowsL[j]? = some p ∧ v = .ref p.1 := by
            simp only [List.getElem?_toArray, List.getElem?_map, Option.map_map, Option.map_eq_some_iff] at hv
            obtain ⟨p, e1, e2⟩ := hv
            exact ⟨p, e1, e2.symm⟩
          refine exE3 (hrows j _ hra) ?_
          intro vs k ns hq0
          refine and4 hq0 ?_
          clear hq0
          rintro heq hI hnl hnb
          dsimp only at heq
          subst heq
          have hmr : (ra, listOf vs.toArray k) ∈ rowsL := List.mem_of_getElem? hra
          have n1 := hoff _ hmr
          obtain ⟨n1, n2, n3⟩ := n1
          replace n1 : @Ne Nat ra fd := n1
          replace n2 : @Ne Nat ra (L' + 1) := n2
          replace n3 : @Ne Nat ra (L' + 2) := n3
          have n4 : @LT.lt Nat _ ra fdR := allLt_at lR.2.2.2 _ hmr
          have hR9 : ∀ p ∈ (I, oI) :: (fd, listOf ((rowsL.map (·.1)).map Value.ref).toArray q) :: (rowsN ++ (own ++ (D0, o0) :: (D1, o1) :: (D2, o2) :: rowsL)), p.1 ≠ fdR := by
            intro p hp
            rcases List.mem_cons.mp hp with rfl | hp
            · exact Ne.symm (hO (fdR, _) List.mem_cons_self)
            rcases List.mem_cons.mp hp with rfl | hp
            · exact Nat.ne_of_lt lR.1
            rcases List.mem_append.mp hp with hp | hp
            · exact Nat.ne_of_gt (Nat.lt_trans z3 (hNo p hp).1)
            · exact hRf p (List.mem_append_right _ hp)
          have N10 := newsSub N9 (l' := (ra, listOf vs.toArray k) :: (L' + 2, oB) :: (L' + 1, oA) :: (fdR, listOf ((rowsN.map (·.1)).map Value.ref).toArray qN) :: (I, oI) :: (fd, listOf ((rowsL.map (·.1)).map Value.ref).toArray q) :: (rowsN ++ (own ++ (D0, o0) :: (D1, o1) :: (D2, o2) :: rowsL))) (by k_units)
          have hm0 : (D0, o0) ∈ (I, oI) :: (fd, listOf ((rowsL.map (·.1)).map Value.ref).toArray q) :: (rowsN ++ (own ++ (D0, o0) :: (D1, o1) :: (D2, o2) :: rowsL)) := by simp
          generalize hR9e : (I, oI) :: (fd, listOf ((rowsL.map (·.1)).map Value.ref).toArray q) :: (rowsN ++ (own ++ (D0, o0) :: (D1, o1) :: (D2, o2) :: rowsL)) = R9 at N10 hR9 hm0
          clear N9 N8 F5
          (try k_fold)
          k_steps
          unfold Halt
          rename Fr g' L' _ _ => F7
          rename News g' L' _ _ => N11
          refine LCg.ListComp_U (cl := [("upper", L' + 1)]) (F₀ := F7) (by rfl) (by decide) (by rfl) (by decide) (by rfl) ?_
          k_steps
          unfold Halt
          rename Fr g' L' _ _ => F8
          rename News g' L' _ _ => N12
          refine LCg.CompSrc.ledger (k := k) (its := vs.toArray) rfl F8 N12 (.head _) (by rw [sizeLine_eq, List.size_toArray, hI.length]; omega) ?_
          intro gg
          refine compRest_of (n := vs.toArray.size) (fun i ys nw => nw = ((ra, listOf vs.toArray k) :: (L' + 2, oB) :: (L' + 1, oA) :: (fdR, listOf ((rowsN.map (·.1)).map Value.ref).toArray qN) :: R9) ∧ IntsAre ys ((ns.take i).map fun z => 4 * z + a)) ?step ?fin vs.toArray.size 0 [] _ (Nat.zero_add _) ⟨rfl, IntsAre.nil⟩
          case step =>
            intro i' ys nw v I2 oI2 C oC D m₂ h3 tk3 E' hi hJ hP3 hC hx F9 N13 off ne
            obtain ⟨rfl, hIy⟩ := hJ
            obtain ⟨n0, tx, rfl, hn0⟩ := hI.at i' v (by simpa using hP3)
            have hb0 := hnb n0 (List.mem_of_getElem? hn0)
            have N14 := newsSub N13 (l' := (L' + 1, oA) :: (I2, oI2) :: (C, oC) :: (D, LCg.lst ys) :: ((ra, listOf vs.toArray k) :: (L' + 2, oB) :: (L' + 1, oA) :: (fdR, listOf ((rowsN.map (·.1)).map Value.ref).toArray qN) :: R9)) (by k_units)
            clear N13
            (try k_fold)
            k_steps
            rename Fr g' L' _ _ => F11
            refine LCg.CompEnd.intro F11 N14 _ (fun p hp => .tail _ hp) off (.inr ⟨listOf vs.toArray k, (.head _), rfl, _, rfl⟩) ⟨rfl, ?_⟩
            rw [take_map_snoc hn0]
            exact ints_snoc hIy rfl
          case fin =>
            intro ys1 nw hJ
            obtain ⟨rfl, hIy⟩ := hJ
            rw [List.size_toArray, hI.length, List.take_length] at hIy
            intro DD h4 tk4 F10 N15 of
            replace of := off1_mem of
            have g1 : @Ne Nat fdR DD := of (fdR, _) (List.mem_cons_of_mem _ (List.mem_cons_of_mem _ (List.mem_cons_of_mem _ List.mem_cons_self)))
            clear N12 F8
            k_steps
            unfold Halt
            rename Fr g' L' _ _ => F72
            rename News g' L' _ _ => N112
            refine LCg.ListComp_U (cl := [("lower", L' + 2)]) (F₀ := F72) (by rfl) (by decide) (by rfl) (by decide) (by rfl) ?_
            k_steps
            unfold Halt
            rename Fr g' L' _ _ => F82
            rename News g' L' _ _ => N122
            refine LCg.CompSrc.ledger (k := k) (its := vs.toArray) rfl F82 N122 (.tail _ (.head _)) (by rw [sizeLine_eq, List.size_toArray, hI.length]; omega) ?_
            intro gg2
            refine compRest_of (n := vs.toArray.size) (fun i ys nw => nw = ((DD, LCg.lst ys1) :: (ra, listOf vs.toArray k) :: (L' + 2, oB) :: (L' + 1, oA) :: (fdR, listOf ((rowsN.map (·.1)).map Value.ref).toArray qN) :: R9) ∧ IntsAre ys ((ns.take i).map fun z => 4 * z + b)) ?step2 ?fin2 vs.toArray.size 0 [] _ (Nat.zero_add _) ⟨rfl, IntsAre.nil⟩
            case step2 =>
              intro i' ys nw v I2 oI2 C oC D m₂ h3 tk3 E' hi hJ hP3 hC hx F9 N13 off ne
              obtain ⟨rfl, hIy⟩ := hJ
              obtain ⟨n0, tx, rfl, hn0⟩ := hI.at i' v (by simpa using hP3)
              have hb0 := hnb n0 (List.mem_of_getElem? hn0)
              have N14 := newsSub N13 (l' := (L' + 2, oB) :: (I2, oI2) :: (C, oC) :: (D, LCg.lst ys) :: ((DD, LCg.lst ys1) :: (ra, listOf vs.toArray k) :: (L' + 2, oB) :: (L' + 1, oA) :: (fdR, listOf ((rowsN.map (·.1)).map Value.ref).toArray qN) :: R9)) (by k_units)
              clear N13
              (try k_fold)
              k_steps
              rename Fr g' L' _ _ => F11
              refine LCg.CompEnd.intro F11 N14 _ (fun p hp => .tail _ hp) off (.inr ⟨listOf vs.toArray k, (.tail _ (.head _)), rfl, _, rfl⟩) ⟨rfl, ?_⟩
              rw [take_map_snoc hn0]
              exact ints_snoc hIy rfl
            case fin2 =>
              intro ys2 nw hJ
              obtain ⟨rfl, hIy2⟩ := hJ
              rw [List.size_toArray, hI.length, List.take_length] at hIy2
              intro DD2 h42 tk42 F102 N152 of2
              replace of2 := off1_mem of2
              have g2 : @Ne Nat fdR DD2 := of2 (fdR, _) (List.mem_cons_of_mem _ (List.mem_cons_of_mem _ (List.mem_cons_of_mem _ (List.mem_cons_of_mem _ List.mem_cons_self))))
              clear N122 F82
              k_steps
              rename_i D' ws hq F12 N16 hI2 lD'
              refine and7 lD' ?_
              clear lD'
              rintro d1 d2 d3 d4 d5 d6 d7
              have hjK : j < K := by
                have := (List.getElem?_eq_some_iff.mp hra).1
                omega
              have hsz : ((rowsN.map (·.1)).map Value.ref).toArray.size ≤ sizeLine := by
                rw [sizeLine_eq]
                simp only [List.size_toArray, List.length_map, hNl]
                omega
              refine append_K F12 N16 (Upd.tail ?_ (Upd.tail ?_ (Upd.tail ?_ (Upd.tail ?_ (Upd.tail ?_ (Upd.tail ?_ (Upd.head hR9))))))) (fun h5 F13 N17 => ?_) hsz
              · exact Nat.ne_of_gt d6
              · exact Ne.symm g2
              · exact Ne.symm g1
              · exact Nat.ne_of_lt n4
              · show @Ne Nat (L' + 2) fdR; omega
              · show @Ne Nat (L' + 1) fdR; omega
              clear F12 N16
              k_steps
              subst hR9e
              have e5 := arr_snoc rowsN (D', listOf ws.toArray 0)
              have lall := allLt_at d7
              refine hQQ _ _ _ (TurnPost.next ?_)
              refine TurnEnd.intro (rowsN ++ [(D', listOf ws.toArray 0)], qN + 1) F13 N17 ?_ ?_ all_nil ?_ ⟨?_, ?_, ?_⟩
              · intro p hp
                dsimp only at hp
                rw [e5] at hp
                revert p; k_units
              · intro p hp
                dsimp only at hp
                rcases List.mem_cons.mp hp with rfl | hp
                · exact hO (fdR, listOf ((rowsN.map (·.1)).map Value.ref).toArray qN) List.mem_cons_self
                rcases List.mem_append.mp (show p ∈ ((L' + 2, oB) :: (L' + 1, oA) :: (fd, listOf ((rowsL.map (·.1)).map Value.ref).toArray q) :: (rowsN ++ [(D', listOf ws.toArray 0)])) ++ (own ++ (D0, o0) :: (D1, o1) :: (D2, o2) :: rowsL) from by simpa using hp) with hp | hp
                · rcases List.mem_cons.mp hp with rfl | hp
                  · exact hO _ (List.mem_cons_of_mem _ List.mem_cons_self)
                  rcases List.mem_cons.mp hp with rfl | hp
                  · exact hO _ (List.mem_cons_of_mem _ (List.mem_cons_of_mem _ List.mem_cons_self))
                  rcases List.mem_cons.mp hp with rfl | hp
                  · exact hO _ (List.mem_cons_of_mem _ (List.mem_cons_of_mem _ (List.mem_cons_of_mem _ List.mem_cons_self)))
                  rcases List.mem_append.mp hp with hp | hp
                  · exact hO p (List.mem_cons_of_mem _ (List.mem_cons_of_mem _ (List.mem_cons_of_mem _ (List.mem_cons_of_mem _ (List.mem_append_left _ hp)))))
                  · rw [List.mem_singleton.mp hp]
                    exact Nat.ne_of_gt (lall (I, oI) List.mem_cons_self)
                · exact hO p (List.mem_cons_of_mem _ (List.mem_cons_of_mem _ (List.mem_cons_of_mem _ (List.mem_cons_of_mem _ (List.mem_append_right _ hp)))))
              · intro z zx _ _
                (repeat first | with_reducible rfl | (refine (upd_ne (by assumption)).trans ?_) | (refine (if_neg (by assumption)).trans ?_) | (refine (ite_cf (by assumption)).trans ?_) | (refine (ite_cf rfl).trans ?_)); all_goals rfl
              · simp [hNl]; omega
              · refine hNr.snoc hI2 ⟨by simp [hnl]; omega, fun z hz => ?_⟩
                rcases List.mem_append.mp hz with hz | hz
                · obtain ⟨z0, zm, rfl⟩ := List.mem_map.mp hz
                  have := hnb z0 zm
                  omega
                · obtain ⟨z0, zm, rfl⟩ := List.mem_map.mp hz
                  have := hnb z0 zm
                  omega
              · intro p hp
                rcases List.mem_append.mp hp with hp | hp
                · exact hNo p hp
                · rw [List.mem_singleton.mp hp]
                  exact ⟨lall (D0, o0) (by first | k_units | simp), fun o ho' => Nat.ne_of_lt (lall o (by simp [ho']))⟩
    · refine WhlIf.no (decide_eq_false hlt) ?_
      by_cases hKs : K = side
      · have hKs' : (K : Int) = side := by omega
        k_steps
        unfold Halt
        refine if_no (by simpa using hKs') ?_
        k_steps
        rename Fr g' L' _ _ => F3
        rename News g' L' _ _ => N3
        subst hKs
        exact LeaveP.intro F3 (newsSub N3 (l' := (fd, listOf ((rowsL.map (·.1)).map Value.ref).toArray q) :: rowsL) fun p hp => by
          rcases List.mem_cons.mp hp with rfl | hp
          · exact .head _
          · exact .tail _ (.tail _ (.tail _ hp))) ⟨hK2, fd, rowsL, q, rfl, rfl, hK, hrows⟩
      · have hKs' : (K : Int) ≠ side := by omega
        have hno : ¬ Pow2 side := fun h2 => hKs (pow2_side hK2 h2 hK3 (by omega))
        k_steps
        unfold Halt
        refine if_yes (by simpa using hKs') ?_
        k_steps
        unfold Halt
        rename Fr g' L' _ _ => F3
        refine rangeErr_raise B' F3 X' T' rfl rfl (by k_dflt ktr_room) fun h4 tk4 x t dx sl F4 st4 n1 n2 x1 x2 => ?_
        exact RaiseP.here hno F3 st4 n1 n2 x1 x2
end
end
section
noncomputable def BadL (l o : Int) : Prop := l < 2 ∨ o + 1 < l
section
variable {prog : Program} {w : World} {p : Program} {loose : List Str} {mean : ExcName → Option Value} {mg mb : Str → Option Value} {dp un : Nat} {gd : Option (List Code)} {env : Env} {outer : List Env} {A₀ : Around} {base h₀ : Heap} {L : Addr} {m : Str → Option Value} {s : Shared}
  {Q E : Value → Shared → Prop}
  (B : Below A₀ base outer h₀) (F : Fr h₀ L s.heap m) (X : (hd.heap_1 w.params).In h₀) (T : Top p loose mean mg mb h₀) (hf : env.frame = some L) (hk : env.scope.kind = .function)
include B F X T hf hk
section
local macro_rules | `(tactic| walk_at "exec Raise some none") => `(tactic| refine raise_own (C := 51) rfl ?_)
theorem check_raise {l o : Int} {tl tm : Tok} (hroom : dp + 5 < recursionLimit) (hl : BadL l o)
    (err : ∀ x t vs h' tk', RaisedS base s.heap (env :: outer) x (.ref 51) t vs [] h' → s.heap.UpToSlots h' → E (.ref x) { s with heap := h', toks := tk' }) :
    wpAny (model prog w) (AA dp un gd env outer) (call (.ref 121) [.int l tl, .int o tm]) Q E s := by
  refine' enterR (binds := [("levels", .int l tl), ("most", .int o tm)]) (fun _ _ => False) True B F X T hf hk (fun _ _ _ _ _ _ _ _ e => e.elim) (fun _ => err) ?k6 ?k7 ?k8 ?k9 ?kB ?_ ?c2 ?c3 ?c4 ?c5
  (case k6 => k_dflt k_is); (case k7 => k_dflt k_is); (case k8 => k_dflt ktr_room); (case k9 => exact BindsTo.of_eq rfl); (case kB => first | exact locs rfl | exact rfl); (case c2 => rfl); (case c3 => rfl); (case c4 => rfl); (try case c5 => decide); (try case kD => decide +kernel)
  intro L' h' FG' F' N' B' X' T'
  revert FG' F' N' B' X' T'
  generalize hgg : s.heap = g'
  intro FG' F' N' B' X' T'
  clear B F X T err hf hk
  (try dsimp only); (try k_fold)
  by_cases h2 : l < 2
  · clear hl
    k_steps
    unfold Halt
    rename Fr g' L' _ _ => F2
    exact rangeErr_raise B' F2 X' T' rfl rfl (by k_dflt ktr_room) fun h4 tk4 x t dx sl F4 st4 n1 n2 x1 x2 => RaiseP.here True.intro F2 st4 n1 n2 x1 x2
  · have h3 : o + 1 < l := by unfold BadL at hl; omega
    clear hl
    k_steps
    unfold Halt
    rename Fr g' L' _ _ => F2
    exact rangeErr_raise B' F2 X' T' rfl rfl (by k_dflt ktr_room) fun h4 tk4 x t dx sl F4 st4 n1 n2 x1 x2 => RaiseP.here True.intro F2 st4 n1 n2 x1 x2
end
section
theorem spread_raise {pl : Addr} {l o : Int} {tl tm : Tok} (hroom : dp + 6 < recursionLimit) (hl : BadL l o)
    (err : ∀ x t vs h' tk', RaisedS base s.heap (env :: outer) x (.ref 51) t vs [] h' → s.heap.UpToSlots h' → E (.ref x) { s with heap := h', toks := tk' }) :
    wpAny (model prog w) (AA dp un gd env outer) (call (.ref 190) [.ref pl, .int l tl, .int o tm]) Q E s := by
  refine' enterRC (binds := [("plane", .ref pl), ("levels", .int l tl), ("most", .int o tm)]) (fun _ _ => False) True B F X T hf hk (fun _ _ _ _ _ _ _ _ e => e.elim) (fun _ => err) ?k6 ?k7 ?k8 ?k9 ?kB ?kD ?_ ?c2 ?c3 ?c4
  (case k6 => k_dflt k_is); (case k7 => k_dflt k_is); (case k8 => k_dflt ktr_room); (case k9 => exact BindsTo.of_eq rfl); (case kB => first | exact locs rfl | exact rfl); (case c2 => rfl); (case c3 => rfl); (case c4 => rfl); (try case c5 => decide); (try case kD => decide +kernel)
  intro L' h' tk' cells' FG' F' N' Y' B' X' T'
  revert FG' F' N' Y' B' X' T'
  generalize hgg : s.heap = g'
  intro FG' F' N' Y' B' X' T'
  clear B F X T err hf hk
  obtain ⟨co, hE, d1⟩ := CellsAre.one Y'
  subst hE
  clear Y'
  simp only [List.cons_append, List.nil_append] at N'
  (try dsimp only); (try k_fold)
  k_steps
  unfold Halt
  rename Fr g' L' _ _ => F2
  exact check_raise B' F2 X' T' rfl rfl (by k_dflt ktr_room) hl fun x t vs h4 tk4 R U => RaiseP.on True.intro F2 R U
end
end
end
section
noncomputable def ordV (v t ar l o : Int) : Int := Int.fdiv (v * (l - 1) * ar + t * o) (o * ar)
theorem rows_choose {Pr : Nat → List Int → Prop} {rowsL : List (Addr × Obj)} (h : RowsAre Pr rowsL) : ∃ ff : Nat → List Int, ∀ (j : Nat) p, rowsL[j]? = some p → ∃ (vs : List Value) (k : Nat), p.2 = listOf vs.toArray k ∧ IntsAre vs (ff j) ∧ Pr j (ff j) := by
  have z : ∀ j : Nat, ∃ ns : List Int, ∀ p, rowsL[j]? = some p → ∃ (vs : List Value) (k : Nat), p.2 = listOf vs.toArray k ∧ IntsAre vs ns ∧ Pr j ns := by
    intro j
    cases e : rowsL[j]? with
    | none => exact ⟨[], fun _ h => nomatch h⟩
    | some p =>
      obtain ⟨vs, k, ns, e1, e2, e3⟩ := h j p e
      exact ⟨ns, fun q hq => by obtain rfl := Option.some.inj hq; exact ⟨vs, k, e1, e2, e3⟩⟩
  exact ⟨fun j => Classical.choose (z j), fun j => Classical.choose_spec (z j)⟩
theorem cellsSix {cm : Str → Option Value} {n₁ n₂ n₃ n₄ n₅ n₆ : Str} {c₁ c₂ c₃ c₄ c₅ c₆ : Addr} {cells : List (Addr × Obj)} (x : CellsAre cm [(n₁, c₁), (n₂, c₂), (n₃, c₃), (n₄, c₄), (n₅, c₅), (n₆, c₆)] cells) :
    ∃ o₁ o₂ o₃ o₄ o₅ o₆, cells = [(c₁, o₁), (c₂, o₂), (c₃, o₃), (c₄, o₄), (c₅, o₅), (c₆, o₆)] ∧ o₁.data = .cell (cm n₁) ∧ o₂.data = .cell (cm n₂) ∧ o₃.data = .cell (cm n₃) ∧ o₄.data = .cell (cm n₄) ∧ o₅.data = .cell (cm n₅) ∧ o₆.data = .cell (cm n₆) := by
  cases x with | cons h1 r => cases r with | cons h2 r => obtain ⟨o3, o4, o5, o6, rfl, h3, h4, h5, h6⟩ := r.four; exact ⟨_, _, o3, o4, o5, o6, rfl, h1, h2, h3, h4, h5, h6⟩
noncomputable def ordRows (tm : Nat → Nat → Int) (side wd : Nat) (g : List (List Int)) (l o : Int) (n : Nat) : List (List Int) := (List.range n).map fun (y : Nat) => (List.range wd).map fun (x : Nat) => ordV (pxAt g (x : Int) (y : Int)) (tm (y % side) (x % side)) ((side : Int) * side) l o
section
variable {prog : Program} {w : World} {p : Program} {loose : List Str} {mean : ExcName → Option Value} {mg mb : Str → Option Value} {dp un : Nat} {gd : Option (List Code)} {env : Env} {outer : List Env} {A₀ : Around} {base h₀ : Heap} {L : Addr} {m : Str → Option Value} {news : List (Addr × Obj)} {s : Shared}
  {Q E : Value → Shared → Prop}
  (B : Below A₀ base outer h₀) (F : Fr h₀ L s.heap m) (X : (hd.heap_1 w.params).In h₀) (N : News h₀ L s.heap news) (T : Top p loose mean mg mb h₀) (hf : env.frame = some L) (hk : env.scope.kind = .function)
include B F X N T hf hk
theorem ordLev_spec {v t ar l o : Int} {tv tt ta tl tm : Tok} (hroom : dp + 1 < recursionLimit) (hv : 0 ≤ v ∧ v ≤ 300) (ht : 0 ≤ t ∧ t ≤ 300) (ha : 1 ≤ ar ∧ ar ≤ 256) (hl : 2 ≤ l ∧ l ≤ 300) (ho : 1 ≤ o ∧ o ≤ 300)
    (ret : ∀ h' tk' t', Fr h₀ L h' m → News h₀ L h' news → Q (.int (ordV v t ar l o) t') { s with heap := h', toks := tk' }) :
    wpAny (model prog w) (AA dp un gd env outer) (call (.ref 133) [.int v tv, .int t tt, .int ar ta, .int l tl, .int o tm]) Q E s := by
  refine' enter (binds := [("value", .int v tv), ("threshold", .int t tt), ("area", .int ar ta), ("levels", .int l tl), ("most", .int o tm)]) (fun u _ => ∃ t', u = .int (ordV v t ar l o) t') B F X (core := []) all_nil T hf hk (fun v h' tk' nw F' _ st _ ⟨t, e⟩ => e ▸ ret h' tk' t F' (newsRest N st fun _ _ => all_nil)) ?k6 ?k7 ?k8 ?k9 ?kB ?_ ?c2 ?c3 ?c4 ?c5
  (case k6 => k_dflt k_is); (case k7 => k_dflt k_is); (case k8 => k_dflt ktr_room); (case k9 => exact BindsTo.of_eq rfl); (case kB => first | exact locs rfl | exact rfl); (case c2 => rfl); (case c3 => rfl); (case c4 => rfl); (try case c5 => decide); (try case kD => decide +kernel)
  clear B F X N T ret hf hk
  intro g' L' h' FG' F' N' B' X' T' l1 st'
  first | refine gen_post fun gG gD gO QQ hQQ => ?_ | refine gen_post2 fun gG gD gO QQ hQQ => ?_
  have b1 : 0 ≤ v * (l - 1) ∧ v * (l - 1) ≤ 300 * 300 := ⟨Int.mul_nonneg (by omega) (by omega), Int.mul_le_mul (by omega) (by omega) (by omega) (by omega)⟩
  have b2 : 0 ≤ v * (l - 1) * ar ∧ v * (l - 1) * ar ≤ 300 * 300 * 256 := ⟨Int.mul_nonneg (by omega) (by omega), Int.mul_le_mul (by omega) (by omega) (by omega) (by omega)⟩
  have b3 : 0 ≤ t * o ∧ t * o ≤ 300 * 300 := ⟨Int.mul_nonneg (by omega) (by omega), Int.mul_le_mul (by omega) (by omega) (by omega) (by omega)⟩
  have b4 : 1 ≤ o * ar ∧ o * ar ≤ 300 * 256 := ⟨by have := Int.mul_pos (show 0 < o by omega) (show 0 < ar by omega); omega, Int.mul_le_mul (by omega) (by omega) (by omega) (by omega)⟩
  (try dsimp only); (try k_fold)
  k_steps
  refine hQQ _ _ _ ?_
  exact LeaveP.intro (by assumption) (by assumption) ⟨_, rfl⟩
section
local macro_rules | `(tactic| walk_at "pyIter ref") => `(tactic| with_reducible refine haltL ?_)
local macro_rules | `(tactic| walk_at "exec For Name Call cons nil") => `(tactic| stopclose_end2)
theorem ord_spec {pl : Addr} {l o : Int} {side wd ht : Nat} {g : List (List Int)} {tl ts tm : Tok} (hroom : dp + 10 < recursionLimit) (P : PlaneAt w s.heap pl wd ht g) (hg : g.length = ht) (hgr : ∀ (j : Nat) ns, g[j]? = some ns → ns.length = wd)
    (hl : ¬ BadL l o → l ≤ 300) (ho : 1 ≤ o ∧ o ≤ 300) (hs : side ≤ 16) (hpx : ∀ x y, 0 ≤ pxAt g x y ∧ pxAt g x y ≤ 300) (hw : wd ≤ 20) (hh : ht ≤ 20)
    (ret : ¬ BadL l o → Pow2 side → ∀ h' tk' npl led th, Fr h₀ L h' m → News h₀ L h' (led ++ news) → (∀ p ∈ news, ∀ q ∈ led, q.1 ≠ p.1) → PlaneL w npl wd ht (ordRows th side wd g l o ht) led → Q (.ref npl) { s with heap := h', toks := tk' })
    (err : BadL l o ∨ ¬ Pow2 side → ∀ x t vs h' tk', RaisedS base s.heap (env :: outer) x (.ref 51) t vs [] h' → s.heap.UpToSlots h' → E (.ref x) { s with heap := h', toks := tk' }) :
    wpAny (model prog w) (AA dp un gd env outer) (call (.ref 138) [.ref pl, .int l tl, .int side ts, .int o tm]) Q E s := by
  refine' enterRC (binds := [("plane", .ref pl), ("levels", .int l tl), ("side", .int side ts), ("most", .int o tm)]) (fun v nw => ¬ BadL l o ∧ Pow2 side ∧ ∃ npl th, v = .ref npl ∧ PlaneL w npl wd ht (ordRows th side wd g l o ht) nw) (BadL l o ∨ ¬ Pow2 side) B F X T hf hk ?ret err ?k6 ?k7 ?k8 ?k9 ?kB ?kD ?_ ?c2 ?c3 ?c4
  case ret =>
    rintro v h' tk' nw F' N' st fr ⟨h1, h2, npl, th, rfl, hP⟩
    exact ret h1 h2 h' tk' npl nw th F' (newsApp N' (newsRest (core := []) N (fun b o e _ => st b o e) fun _ _ => all_nil)) (fun p hp q hq e => newsOff N (fr q hq) p hp e.symm) hP
  (case k6 => k_dflt k_is); (case k7 => k_dflt k_is); (case k8 => k_dflt ktr_room); (case k9 => exact BindsTo.of_eq rfl); (case kB => first | exact locs rfl | exact rfl); (case c2 => rfl); (case c3 => rfl); (case c4 => rfl); (try case c5 => decide); (try case kD => decide +kernel)
  intro L' h' tk' cells' FG' F' N' Y' B' X' T'
  revert FG' F' N' Y' B' X' T'
  generalize hgg : s.heap = g'
  rw [hgg] at P
  intro FG' F' N' Y' B' X' T'
  clear B F X N T ret err hf hk
  refine exE6 (cellsSix Y') ?_
  intro c6 c5 c4 c3 c2 c1 hq0
  refine and7 hq0 ?_
  clear hq0
  rintro hE d6 d5 d4 d3 d2 d1
  subst hE
  clear Y'
  simp only [List.cons_append, List.nil_append] at N'
  refine exE7 P ?_
  clear P
  intro dpl rl u1 u2 u3 uw uh hq0
  refine and3 hq0 ?_
  clear hq0
  rintro hP1 hP2 hP0
  refine Exists.elim hP0 ?_
  clear hP0
  intro as hq0
  refine and3 hq0 ?_
  clear hq0
  rintro hP3 hP4 hP5
  (try dsimp only); (try k_fold)
  k_steps
  unfold Halt
  rename Fr g' L' _ _ => F1
  rename News g' L' _ _ => N1
  by_cases hb : BadL l o
  · exact check_raise B' F1 X' T' rfl rfl (by k_dflt ktr_room) hb fun x t vs h4 tk4 R U => RaiseP.on (.inl hb) F1 R U
  have hl2 : 2 ≤ l ∧ l ≤ o + 1 := by unfold BadL at hb; omega
  replace hl := hl hb
  refine check_spec B' F1 X' N1 T' rfl rfl (by k_dflt ktr_room) hl2 fun h4 tk4 F2 N2 => ?_
  clear F1 N1
  k_steps
  unfold Halt
  rename Fr g' L' _ _ => F3
  rename News g' L' _ _ => N3
  refine thr_spec B' F3 X' N3 T' rfl rfl (by k_dflt ktr_room) hs (fun hp2 h5 tk5 fd rowsT qT F4 N4 hlenT hrowsT offT => ?_) (fun hnp x t vs h5 tk5 R U => RaiseP.on (.inr hnp) F3 R U)
  have hs2 := pow2_le hp2
  obtain ⟨ff, hff⟩ := rows_choose hrowsT
  have N5 := newsSub N4 (l' := (L' + 4, c4) :: (L' + 6, c6) :: (L' + 5, c5) :: (L' + 3, c3) :: (L' + 2, c2) :: (L' + 1, c1) :: (fd, listOf ((rowsT.map (·.1)).map Value.ref).toArray qT) :: rowsT) (by k_units)
  have g4 : @Ne Nat (L' + 4) fd := (offT (L' + 4, c4) (by first | k_units | simp)).1
  have g5 : @Ne Nat (L' + 5) fd := (offT (L' + 5, c5) (by first | k_units | simp)).1
  have g6 : @Ne Nat (L' + 6) fd := (offT (L' + 6, c6) (by first | k_units | simp)).1
  have r6 : ∀ p ∈ rowsT, p.1 ≠ L' + 6 := fun p hp => (offT (L' + 6, c6) (by first | k_units | simp)).2 p hp
  have r5 : ∀ p ∈ rowsT, p.1 ≠ L' + 5 := fun p hp => (offT (L' + 5, c5) (by first | k_units | simp)).2 p hp
  have r4 : ∀ p ∈ rowsT, p.1 ≠ L' + 4 := fun p hp => (offT (L' + 4, c4) (by first | k_units | simp)).2 p hp
  clear F3 N3 N4
  k_steps
  refine wpAny_mono (E := fun _ _ => False) ?_ (fun _ _ q => q) (fun _ _ e => e.elim)
  refine gen_post fun gG gD gO QQ hQQ => ?_
  k_steps
  unfold Halt
  rename_i oA dA fdR hq1 lR hq2 Fq Nq hq3 tkq t1 u1' v1 R1 F5 N6 kq
  clear Fq Nq kq
  with_unfolding_all refine' loopRange (n := ht) (fun (c : List (Addr × Obj) × Nat × Obj × Obj) => (fdR, listOf ((c.1.map (·.1)).map Value.ref).toArray c.2.1) :: (L' + 6, c.2.2.1) :: (L' + 5, c.2.2.2) :: (L' + 4, oA) :: (L' + 3, c3) :: (L' + 2, c2) :: (L' + 1, c1) :: (fd, listOf ((rowsT.map (·.1)).map Value.ref).toArray qT) :: (c.1 ++ rowsT)) (fun _ => []) []
                            (fun j c => c.1.length = j ∧ RowsAre (fun y ns => (ordRows (fun a b => (ff a).getD b 0) side wd g l o j)[y]? = some ns) c.1 ∧ (∃ x, c.2.2.1.data = .cell x) ∧ (∃ x, c.2.2.2.data = .cell x) ∧ ∀ p ∈ c.1, p.1 ≠ fdR ∧ p.1 ≠ L' + 6 ∧ p.1 ≠ L' + 5) rfl R1 ?k3 ?k4 F5 (newsSub N6 (l' := (fdR, listOf #[] 0) :: (L' + 6, c6) :: (L' + 5, c5) :: (L' + 4, oA) :: (L' + 3, c3) :: (L' + 2, c2) :: (L' + 1, c1) :: (fd, listOf ((rowsT.map (·.1)).map Value.ref).toArray qT) :: rowsT) (by k_units)) ?init ?turn ?done
  case k3 => exact small_one (by omega) (by omega) (by omega) (by omega)
  case k4 => rw [rangeSize_nat]; (try congr 1); (try omega)
  case init => exact ⟨([], 0, c6, c5), rfl, all_nil, rfl, (fun _ _ h => by simp at h), ⟨_, d6⟩, ⟨_, d5⟩, all_nil⟩
  case done =>
    intro c u h tk hP F6 N7
    obtain ⟨rowsN, qN, cr, cl⟩ := c
    dsimp only [kstB] at F6 hP N7
    obtain ⟨hNl, hNr, -, -, -⟩ := hP
    refine hQQ _ _ _ ?_
    (try k_fold)
    k_steps
    unfold Halt
    rename Fr g' L' _ _ => F8
    rename News g' L' _ _ => N9
    refine plane_spec B' F8 X' N9 T' rfl rfl (by k_dflt ktr_room) (by intro x e; cases e) (by intro x e; cases e) fun h84 tk84 npl dnp w1 w2 w3 F84 N84 la84 lb84 => ?_
    exact LeaveP.intro F84 (newsSub N84 (l' := (npl, instObj 84 dnp) :: (dnp, dictOf [⟨PyData.keyHash w.params "width", .str "width" w1, .int wd uw⟩, ⟨PyData.keyHash w.params "height", .str "height" w2, .int ht uh⟩, ⟨PyData.keyHash w.params "rows", .str "rows" w3, .ref fdR⟩] 3) :: (fdR, listOf ((rowsN.map (·.1)).map Value.ref).toArray qN) :: rowsN) (by k_units)) ⟨hb, hp2, npl, _, rfl, dnp, fdR, w1, w2, w3, uw, uh, qN, rowsN, rfl, by rw [hNl]; simp [ordRows], hNr⟩
  case turn =>
    intro c j t u h tk I oI hj hP hO F6 N7
    first | refine gen_post fun gG gD gO QQ hQQ => ?_ | refine gen_post2 fun gG gD gO QQ hQQ => ?_
    obtain ⟨rowsN, qN, cr, cl⟩ := c
    dsimp only [kstB] at F6 hP N7 hO
    obtain ⟨hNl, hNr, ⟨y6, hy6⟩, ⟨y5, hy5⟩, hNo⟩ := hP
    rw [show (0 : Int) + (j : Int) * 1 = (j : Int) by omega] at F6
    have hjs : j % side < side := Nat.mod_lt _ (by omega)
    obtain ⟨⟨ra, ob⟩, hra⟩ : ∃ p, rowsT[j % side]? = some p := ⟨rowsT[j % side]'(by omega), List.getElem?_eq_getElem _⟩
    obtain ⟨vsT, kT, heq, hIT, hlT, hbT⟩ := hff _ _ hra
    dsimp only at heq
    subst heq
    have hmT : (ra, listOf vsT.toArray kT) ∈ rowsT := List.mem_of_getElem? hra
    obtain ⟨nsR, hnsR⟩ : ∃ ns, g[j]? = some ns := ⟨g[j]'(by omega), List.getElem?_eq_getElem _⟩
    obtain ⟨rb, hrb⟩ : ∃ b, as[j]? = some b := ⟨as[j]'(by omega), List.getElem?_eq_getElem _⟩
    obtain ⟨vsR, hlR, hIR⟩ := hP5 _ _ _ hrb hnsR
    have hmod : (j : Int).fmod side = ((j % side : Nat) : Int) := by rw [Int.fmod_eq_emod_of_nonneg _ (by omega)]; rfl
    have hm0 : 0 ≤ (j : Int).fmod side ∧ (j : Int).fmod side ≤ 100 := by rw [hmod]; omega
    have hra' : (rowsT.map (·.1))[((j : Int).fmod side).toNat]? = some ra := by rw [hmod, Int.toNat_natCast, List.getElem?_map, hra]; rfl
    have hrb' : as[(j : Int).toNat]? = some rb := hrb
    have hRT : ∀ p ∈ (I, oI) :: (rowsN ++ rowsT), p.1 ≠ fdR ∧ p.1 ≠ L' + 6 ∧ p.1 ≠ L' + 5 := by
      intro p hp
      rcases List.mem_cons.mp hp with rfl | hp
      · exact ⟨Ne.symm (hO (fdR, listOf ((rowsN.map (·.1)).map Value.ref).toArray qN) (by first | k_units | simp)), Ne.symm (hO (L' + 6, cr) (by first | k_units | simp)), Ne.symm (hO (L' + 5, cl) (by first | k_units | simp))⟩
      rcases List.mem_append.mp hp with hp | hp
      · exact hNo p hp
      · exact ⟨Nat.ne_of_lt (allLt_at lR.2.2.2.2.2.2.2 p hp), r6 p hp, r5 p hp⟩
    have N8 := newsSub N7 (l' := (fdR, listOf ((rowsN.map (·.1)).map Value.ref).toArray qN) :: (L' + 6, cr) :: (L' + 5, cl) :: (L' + 4, oA) :: (L' + 3, c3) :: (L' + 2, c2) :: (L' + 1, c1) :: (fd, listOf ((rowsT.map (·.1)).map Value.ref).toArray qT) :: (I, oI) :: (rowsN ++ rowsT)) (by k_units)
    generalize hR : (I, oI) :: (rowsN ++ rowsT) = R at N8 hRT
    have hRf : ∀ p ∈ R, p.1 ≠ fdR := fun p hp => (hRT p hp).1
    have hR6 : ∀ p ∈ R, p.1 ≠ L' + 6 := fun p hp => (hRT p hp).2.1
    have hR5 : ∀ p ∈ R, p.1 ≠ L' + 5 := fun p hp => (hRT p hp).2.2
    clear N7 N6 F5 R1
    (try k_fold)
    k_steps
    unfold Halt
    rename Fr g' L' _ _ => F8
    rename News g' L' _ _ => N9
    rename_i hL oL dL hR' oR dR
    refine LCg.ListComp_U (cl := [("side", L' + 2), ("row", L' + 6), ("most", L' + 3), ("line", L' + 5), ("levels", L' + 1), ("area", L' + 4)]) (F₀ := F8) (by rfl) (by decide) (by rfl) (by decide) (by rfl) ?_
    k_steps
    unfold Halt
    rename IsRange _ _ _ _ _ _ _ _ => R2
    rename Fr g' L' _ _ => F9
    rename News g' L' _ _ => N10
    have hmR : (ra, listOf vsT.toArray kT) ∈ R := hR ▸ List.mem_cons_of_mem _ (List.mem_append_right _ hmT)
    have N11 := newsSub N10 (l' := ((fdR, listOf ((rowsN.map (·.1)).map Value.ref).toArray qN) :: (L' + 6, oR) :: (L' + 5, oL) :: (L' + 4, oA) :: (L' + 3, c3) :: (L' + 2, c2) :: (L' + 1, c1) :: (fd, listOf ((rowsT.map (·.1)).map Value.ref).toArray qT) :: R)) (by k_units)
    clear N10
    refine LCg.CompSrc.range (by rfl) F9 N11 R2 (small_one (by omega) (by omega) (by omega) (by omega)) (n := wd) (by rw [rangeSize_nat]; (try congr 1); (try omega)) (by rw [sizeLine_eq]; omega) ?_
    intro gg
    refine compRest_of (n := wd) (fun i ys nw => nw = ((fdR, listOf ((rowsN.map (·.1)).map Value.ref).toArray qN) :: (L' + 6, oR) :: (L' + 5, oL) :: (L' + 4, oA) :: (L' + 3, c3) :: (L' + 2, c2) :: (L' + 1, c1) :: (fd, listOf ((rowsT.map (·.1)).map Value.ref).toArray qT) :: R) ∧ IntsAre ys ((List.range i).map fun (x : Nat) => ordV (pxAt g (x : Int) (j : Int)) ((ff (j % side)).getD (x % side) 0) ((side : Int) * side) l o)) ?step ?fin wd 0 [] _ (Nat.zero_add _) ⟨rfl, IntsAre.nil⟩
    case step =>
      intro i ys nw v I2 oI2 C oC D m₂ h3 tk3 E' hi hJ hP3 hC hx F11 N13 off ne
      obtain ⟨rfl, hIy⟩ := hJ
      obtain ⟨tx, rfl⟩ := hP3
      rw [Int.zero_add] at hx
      have hmodi : (i : Int).fmod side = ((i % side : Nat) : Int) := by rw [Int.fmod_eq_emod_of_nonneg _ (by omega)]; rfl
      have his : i % side < side := Nat.mod_lt _ (by omega)
      have hi0 : 0 ≤ (i : Int).fmod side ∧ (i : Int).fmod side < side := by rw [hmodi]; omega
      have hlR2 : nsR.length = wd := hgr _ _ hnsR
      have N14 := newsSub N13 (l' := (L' + 6, oR) :: (L' + 5, oL) :: (L' + 4, oA) :: (L' + 3, c3) :: (L' + 2, c2) :: (L' + 1, c1) :: (ra, listOf vsT.toArray kT) :: (I2, oI2) :: (C, oC) :: (D, LCg.lst ys) :: ((fdR, listOf ((rowsN.map (·.1)).map Value.ref).toArray qN) :: (L' + 6, oR) :: (L' + 5, oL) :: (L' + 4, oA) :: (L' + 3, c3) :: (L' + 2, c2) :: (L' + 1, c1) :: (fd, listOf ((rowsT.map (·.1)).map Value.ref).toArray qT) :: R)) (by k_units)
      clear N13
      (try k_fold)
      k_steps
      unfold Halt
      rename Fr g' L' _ _ => F12
      rename News g' L' _ _ => N16
      have hpe : pxAt g (i : Int) (j : Int) = nsR.getD (i : Int).toNat 0 := by
        unfold pxAt
        rw [Int.toNat_natCast, Int.toNat_natCast, List.getD_eq_getElem?_getD (l := g), hnsR]; rfl
      have hpb := hpx (i : Int) (j : Int)
      rw [hpe] at hpb
      have hss : (side : Int) * side ≤ 16 * 16 := Int.mul_le_mul (by omega) (by omega) (by omega) (by omega)
      have hs1 : 0 < (side : Int) * side := Int.mul_pos (by omega) (by omega)
      have htb : 0 ≤ (ff (j % side)).getD ((i : Int).fmod side).toNat 0 ∧ (ff (j % side)).getD ((i : Int).fmod side).toNat 0 + 1 ≤ (side : Int) * side := by
        rw [hmodi, Int.toNat_natCast, List.getD_eq_getElem?_getD, List.getElem?_eq_getElem (by omega)]
        exact hbT _ (List.getElem_mem _)
      refine ordLev_spec B' F12 X' N16 T' rfl rfl (by k_dflt ktr_room) hpb (by omega) (by omega) (by omega) ho (fun h5 tk5 t' F13 N17 => ?_)
      refine LCg.CompEnd.intro F13 N17 _ (fun p hp => .tail _ (.tail _ (.tail _ (.tail _ (.tail _ (.tail _ (.tail _ hp))))))) off True.intro ⟨rfl, ?_⟩
      rw [List.range_succ, List.map_append]
      refine ints_snoc hIy ?_
      dsimp only
      rw [hpe, hmodi, Int.toNat_natCast, Int.toNat_natCast]
    case fin =>
      intro ys nw hJ
      obtain ⟨rfl, hIy⟩ := hJ
      intro DD h4 tk4 F10 N15 of
      replace of := off1_mem of
      k_steps
      have gD : @Ne Nat fdR DD := of (fdR, _) List.mem_cons_self
      have hsz : ((rowsN.map (·.1)).map Value.ref).toArray.size ≤ sizeLine := by
        rw [sizeLine_eq]
        simp only [List.size_toArray, List.length_map, hNl]
        omega
      refine append_K F10 N15 (Upd.tail (Ne.symm gD) (Upd.head ?_)) (fun h5 F13 N17 => ?_) hsz
      · intro p hp
        have z := lR
        rcases List.mem_cons.mp hp with rfl | hp
        · show @Ne Nat (L' + 6) fdR; omega
        rcases List.mem_cons.mp hp with rfl | hp
        · show @Ne Nat (L' + 5) fdR; omega
        rcases List.mem_cons.mp hp with rfl | hp
        · show @Ne Nat (L' + 4) fdR; omega
        rcases List.mem_cons.mp hp with rfl | hp
        · show @Ne Nat (L' + 3) fdR; omega
        rcases List.mem_cons.mp hp with rfl | hp
        · show @Ne Nat (L' + 2) fdR; omega
        rcases List.mem_cons.mp hp with rfl | hp
        · show @Ne Nat (L' + 1) fdR; omega
        rcases List.mem_cons.mp hp with rfl | hp
        · show @Ne Nat fd fdR; omega
        · exact hRf p hp
      k_steps
      subst hR
      have e5 := arr_snoc rowsN (DD, LCg.lst ys)
      refine hQQ _ _ _ (TurnPost.next ?_)
      refine TurnEnd.intro (rowsN ++ [(DD, LCg.lst ys)], qN + 1, oR, oL) F13 N17 ?_ ?_ all_nil ?_ ⟨?_, ?_, ⟨_, dR⟩, ⟨_, dL⟩, ?_⟩
      · intro p hp
        dsimp only at hp
        rw [e5] at hp
        revert p; k_units
      · intro p hp
        dsimp only at hp
        rcases List.mem_cons.mp hp with rfl | hp
        · exact hO (fdR, listOf ((rowsN.map (·.1)).map Value.ref).toArray qN) (by first | k_units | simp)
        rcases List.mem_cons.mp hp with rfl | hp
        · exact hO (L' + 6, cr) (by first | k_units | simp)
        rcases List.mem_cons.mp hp with rfl | hp
        · exact hO (L' + 5, cl) (by first | k_units | simp)
        rcases List.mem_append.mp (show p ∈ ((L' + 4, oA) :: (L' + 3, c3) :: (L' + 2, c2) :: (L' + 1, c1) :: (fd, listOf ((rowsT.map (·.1)).map Value.ref).toArray qT) :: (rowsN ++ rowsT)) ++ [(DD, LCg.lst ys)] from by
          simp only [List.mem_cons, List.mem_append, List.not_mem_nil, or_false] at hp ⊢
          rcases hp with h | h | h | h | h | (h | h) | h <;> simp [h]) with hp | hp
        · exact hO p (List.mem_cons_of_mem _ (List.mem_cons_of_mem _ (List.mem_cons_of_mem _ hp)))
        · rw [List.mem_singleton.mp hp]
          exact Ne.symm (of (I, oI) (by first | k_units | simp))
      · intro z zx _ _
        (repeat first | with_reducible rfl | (refine (upd_ne (by assumption)).trans ?_) | (refine (if_neg (by assumption)).trans ?_) | (refine (ite_cf (by assumption)).trans ?_) | (refine (ite_cf rfl).trans ?_)); all_goals rfl
      · simp [hNl]
      · rw [show ordRows (fun a b => (ff a).getD b 0) side wd g l o (j + 1) = ordRows (fun a b => (ff a).getD b 0) side wd g l o j ++ [(List.range wd).map fun (x : Nat) => ordV (pxAt g (x : Int) (j : Int)) ((ff (j % side)).getD (x % side) 0) ((side : Int) * side) l o] from by
          unfold ordRows; rw [List.range_succ, List.map_append]; rfl]
        exact rowsAre_snoc2 hNr (by rw [hNl]; simp [ordRows]) hIy
      · intro p hp
        rcases List.mem_append.mp hp with hp | hp
        · exact hNo p hp
        · rw [List.mem_singleton.mp hp]
          exact ⟨Ne.symm gD, Ne.symm (of (L' + 6, oR) (by first | k_units | simp)), Ne.symm (of (L' + 5, oL) (by first | k_units | simp))⟩
end
end
end
section
noncomputable def LeaveT (fs : List Addr) (g : Heap) (s : Shared) (Post : Value → List (Addr × Obj) → Prop) (v : Value) (s' : Shared) : Prop :=
  ∃ h' tk' g' L' m' news', s' = { s with heap := h', toks := tk' } ∧ KtsTurn fs g g' ∧ Fr g' L' h' m' ∧ News g' L' h' news' ∧ Post v news'
theorem LeaveT.intro {fs : List Addr} {g g' h' : Heap} {s : Shared} {Post : Value → List (Addr × Obj) → Prop} {v : Value} {tk' : Nat} {L' : Addr} {m' : Str → Option Value} {news' : List (Addr × Obj)}
    (T : KtsTurn fs g g') (F : Fr g' L' h' m') (N : News g' L' h' news') (P : Post v news') : LeaveT fs g s Post v { s with heap := h', toks := tk' } := ⟨h', tk', g', L', m', news', rfl, T, F, N, P⟩
section
variable {A₀ : Around} {base h₀ h g' h' : Heap} {outer : List Env} {L L' : Addr} {m m' : Str → Option Value} {env : Env} {news : List (Addr × Obj)}
theorem dicts_push (D : KtsDicts (outer.filterMap (·.frame)) h₀) (F : Fr h₀ L h m) (hf : env.frame = some L) : KtsDicts ((env :: outer).filterMap (·.frame)) h := fun b hb => by
  rcases mem_frames hf hb with rfl | hb
  · obtain ⟨o, es, ep, e1, e2, _⟩ := F.ns
    exact ⟨o, es, ep, e1, e2⟩
  · obtain ⟨o, es, n, e1, e2⟩ := D b hb
    exact ⟨o, es, n, F.keep _ _ e1, e2⟩
theorem turnBack (B : Below A₀ base outer h₀) (F : Fr h₀ L h m) (N : News h₀ L h news) (hf : env.frame = some L) (T' : KtsTurn ((env :: outer).filterMap (·.frame)) h g') (F' : Fr g' L' h' m') :
    ∃ h₀', KtsTurn (outer.filterMap (·.frame)) h₀ h₀' ∧ Fr h₀' L h' m ∧ News h₀' L h' news ∧ Below A₀ base outer h₀' := by
  have nL : h₀.get? L = none := kts_self F
  obtain ⟨T, S⟩ := kts_turn_at (h := h') (fs := outer.filterMap (·.frame)) (g := h₀)
    (fun b hb => by
      obtain ⟨_, o, ho', _⟩ := B.frames.mem hb
      exact ⟨o, ho'⟩)
    (fun b o e nmem => F'.keep b o (T'.other b o (F.keep b o e) fun q => by
      rcases mem_frames hf q with z | z
      · rw [z, nL] at e; cases e
      · exact nmem z))
    (fun b o e hm => by
      obtain ⟨sl, hs⟩ := T'.up (F.keep b o e)
      exact ⟨sl, F'.keep _ _ hs⟩)
  have B' : Below A₀ base outer (ktsHeap h' (outer.filterMap (·.frame)) h₀) := ⟨B.stack, fun b o e => T.other b o (B.stays b o e) (fun hm => by
    rw [(B.frames.mem hm).1] at e
    cases e), B.frames.of_keeps fun b o e _ => by
    obtain ⟨sl, hs⟩ := T.up e
    exact ⟨_, hs, rfl⟩⟩
  obtain ⟨oL, es, ep, hL, hLd, hLk, hLf⟩ := F.ns
  obtain ⟨sl, hs⟩ := T'.up hL
  refine ⟨_, T, ⟨⟨_, es, ep, F'.keep _ _ hs, hLd, hLk, hLf⟩, S, by rw [T.size]; exact F.above⟩, fun p hp => ⟨F'.keep _ _ (T'.other _ _ (N p hp).1 fun q => ?_), (N p hp).2.1, T.none_ _ (N p hp).2.2⟩, B'⟩
  rcases mem_frames hf q with z | z
  · exact (N p hp).2.1 z
  · obtain ⟨_, o, ho', _⟩ := B.frames.mem z
    rw [(N p hp).2.2] at ho'; cases ho'
end
section
variable {prog : Program} {w : World} {A₀ : Around} {s : Shared} {base h₀ : Heap} {outer : List Env} {L : Addr} {m mg mb : Str → Option Value} {env : Env} {news core : List (Addr × Obj)} {K : Frag} {p : Program} {loose : List Str} {mean : ExcName → Option Value}
  {name qual : Str} {params : Arguments} {body : List Stmt} {scope : Scope} {cl : List (Str × Addr)} {dV kV doc pm cdv ct oc : Value} {an od : Option Addr} {osl : Array (Option Value)} {f : Addr} {args : List Value} {binds : List (Str × Value)}
  {dp un : Nat} {gd : Option (List Code)} {Q E : Value → Shared → Prop}
theorem enterS (Post : Value → Prop)
    (B : Below A₀ base outer h₀) (F : Fr h₀ L s.heap m) (X₀ : K.In h₀) (N : News h₀ L s.heap news) (T : Top p loose mean mg mb h₀) (hf : env.frame = some L) (hke : env.scope.kind = .function) (D : KtsDicts (outer.filterMap (·.frame)) h₀)
    (ret : ∀ v h' tk' h₀', KtsTurn (outer.filterMap (·.frame)) h₀ h₀' → Fr h₀' L h' m → News h₀' L h' news → Below A₀ base outer h₀' → Post v → Q v { s with heap := h', toks := tk' })
    (ho : K.lookup f = some ⟨oc, od, .func (fnOf name qual params body scope dV kV doc pm an cdv ct), osl⟩) (hcd : codeIn K cdv qual = true) (hroom : dp < recursionLimit)
    (hbind : BindsTo s (fnOf name qual params body scope dV kV doc pm an cdv ct) ⟨args, []⟩ binds) (hloc : ∀ y ∈ binds, scope.names.lookup y.1 = some .local)
    (h : ∀ L' h₁, Fr h₀ L s.heap m → Fr s.heap L' h₁ (fun y => binds.reverse.lookup y) → News s.heap L' h₁ [] → Below (AA dp un gd env outer) base (env :: outer) s.heap → K.In s.heap → Top p loose mean mg mb s.heap → KtsDicts ((env :: outer).filterMap (·.frame)) s.heap →
      wpAny (model prog w) ((AA dp un gd env outer).deeper (envOf qual scope L' f cdv)) (execs body (envOf qual scope L' f cdv))
        (fun fl s' => LeaveT ((env :: outer).filterMap (·.frame)) s.heap s (fun v _ => Post v) (match fl with | .ret v => v | _ => .none) s')
        (fun _ _ => False)
        { s with heap := h₁, toks := s.toks + binds.length })
    (hco : scope.isCoroutine = false) (hgen : scope.isGenerator = false) (hk : scope.kind = .function)
    (hcell : ∀ x ∈ scope.names, x.2 ≠ .cell) : wpAny (model prog w) (AA dp un gd env outer) (call (.ref f) args) Q E s := by
  have hA : (AA dp un gd env outer).frames = some (env :: outer) := rfl
  obtain ⟨FG, BG, st, lv⟩ := groundX (news := []) (R := fun r s' => match r with | .ok (.ret v) => Q v s' | .ok _ => False | .error e => E e s') B F all_nil hA hf hke
  refine wpAny_call (codeAny_call_def (fd := fnOf name qual params body scope dV kV doc pm an cdv ct) (body := body) (binds := binds) hroom ((X₀.keeps F.keep) _ _ ho) rfl (T.nolimit.keeps F.keep) (codeRec_of (X₀.keeps F.keep) hcd) rfl hbind hcell hloc (fun h₁ hns hk₁ => ?_) hco hgen hk)
  refine wpAny_mono (h s.heap.objs.size h₁ F ⟨hns, hk₁, Nat.le_refl _⟩ (fun _ hp => nomatch hp) BG (X₀.keeps F.keep) (T.keeps F.keep) (dicts_push D F hf)) (fun fl s' hl => ?_) (fun _ _ y => y.elim)
  obtain ⟨h', tk', g', L', m', news', rfl, T', F', N', hP⟩ := hl
  obtain ⟨h₀', T0, F0, N0, B0⟩ := turnBack B F N hf T' F'
  exact ret _ h' tk' h₀' T0 F0 N0 B0 hP
theorem enterTC (Post : Value → List (Addr × Obj) → Prop)
    (B : Below A₀ base [] h₀) (F : Fr h₀ L s.heap m) (X₀ : K.In h₀) (N : News h₀ L s.heap core) (T : Top p loose mean mg mb h₀) (hf : env.frame = some L) (hke : env.scope.kind = .function)
    (ret : ∀ v h' tk' news', Fr h₀ L h' m → News h₀ L h' news' → Post v news' → Q v { s with heap := h', toks := tk' })
    (ho : K.lookup f = some ⟨oc, od, .func (fnOf name qual params body scope dV kV doc pm an cdv ct), osl⟩) (hcd : codeIn K cdv qual = true) (hroom : dp < recursionLimit)
    (hbind : BindsTo s (fnOf name qual params body scope dV kV doc pm an cdv ct) ⟨args, []⟩ binds) (hkind : (binds.all fun y => scope.names.lookup y.1 == some .local || scope.names.lookup y.1 == some .cell) = true)
    (hnd : ((cellsFrom 0 scope.names []).map (·.1)).Nodup)
    (h : ∀ g L' h₁ tk cells, Fr h₀ L g m → Fr g L' h₁ (bindL (envOfC qual scope L' f cdv).kindOf binds fun _ => none) → News g L' h₁ (cells ++ core) →
      CellsAre (bindC (envOfC qual scope L' f cdv).kindOf binds fun _ => none) (cellsFrom (L' + 1) scope.names []) cells → Below (AA dp un gd env []) base [env] g → K.In g → Top p loose mean mg mb g → KtsDicts ([env].filterMap (·.frame)) g → (∀ q ∈ core, q.1 < L') → Stays s.heap g core →
      wpAny (model prog w) ((AA dp un gd env []).deeper (envOfC qual scope L' f cdv)) (execs body (envOfC qual scope L' f cdv))
        (fun fl s' => LeaveT ([env].filterMap (·.frame)) g s Post (match fl with | .ret v => v | _ => .none) s')
        (fun _ _ => False)
        { s with heap := h₁, toks := tk })
    (hco : scope.isCoroutine = false) (hgen : scope.isGenerator = false) (hk : scope.kind = .function) : wpAny (model prog w) (AA dp un gd env []) (call (.ref f) args) Q E s := by
  have hA : (AA dp un gd env []).frames = some [env] := rfl
  obtain ⟨FG, BG, st, -⟩ := groundX (R := fun _ _ => True) B F N hA hf hke
  have stays : Stays s.heap (hideAll s.heap (core.map (·.1))) core := fun b o e hb => hideAll_get _ e fun q => by
    obtain ⟨p, hp, rfl⟩ := List.mem_map.mp q
    exact hb p hp rfl
  refine wpAny_call (codeAny_call_function hroom ((X₀.keeps F.keep) _ _ ho) rfl hco hgen rfl (codeRec_of (X₀.keeps F.keep) hcd) (hbind _ _ _ _ ?_))
  refine wpAny_newFunctionEnv_cells hk (kindsX hkind _) fun env' he s' x => ?_
  subst he
  refine ⟨(T.nolimit.keeps F.keep).keeps x.toInCall.keep, codeAny_func ?_⟩
  obtain ⟨h₁, tk, rfl, _⟩ := x.done
  have hk₁ := x.toInCall.keep
  obtain ⟨cells, NC, Y⟩ := Cl.news (h₀ := s.heap) (Nat.le_refl _) fun n c hm => ⟨x.cell n c (lookup_of_mem_nodup (cellsFrom_names scope.names 0 (s.heap.objs.size + 1) [] [] rfl ▸ hnd) hm), x.above n c hm⟩
  have D : KtsDicts ([env].filterMap (·.frame)) (hideAll s.heap (core.map (·.1))) := dicts_push (outer := []) (fun _ hb => nomatch hb) FG hf
  refine wpAny_mono (h _ s.heap.objs.size h₁ tk cells FG ⟨x.toInCall.ns, fun b o e => hk₁ b o (of_hideAll _ e), Nat.le_of_eq (hideAll_size _ _)⟩ (fun p hp => ?_) Y BG (X₀.keeps st) (T.keeps st) D (fun p hp => Heap.lt_size (N p hp).1) stays) (fun fl s' hl => ?_) (fun _ _ y => y.elim)
  · rcases List.mem_append.mp hp with hp | hp
    · refine ⟨(NC p hp).1, (NC p hp).2.1, ?_⟩
      cases q : (hideAll s.heap (core.map (·.1))).get? p.1 with
      | none => rfl
      | some o => have := of_hideAll _ q; rw [(NC p hp).2.2] at this; cases this
    · exact ⟨hk₁ _ _ (N p hp).1, Nat.ne_of_lt (Heap.lt_size (N p hp).1), hideAll_none _ (List.mem_map_of_mem hp)⟩
  · obtain ⟨h', tk', g', L', m', news', rfl, T', F', N', hP⟩ := hl
    have nL₀ : h₀.get? L = none := kts_self F
    obtain ⟨oL, es, ep, hL, hLd, hLk, hLf⟩ := FG.ns
    obtain ⟨sl, hs⟩ := T'.up hL
    refine ret _ h' tk' news' ⟨⟨_, es, ep, F'.keep _ _ hs, hLd, hLk, hLf⟩, fun b o e => F'.keep b o (T'.other b o (st b o e) (fun q => by
      rcases mem_frames hf q with z | z
      · rw [z, nL₀] at e; cases e
      · simp at z)), F.above⟩ (fun p hp => ⟨(N' p hp).1, fun q => ?_, ?_⟩) hP
    · have := (N' p hp).2.2; rw [q, hs] at this; cases this
    · cases q : h₀.get? p.1 with
      | none => rfl
      | some o =>
        obtain ⟨sl', hs'⟩ := T'.up (st _ _ q)
        have := (N' p hp).2.2
        rw [hs'] at this
        cases this
theorem enterL {lbody : PySem.Expr} {pml ctl : Value} {c' : Addr}
    (B : Below A₀ base outer h₀) (F : Fr h₀ L s.heap m) (X₀ : K.In h₀) (T : Top p loose mean mg mb h₀) (hf : env.frame = some L) (hke : env.scope.kind = .function)
    (ho : s.heap.get? f = some (kla_obj name qual params lbody scope cl pml c' ctl)) (hcd : s.heap.CodeRec (.ref c') qual) (hroom : dp < recursionLimit)
    (err : ∀ x t vs h' tk', RaisedS base s.heap (env :: outer) x (.ref 51) t vs [] h' → s.heap.UpToSlots h' → E (.ref x) { s with heap := h', toks := tk' })
    (hbind : bindArgs (kla_fn name qual params lbody scope cl pml (.ref c') ctl) ⟨args, []⟩ = pure binds) (hloc : ∀ y ∈ binds, scope.names.lookup y.1 = some .local)
    (h : ∀ L' h₁, Fr h₀ L s.heap m → Fr s.heap L' h₁ (fun y => binds.reverse.lookup y) → News s.heap L' h₁ [] → Below (AA dp un gd env outer) base (env :: outer) s.heap → K.In s.heap → Top p loose mean mg mb s.heap →
      wpAny (model prog w) ((AA dp un gd env outer).deeper (envX qual scope L' f (.ref c') cl)) (eval lbody (envX qual scope L' f (.ref c') cl))
        (fun _ _ => False)
        (fun e s' => RaiseP True base s.heap (envX qual scope L' f (.ref c') cl) (env :: outer) L' s e s')
        { s with heap := h₁, toks := s.toks + binds.length })
    (hco : scope.isCoroutine = false) (hgen : scope.isGenerator = false) (hk : scope.kind = .function)
    (hcell : ∀ x ∈ scope.names, x.2 ≠ .cell) : wpAny (model prog w) (AA dp un gd env outer) (call (.ref f) args) Q E s := by
  have hA : (AA dp un gd env outer).frames = some (env :: outer) := rfl
  obtain ⟨FG, BG, st, lv⟩ := groundX (news := []) (R := fun r s' => match r with | .ok (.ret v) => Q v s' | .ok _ => False | .error e => E e s') B F all_nil hA hf hke
  refine wpAny_call (kla_callFunE hroom ho rfl hco hgen rfl hcd ?_)
  rw [hbind]
  refine wpAny_pure (wpAny_newFunctionEnv hcell hloc (fun h₁ hns hsb => ⟨((T.nolimit).keeps F.keep).fresh _ hsb, ?_⟩) hk)
  show codeAny _ _ (.expr lbody (envX qual scope s.heap.objs.size f (.ref c') cl)) _ _
  have hk₁ : ∀ b o, s.heap.get? b = some o → h₁.get? b = some o := fun b o e => hsb.extBut b o (Nat.ne_of_lt (Heap.lt_size e)) (Heap.get?_push_of_some _ e)
  refine kla_codeExpr (wpAny_mono (h s.heap.objs.size h₁ F ⟨hns, hk₁, Nat.le_refl _⟩ (fun _ hp => nomatch hp) BG (X₀.keeps F.keep) (T.keeps F.keep)) (fun _ _ y => y.elim) (fun e s' he => ?_))
  exact leaveErr BG rfl hk he fun x t vs h' tk' _ q R U => by subst q; exact err x t vs h' tk' R U
end
end
section
section
variable {prog : Program} {w : World} {p : Program} {loose : List Str} {mean : ExcName → Option Value} {mg mb : Str → Option Value} {dp un : Nat} {gd : Option (List Code)} {env : Env} {outer : List Env} {A₀ : Around} {base h₀ : Heap} {L : Addr} {m : Str → Option Value} {news : List (Addr × Obj)} {s : Shared}
  {Q E : Value → Shared → Prop}
  (B : Below A₀ base outer h₀) (F : Fr h₀ L s.heap m) (X : (hd.heap_1 w.params).In h₀) (N : News h₀ L s.heap news) (T : Top p loose mean mg mb h₀) (hf : env.frame = some L) (hk : env.scope.kind = .function)
  (XB : (hd.heap_1 w.params).In base) (TB : Top p loose mean mg mb base) (D : KtsDicts (outer.filterMap (·.frame)) h₀)
include B F X N T hf hk XB TB D
local macro_rules | `(tactic| walk_at "call ref") => `(tactic| refine halt ?_)
theorem isref_spec {f : Addr} (hroom : dp + 2 < recursionLimit) (fn : FnAt f s.heap)
    (deed : ∀ (env' : Env) L' h₁ tk m' (Q E : Value → Shared → Prop), env'.frame = some L' → env'.scope.kind = .function → Fr s.heap L' h₁ m' → News s.heap L' h₁ [] → Below (AA dp un gd env outer) base (env :: outer) s.heap → (hd.heap_1 w.params).In s.heap → Top p loose mean mg mb s.heap →
      (∀ x t vs h' tk', RaisedS base h₁ (env' :: env :: outer) x (.ref 51) t vs [] h' → h₁.UpToSlots h' → E (.ref x) { s with heap := h', toks := tk' }) →
      wpAny (model prog w) ((AA dp un gd env outer).deeper env') (call (.ref f) []) Q E { s with heap := h₁, toks := tk })
    (ret : ∀ h' tk' h₀', KtsTurn (outer.filterMap (·.frame)) h₀ h₀' → Fr h₀' L h' m → News h₀' L h' news → Below A₀ base outer h₀' → Q (.bool true) { s with heap := h', toks := tk' }) :
    wpAny (model prog w) (AA dp un gd env outer) (call (.ref 230) [.ref f]) Q E s := by
  refine' enterS (binds := [("deed", .ref f)]) (fun v => v = .bool true) B F X N T hf hk D (fun v h' tk' h₀' t1 t2 t3 t4 e => e ▸ ret h' tk' h₀' t1 t2 t3 t4) ?k6 ?k7 ?k8 ?k9 ?kB ?_ ?c2 ?c3 ?c4 ?c5
  (case k6 => k_dflt k_is); (case k7 => k_dflt k_is); (case k8 => k_dflt ktr_room); (case k9 => exact BindsTo.of_eq rfl); (case kB => first | exact locs rfl | exact rfl); (case c2 => rfl); (case c3 => rfl); (case c4 => rfl); (try case c5 => decide); (try case kD => decide +kernel)
  intro L' h' FG' F' N' B' X' T' D'
  revert deed fn FG' F' N' B' X' T' D'
  generalize hgg : s.heap = g'
  intro fn deed FG' F' N' B' X' T' D'
  k_dflt (refine' with_lookup (K := hd.heap_1 w.params) (a := 51) ?e1 ?_; (case e1 => k_is))
  intro h51
  have q51 : ktsIn (hd.heap_1 w.params) 51 "BaseException" = true := by
    unfold ktsIn; rw [h51]; decide
  clear B F X N T ret D hf hk h51
  (try dsimp only); (try k_fold)
  k_steps
  refine callWith_F0 (let ⟨oc, od, fd, sl, e⟩ := fn; ⟨oc, od, fd, sl, F'.keep _ _ e⟩) ?_
  refine deed _ L' h' _ _ _ _ rfl rfl F' N' B' X' T' (fun x t vs h2 tk2 R U => ?_)
  refine caught_SO0 R F' B' U XB TB D' KtsTurn.refl ?ex q51 ?kk
  case ex => k_dflt k_is
  case kk =>
    intro h3 g3 news3 T3 F3 N3 _ _ B3 X3 P3 D3
    clear F' N' B' X' T' D' XB TB
    k_steps
    exact LeaveT.intro T3 F3 N3 rfl
end
end
section
theorem mv7 {g h : Heap} {L : Addr} {a b c d e f k x : Addr × Obj} {r : List (Addr × Obj)} (N : News g L h (a :: b :: c :: d :: e :: f :: k :: x :: r)) : News g L h (x :: a :: b :: c :: d :: e :: f :: k :: r) := newsSub N (by k_units)
theorem mv2 {g h : Heap} {L : Addr} {a b x : Addr × Obj} {r : List (Addr × Obj)} (N : News g L h (a :: b :: x :: r)) : News g L h (x :: a :: b :: r) := newsSub N (by k_units)
theorem bad_levels {r o : Int} (h0 : 0 ≤ r) (h1 : r < 5) (ho : 1 ≤ o ∧ o ≤ 300) : BadL (([1, 0, -2, o + 2, o + 9] : List Int).getD r.toNat 0) o ∧ ([1, 0, -2, o + 2, o + 9] : List Int).getD r.toNat 0 ≤ 320 := by
  have : r = 0 ∨ r = 1 ∨ r = 2 ∨ r = 3 ∨ r = 4 := by omega
  rcases this with rfl | rfl | rfl | rfl | rfl <;> (simp [BadL] <;> omega)
theorem bad_side {r : Int} (h0 : 0 ≤ r) (h1 : r < 5) : ∃ sd : Nat, ([3, 5, 6, 12, 0] : List Int).getD r.toNat 0 = (sd : Int) ∧ sd ≤ 16 ∧ ¬ Pow2 sd := by
  have : r = 0 ∨ r = 1 ∨ r = 2 ∨ r = 3 ∨ r = 4 := by omega
  rcases this with rfl | rfl | rfl | rfl | rfl
  · exact ⟨3, rfl, by decide, by unfold Pow2; decide⟩
  · exact ⟨5, rfl, by decide, by unfold Pow2; decide⟩
  · exact ⟨6, rfl, by decide, by unfold Pow2; decide⟩
  · exact ⟨12, rfl, by decide, by unfold Pow2; decide⟩
  · exact ⟨0, rfl, by decide, by unfold Pow2; decide⟩
theorem isList_turn {fs : List Addr} {g g' : Heap} (T : KtsTurn fs g g') {l : Addr} {items : Array Value} (h : g.IsList l items) : g'.IsList l items := by
  obtain ⟨o, e, hc, n, hd⟩ := h
  obtain ⟨sl, hs⟩ := T.up e
  exact ⟨_, hs, hc, n, hd⟩
theorem GridAt.turn {fs : List Addr} {g g' : Heap} (T : KtsTurn fs g g') {rl : Addr} {G : List (List Int)} (h : GridAt g rl G) : GridAt g' rl G := by
  obtain ⟨as, h1, h2, h3⟩ := h
  refine ⟨as, isList_turn T h1, h2, fun y a ns e1 e2 => ?_⟩
  obtain ⟨vs, h4, h5⟩ := h3 y a ns e1 e2
  exact ⟨vs, isList_turn T h4, h5⟩
theorem ld_freeX {M : Model} {A : Around} {E : Value → Shared → Prop} {s : Shared} {g : Heap} {Lf L a c : Addr} {m : Str → Option Value} {cn : Str} {cs : Scope} {ccd : Value} {cl : List (Str × Addr)} {x : Str} {pos : Pos} {v : Value} {o : Obj} {Q : Value → Shared → Prop}
    (F : Fr g Lf s.heap m) (hc : cl.lookup x = some c) (hget : g.get? c = some o) (hd : o.data = .cell (some v)) (h : Q v s)
    (hk : (envX cn cs L a ccd cl).scope.kind = .function := by rfl) (hx : (envX cn cs L a ccd cl).kindOf x = some .free := by rfl) (hb : (x == ("__debug__" : Str)) = false := by decide) (hn : (x == ("__classdict__" : Str)) = false := by decide) :
    wpAny M A (eval (.Name x pos) (envX cn cs L a ccd cl)) Q E s := wpAny_Name (wpAny_loadName_free hk hx hc ⟨o, F.keep _ _ hget, hd⟩ h hn) hb
section
variable {prog : Program} {w : World} {p : Program} {loose : List Str} {mean : ExcName → Option Value} {mg mb : Str → Option Value} {dp un : Nat} {gd : Option (List Code)} {env : Env} {A₀ : Around} {base h₀ : Heap} {L : Addr} {m : Str → Option Value} {news : List (Addr × Obj)} {s : Shared}
  {Q E : Value → Shared → Prop}
  (B : Below A₀ base [] h₀) (F : Fr h₀ L s.heap m) (X : (hd.heap_1 w.params).In h₀) (T : Top p loose mean mg mb h₀) (hf : env.frame = some L) (hk : env.scope.kind = .function)
  (XB : (hd.heap_1 w.params).In base) (TB : Top p loose mean mg mb base) (Cd : CodeHd base 236 232)
include B F X T hf hk XB TB Cd
local macro_rules | `(tactic| walk_at "eval Name") => `(tactic| ((with_reducible show wpAny _ _ (eval (Expr.Name _ _) (envX _ _ _ _ _ _)) _ _ _); k_dflt (refine ld_freeX (by k_asm) (by rfl) (by assumption) (by assumption) ?_)))
local macro_rules | `(tactic| walk_at "call builtin:len") => `(tactic| regdictc_post)
theorem refused_spec {sv ra : Addr} {a b o : Int} {ta tb tm : Tok} {n wd ht : Nat} {g : List (List Int)} (hroom : dp + 20 < recursionLimit) (N : News h₀ L s.heap [(sv, listOf [.int a ta, .int b tb].toArray n), (232, tabObj #[])]) (ne : @Ne Nat sv 232)
    (ha : 0 ≤ a) (hb : 0 ≤ b ∧ b < 65353) (ho : 1 ≤ o ∧ o ≤ 300)
    (G : ∀ hx, Stays s.heap hx [(sv, listOf [.int a ta, .int b tb].toArray n), (232, tabObj #[])] → GridAt hx ra g) (hg : g.length = ht) (hgr : ∀ (j : Nat) ns, g[j]? = some ns → ns.length = wd) (hpx : ∀ x y, 0 ≤ pxAt g x y ∧ pxAt g x y ≤ 300) (h1 : 1 ≤ ht) (hw : wd ≤ 20) (hh : ht ≤ 20)
    (ret : ∀ h' tk' ps, Fr h₀ L h' m → News h₀ L h' [(232, tabObj ps)] → Q (.bool true) { s with heap := h', toks := tk' }) :
    wpAny (model prog w) (AA dp un gd env []) (call (.ref 237) [.ref sv, .ref ra, .int o tm]) Q E s := by
  refine' enterTC (binds := [("sieve", .ref sv), ("rows", .ref ra), ("most", .int o tm)]) (fun v nw => v = .bool true ∧ ∃ ps, (232, tabObj ps) ∈ nw) B F X N T hf hk ?ret ?k6 ?k7 ?k8 ?k9 ?kB ?kD ?_ ?c2 ?c3 ?c4
  case ret =>
    rintro v h' tk' nw F' N' ⟨rfl, ps, hps⟩
    exact ret h' tk' ps F' fun p hp => by rw [List.mem_singleton.mp hp]; exact N' _ hps
  (case k6 => k_dflt k_is); (case k7 => k_dflt k_is); (case k8 => k_dflt ktr_room); (case k9 => exact BindsTo.of_eq rfl); (case kB => first | exact locs rfl | exact rfl); (case c2 => rfl); (case c3 => rfl); (case c4 => rfl); (try case c5 => decide); (try case kD => decide +kernel)
  intro g' L' h' tk' cells' FG' F' N' Y' B' X' T' D' l1 st'
  have G' := G g' st'
  clear B F X N T ret hf hk G
  obtain ⟨c4, c3, c2, c1, hE, d4, d3, d2, d1⟩ := CellsAre.four Y'
  subst hE
  clear Y'
  simp only [List.cons_append, List.nil_append] at N'
  obtain ⟨as, hr, has, hrow⟩ := id G'
  obtain ⟨a0, ha0⟩ : ∃ a, as[(0 : Int).toNat]? = some a := ⟨as[0]'(by omega), List.getElem?_eq_getElem _⟩
  obtain ⟨ns0, hns0⟩ : ∃ ns, g[0]? = some ns := ⟨g[0]'(by omega), List.getElem?_eq_getElem _⟩
  obtain ⟨vs0, hl0, hi0⟩ := hrow 0 _ _ ha0 hns0
  have hlen0 : (vs0.toArray.size : Int) = (wd : Int) := by rw [List.size_toArray, hi0.length, hgr _ _ hns0]
  have hlen5 : ((as.map Value.ref).toArray.size : Int) = (ht : Int) := by simp [has, hg]
  have l2 := l1 _ (.head _)
  have l3 := l1 _ (.tail _ (.head _))
  replace l2 : @LT.lt Nat _ sv L' := l2
  replace l3 : @LT.lt Nat _ 232 L' := l3
  (try dsimp only); (try k_fold)
  k_steps
  unfold Halt
  rename Fr g' L' _ _ => F1
  rename News g' L' _ _ => N1
  refine plane_spec B' F1 X' N1 T' rfl rfl (by k_dflt ktr_room) (by intro x e; cases e) (by intro x e; cases e) fun h84 tk84 npl dnp w1 w2 w3 F84 N84 la84 lb84 => ?_
  have z1 : @LT.lt Nat _ (L' + 4) dnp := la84 _ (.head _)
  clear F1 N1 la84
  k_steps
  unfold Halt
  rename Fr g' L' _ _ => F2
  rename News g' L' _ _ => N2
  refine sift_spec B' F2 X' (mv7 N2) T' rfl rfl (by k_dflt ktr_room) (fun o' => Upd.head (by k_all)) ha hb (by decide) fun h5 tk5 r tr a2 ta2 b2 tb2 hr0 hr1 ha2 hb2 F3 N3 => ?_
  clear F2 N2
  k_steps
  unfold Halt
  rename_i tv D1 hA lD1 hB hC oP dP hD oL dL l2l hE F4 N4 ll2
  obtain ⟨lv, dlv, hbad⟩ : ∃ lv, oL.data = .cell (some (.int lv tv)) ∧ BadL lv o ∧ lv ≤ 320 := ⟨_, dL, bad_levels hr0 hr1 ho⟩
  clear dL
  refine sift_spec B' F4 X' (mv2 N4) T' rfl rfl (by k_dflt ktr_room) (fun o' => Upd.head (by k_all)) ha2 hb2 (by decide) fun h6 tk6 r2 tr2 a3 ta3 b3 tb3 hr2 hr3 ha3 hb3 F5 N5 => ?_
  clear F4 N4
  k_steps
  unfold Halt
  rename_i tv2 hF oS Fq Nq dS f1 cc1 oc1 vs1 tt1 ct1 hG tkq F6 N6 e1 e2 lf1 lf2
  obtain ⟨sd, esd, hsd, hnp⟩ := bad_side hr2 hr3
  replace dS : oS.data = .cell (some (.int (sd : Int) tv2)) := dS.trans (congrArg (fun z => Data.cell (some (.int z tv2))) esd)
  replace d1 : c1.data = .cell (some (.int o tm)) := d1
  clear Fq Nq
  refine isref_spec B' F6 X' N6 T' rfl rfl XB TB D' (by k_dflt ktr_room) (FnAt.of N6 (List.Mem.head _)) ?deed1 ?ret1
  case deed1 =>
    intro env2 L2 h1 tk1 m2 Q2 E2 hf2 hk2 F7 N7 B7 X7 T7 err2
    have y1 : h1.get? (L' + 1) = some c1 := F7.keep _ _ (N6 (L' + 1, c1) (by k_mem)).1
    have y2 : h1.get? (L' + 2) = some oL := F7.keep _ _ (N6 (L' + 2, oL) (by k_mem)).1
    have y3 : h1.get? (L' + 3) = some oP := F7.keep _ _ (N6 (L' + 3, oP) (by k_mem)).1
    have y4 : h1.get? (L' + 4) = some oS := F7.keep _ _ (N6 (L' + 4, oS) (by k_mem)).1
    have P7 : PlaneAt w h1 npl wd ht g := ⟨dnp, ra, w1, w2, w3, _, _, F7.keep _ _ (N6 (npl, instObj 84 dnp) (by k_mem)).1, F7.keep _ _ (N6 (dnp, dictOf _ 3) (by k_mem)).1, (G'.keep F6.keep).keep F7.keep⟩
    refine enterL (env := env2) B7 F7 X7 T7 hf2 hk2 (F7.keep _ _ (N6 _ (List.Mem.head _)).1) ((codeRec_news N6 (List.Mem.tail _ (List.Mem.head _)) e1 e2).keeps F7.keep) (by k_dflt ktr_room) err2 rfl (locs rfl) ?_ rfl rfl rfl (by decide)
    intro L3 h3 F7' F8 N8 B8 X8 T8
    clear F6 N6 B7 X7 T7 err2 N7 F7 F7'
    (try dsimp only); (try k_fold)
    k_steps
    unfold Halt
    rename Fr h1 L3 _ _ => F9
    exact spread_raise B8 F9 X8 T8 rfl rfl (by k_dflt ktr_room) hbad.1 (fun x t vs h' tk' R U => RaiseP.on True.intro F9 R U)
  case ret1 =>
    intro h7 tk7 g2 T0 F10 N10 B10
    have X10 : (hd.heap_1 w.params).In g2 := XB.keeps B10.stays
    have T10 : Top p loose mean mg mb g2 := TB.keeps B10.stays
    have D10 := D'.turn T0
    replace G' := GridAt.turn T0 G'
    clear hl0 hr hrow ha0
    clear B' X' T' D' F6 N6
    k_steps
    unfold Halt
    rename_i f2 cc2 oc2 vs2 tt2 ct2 hG2 tkq2 F11 N11 e3 e4 lf3 lf4
    refine isref_spec B10 F11 X10 N11 T10 rfl rfl XB TB D10 (by k_dflt ktr_room) (FnAt.of N11 (List.Mem.head _)) ?deed2 ?ret2
    case deed2 =>
      intro env2 L2 h1 tk1 m2 Q2 E2 hf2 hk2 F7 N7 B7 X7 T7 err2
      have y1 : h1.get? (L' + 1) = some c1 := F7.keep _ _ (N11 (L' + 1, c1) (by k_mem)).1
      have y2 : h1.get? (L' + 2) = some oL := F7.keep _ _ (N11 (L' + 2, oL) (by k_mem)).1
      have y3 : h1.get? (L' + 3) = some oP := F7.keep _ _ (N11 (L' + 3, oP) (by k_mem)).1
      have y4 : h1.get? (L' + 4) = some oS := F7.keep _ _ (N11 (L' + 4, oS) (by k_mem)).1
      have P7 : PlaneAt w h1 npl wd ht g := ⟨dnp, ra, w1, w2, w3, _, _, F7.keep _ _ (N11 (npl, instObj 84 dnp) (by k_mem)).1, F7.keep _ _ (N11 (dnp, dictOf _ 3) (by k_mem)).1, (G'.keep F11.keep).keep F7.keep⟩
      refine enterL (env := env2) B7 F7 X7 T7 hf2 hk2 (F7.keep _ _ (N11 _ (List.Mem.head _)).1) ((codeRec_news N11 (List.Mem.tail _ (List.Mem.head _)) e3 e4).keeps F7.keep) (by k_dflt ktr_room) err2 rfl (locs rfl) ?_ rfl rfl rfl (by decide)
      intro L3 h3 F7' F8 N8 B8 X8 T8
      clear F11 N11 B7 X7 T7 err2 N7 F7 F7'
      (try dsimp only); (try k_fold)
      k_steps
      unfold Halt
      rename Fr h1 L3 _ _ => F9
      exact ord_spec (news := []) (side := 2) B8 F9 X8 all_nil T8 rfl rfl (by k_dflt ktr_room) (P7.keep F9.keep) hg hgr (fun hb => absurd hbad.1 hb) ho (by decide) hpx hw hh (fun hb => absurd hbad.1 hb) (fun _ x t vs h' tk' R U => RaiseP.on True.intro F9 R U)
    case ret2 =>
      intro h8 tk8 g3 T1 F13 N13 B13
      have X13 : (hd.heap_1 w.params).In g3 := XB.keeps B13.stays
      have T13 : Top p loose mean mg mb g3 := TB.keeps B13.stays
      have D13 := D10.turn T1
      replace G' := GridAt.turn T1 G'
      have TT := T0.trans T1
      clear B10 X10 T10 D10 F11 N11 F10 N10
      k_steps
      unfold Halt
      rename_i f3 cc3 oc3 vs3 tt3 ct3 hG3 tkq3 F12 N12 e5 e6 lf5 lf6
      refine isref_spec B13 F12 X13 N12 T13 rfl rfl XB TB D13 (by k_dflt ktr_room) (FnAt.of N12 (List.Mem.head _)) ?deed3 ?ret3
      case deed3 =>
        intro env2 L2 h1 tk1 m2 Q2 E2 hf2 hk2 F7 N7 B7 X7 T7 err2
        have y1 : h1.get? (L' + 1) = some c1 := F7.keep _ _ (N12 (L' + 1, c1) (by k_mem)).1
        have y2 : h1.get? (L' + 2) = some oL := F7.keep _ _ (N12 (L' + 2, oL) (by k_mem)).1
        have y3 : h1.get? (L' + 3) = some oP := F7.keep _ _ (N12 (L' + 3, oP) (by k_mem)).1
        have y4 : h1.get? (L' + 4) = some oS := F7.keep _ _ (N12 (L' + 4, oS) (by k_mem)).1
        have P7 : PlaneAt w h1 npl wd ht g := ⟨dnp, ra, w1, w2, w3, _, _, F7.keep _ _ (N12 (npl, instObj 84 dnp) (by k_mem)).1, F7.keep _ _ (N12 (dnp, dictOf _ 3) (by k_mem)).1, (G'.keep F12.keep).keep F7.keep⟩
        refine enterL (env := env2) B7 F7 X7 T7 hf2 hk2 (F7.keep _ _ (N12 _ (List.Mem.head _)).1) ((codeRec_news N12 (List.Mem.tail _ (List.Mem.head _)) e5 e6).keeps F7.keep) (by k_dflt ktr_room) err2 rfl (locs rfl) ?_ rfl rfl rfl (by decide)
        intro L3 h3 F7' F8 N8 B8 X8 T8
        clear F12 N12 B7 X7 T7 err2 N7 F7 F7'
        (try dsimp only); (try k_fold)
        k_steps
        unfold Halt
        rename Fr h1 L3 _ _ => F9
        exact ord_spec (news := []) (l := 2) (side := sd) B8 F9 X8 all_nil T8 rfl rfl (by k_dflt ktr_room) (P7.keep F9.keep) hg hgr (fun _ => by decide) ho hsd hpx hw hh (fun _ h => absurd h hnp) (fun _ x t vs h' tk' R U => RaiseP.on True.intro F9 R U)
      case ret3 =>
        intro h9 tk9 g4 T2 F14 N14 B14
        clear F12 N12 F13 N13 B13 X13 T13
        k_steps
        exact LeaveT.intro (TT.trans T2) F14 N14 ⟨rfl, _, by k_mem⟩
end
end
section
theorem lvl_self {i om : Int} (ho : 1 ≤ om) : lvl i (om + 1) om = i := by
  unfold lvl
  rw [Int.add_sub_cancel, Int.fdiv_eq_ediv_of_nonneg _ (by omega), Int.fdiv_eq_ediv_of_nonneg _ (by omega), Int.add_comm (i * om), Int.add_mul_ediv_right _ _ (by omega), Int.ediv_eq_zero_of_lt (by omega) (by omega), Int.zero_add]
theorem nearUp_self {f : Int → Int} {v : Int} (hf : ∀ i : Int, f i = i) : ∀ n : Nat, 0 ≤ v → nearUp f v n = if v ≤ n then v else n := by
  intro n hv
  induction n with
  | zero => rw [nearUp]; split <;> omega
  | succ k ih =>
    rw [nearUp, ih]
    simp only [hf]
    split <;> split <;> split <;> (try split) <;> (try split) <;> omega
noncomputable def Z0 : CSt := (fun _ _ => 0, 0)
theorem giveS_zero {wd ht : Nat} {x y : Int} : giveS wd ht Z0 x y 0 = Z0 := by
  unfold giveS giveC giveLost Z0
  simp
theorem partN_zero : ∀ i, partN 0 i = 0
  | 0 => by simp [partN, pPart]
  | 1 => by simp [partN, pPart]
  | 2 => by simp [partN, pPart]
  | _ + 3 => by simp [partN, pRest, pPart]
theorem gifts_zero {wd ht : Nat} {x y a : Int} : ∀ i, gifts wd ht x y a 0 Z0 i = Z0
  | 0 => rfl
  | i + 1 => by rw [gifts, gifts_zero i, partN_zero, giveS_zero]
noncomputable abbrev seen (wd : Nat) (a : Int) (i k : Nat) : Prop := if a = 1 then k < i else wd ≤ k + i
theorem cell_same {wd ht : Nat} {g : List (List Int)} {om : Int} {f : Int → Int} {x y a : Int} {row : List Int} (hf : ∀ i : Int, f i = i) (hpx : 0 ≤ pxAt g x y ∧ pxAt g x y ≤ om) :
    cellStep wd ht f om.toNat g x y a (Z0, row) = (Z0, row.set x.toNat (pxAt g x y)) := by
  have h : nearUp f (pxAt g x y + 0) om.toNat = pxAt g x y := by
    rw [Int.add_zero, nearUp_self hf _ hpx.1, if_pos (by omega)]
  unfold cellStep
  show (gifts wd ht x y a (pxAt g x y + 0 - f (nearUp f (pxAt g x y + 0) om.toNat)) Z0 4, row.set x.toNat (nearUp f (pxAt g x y + 0) om.toNat)) = _
  rw [h, hf, show pxAt g x y + 0 - pxAt g x y = 0 by omega, gifts_zero]
theorem rowRun_same {wd ht : Nat} {g : List (List Int)} {om : Int} {f : Int → Int} {y a : Int} (hf : ∀ i : Int, f i = i) (hpx : ∀ x y, 0 ≤ pxAt g x y ∧ pxAt g x y ≤ om) :
    ∀ i, i ≤ wd → rowRun wd ht f om.toNat g y a Z0 i = (Z0, (List.range wd).map fun (k : Nat) => if seen wd a i k then pxAt g (k : Int) y else 0)
  | 0, _ => by
    rw [rowRun]
    congr 1
    apply List.ext_getElem
    · simp
    · intro k h1 h2
      have hk : k < wd := by simpa using h1
      have : ¬ seen wd a 0 k := by unfold seen; split <;> omega
      simp [this]
  | i + 1, hi => by
    rw [rowRun, rowRun_same hf hpx i (by omega), cell_same hf (hpx _ _)]
    congr 1
    apply List.ext_getElem
    · simp
    · intro k h1 h2
      have hk : k < wd := by simpa using h1
      rw [List.getElem_set]
      have hx : 0 ≤ xAt wd a i := by unfold xAt; split <;> omega
      by_cases e : (xAt wd a i).toNat = k
      · rw [if_pos e]
        have e2 : xAt wd a i = (k : Int) := by omega
        have h3 : seen wd a (i + 1) k := by unfold seen; unfold xAt at e2; split <;> simp_all <;> omega
        simp [h3, e2]
      · rw [if_neg e]
        have h3 : seen wd a (i + 1) k ↔ seen wd a i k := by
          unfold seen
          unfold xAt at e
          split
          · rename_i ha
            rw [if_pos ha] at e
            omega
          · rename_i ha
            rw [if_neg ha] at e
            omega
        simp [h3]
theorem row_done {wd : Nat} {g : List (List Int)} {y : Nat} {a : Int} {ns : List Int} (hns : g[y]? = some ns) (hl : ns.length = wd) :
    ((List.range wd).map fun (k : Nat) => if seen wd a wd k then pxAt g (k : Int) (y : Int) else 0) = ns := by
  apply List.ext_getElem
  · simp [hl]
  · intro k h1 h2
    have hk : k < wd := by simpa using h1
    have h3 : seen wd a wd k := by unfold seen; split <;> omega
    simp only [List.getElem_map, List.getElem_range, h3, if_true]
    unfold pxAt
    rw [Int.toNat_natCast, Int.toNat_natCast, List.getD_eq_getElem?_getD (l := g), hns, Option.getD_some, List.getD_eq_getElem?_getD, List.getElem?_eq_getElem h2, Option.getD_some]
theorem planeRun_same' {wd ht : Nat} {g : List (List Int)} {om : Int} {f : Int → Int} (hf : ∀ i : Int, f i = i) (hgr : ∀ (j : Nat) ns, g[j]? = some ns → ns.length = wd) (hpx : ∀ x y, 0 ≤ pxAt g x y ∧ pxAt g x y ≤ om) :
    ∀ y, y ≤ g.length → planeRun wd ht f om.toNat g y = (Z0, g.take y)
  | 0, _ => rfl
  | y + 1, hy => by
    have ih := planeRun_same' (ht := ht) hf hgr hpx y (by omega)
    obtain ⟨ns, hns⟩ : ∃ ns, g[y]? = some ns := ⟨g[y]'(by omega), List.getElem?_eq_getElem _⟩
    rw [planeRun, ih]
    dsimp only
    rw [rowRun_same hf hpx wd (Nat.le_refl _), row_done hns (hgr y ns hns), List.take_add_one, hns]
    rfl
theorem planeRun_same {wd ht : Nat} {g : List (List Int)} {om : Int} (hg : g.length = ht) (hgr : ∀ (j : Nat) ns, g[j]? = some ns → ns.length = wd) (hpx : ∀ x y, 0 ≤ pxAt g x y ∧ pxAt g x y ≤ om) (ho : 1 ≤ om) :
    (planeRun wd ht (fun i => lvl i (om + 1) om) (om + 1 - 1).toNat g ht).2 = g ∧ (planeRun wd ht (fun i => lvl i (om + 1) om) (om + 1 - 1).toNat g ht).1.2 = 0 := by
  rw [Int.add_sub_cancel, planeRun_same' (fun i => lvl_self ho) hgr hpx ht (by omega)]
  exact ⟨by rw [← hg, List.take_length], rfl⟩
end
end
local macro_rules | `(tactic| k_inst) => `(tactic| (refine' instBase ?kF ?h1 ?h2; (case kF => k_asm); (case h1 => assumption); (case h2 => assumption)))
local macro_rules | `(tactic| walk_at "subscriptTail") => `(tactic| (k_here; (with_reducible show wpAny _ _ (subscriptTail _ _ (Value.ref _) (Value.int _ _)) _ _ _); k_dflt (refine' refs_sub ?hl ?h0 ?hfit ?ha ?_ ?hs; (case hl => first | exact listNews (by k_asm) (by k_mem) | exact listBase (by k_asm) (by assumption)); (case h0 => omega); (case hfit => omega); (case ha => assumption); (case hs => with_unfolding_all rfl); k_whole)))
local macro_rules | `(tactic| regdictc_post) => `(tactic| (k_here; (with_reducible show wpAny _ _ (call (Value.builtin "len") [Value.ref _]) _ _ _); k_dflt (refine' kun_lenL ?k1 ?k2 ?k3 ?_; (case k1 => first | exact listBase (by k_asm) (by assumption) | exact listNews (by k_asm) (by k_mem)); (case k2 => assumption); (case k3 => omega); k_whole)))
local macro_rules | `(tactic| walk_at "eval Name") => `(tactic| (k_here; (with_reducible show wpAny _ _ (eval (Expr.Name _ _) (compEnvC _ _ _ _)) _ _ _); k_dflt (refine ld_free (by k_asm) (by rfl) (by k_mem) (by assumption) ?_)))
local macro_rules | `(tactic| walk_at "call ref") => `(tactic| refine halt ?_)
local macro_rules | `(tactic| walk_at "exec Assign cons ListComp") => `(tactic| refine halt ?_)
local macro_rules | `(tactic| walk_at "CompSrcT") => `(tactic| refine halt ?_)
section
noncomputable def MostOk (o : Int) : Prop := o = 1 ∨ o = 3 ∨ o = 15 ∨ o = 255
theorem most_of {r : Int} (h0 : 0 ≤ r) (h1 : r < 4) : MostOk (([1, 3, 15, 255] : List Int).getD r.toNat 0) := by
  have : r = 0 ∨ r = 1 ∨ r = 2 ∨ r = 3 := by omega
  rcases this with rfl | rfl | rfl | rfl <;> simp [MostOk]
theorem MostOk.le {o : Int} (h : MostOk o) : 1 ≤ o ∧ o ≤ 255 := by unfold MostOk at h; omega
theorem fr_simple {g h : Heap} {L : Addr} {m : Str → Option Value} (F : Fr g L h m) (x : Str) (hm : ∀ y, y ≠ x → m y = none) : ∃ v, Fr g L h (fun y => if y = x then v else none) :=
  ⟨m x, fr_eq F fun y => by
    by_cases e : y = x
    · rw [if_pos e, e]
    · rw [if_neg e, hm y e]⟩
theorem drop2 {g h : Heap} {L : Addr} {a x : Addr × Obj} {r : List (Addr × Obj)} (N : News g L h (a :: x :: r)) : News g L h (a :: r) := newsSub N (by k_units)
theorem mv1 {g h : Heap} {L : Addr} {a x : Addr × Obj} {r : List (Addr × Obj)} (N : News g L h (a :: x :: r)) : News g L h (x :: a :: r) := newsSub N (by k_units)
noncomputable def stA : { P : Prop // Hold P → PySem.Challenge.rw_pf0235_01.Holds } := ⟨_, fun hSt => hd (by
  k_go0
  rename IntsAre _ _ => hI
  rename (¬ (_ < _)) => hlen63
  rename_i o5 o4 o3 o2 o1 d5 d4 d3 d2 d1 hCells X0 T0 B0 F0 N0 l0
  rename Shared => s1
  (try clear hCells)
  refine wpAny_mono (E := fun _ _ => False) ?_ (fun _ _ q => q) (fun _ _ e => e.elim)
  refine gen_Q fun QQ hQQ => ?_
  generalize hg0 : ghostOf _ _ = g0 at *
  generalize hL0 : s1.heap.objs.size = L at *
  k_steps
  unfold Halt
  rename Fr _ _ _ _ => F1
  refine sieve_spec B0 F1 X0 N0 T0 rfl rfl (by k_dflt ktr_room) (by omega) lifted hI fun h2 tk2 sv a ta b tb n ha hb F2 N2 fr2 => ?_
  have v5 : @Ne Nat (L + 5) sv := fr2 (L + 5, o5) (by first | k_units | simp)
  have v4 : @Ne Nat (L + 4) sv := fr2 (L + 4, o4) (by first | k_units | simp)
  have v3 : @Ne Nat (L + 3) sv := fr2 (L + 3, o3) (by first | k_units | simp)
  have v2 : @Ne Nat (L + 2) sv := fr2 (L + 2, o2) (by first | k_units | simp)
  have v1 : @Ne Nat (L + 1) sv := fr2 (L + 1, o1) (by first | k_units | simp)
  have v0 : @Ne Nat 232 sv := fr2 (232, tabObj #[]) (by first | k_units | simp)
  replace l0 : @LT.lt Nat _ 232 L := l0.1
  have N3 := newsSub N2 (l' := (sv, listOf [.int a ta, .int b tb].toArray n) :: (L + 5, o5) :: (L + 4, o4) :: (L + 3, o3) :: (L + 2, o2) :: (L + 1, o1) :: [(232, tabObj #[])]) (by k_units)
  obtain ⟨vsc, F3⟩ := fr_simple F2 "script" fun y y1 => if_neg y1
  (try clear fr2); (try clear N2); (try clear N0); (try clear lifted); (try clear hI); (try clear F2); (try clear F1)
  k_steps
  unfold Halt
  rename_i hS1 oSv dSv l1l hS2 F4 N4 lS1
  refine sift_spec B0 F4 X0 (mv1 N4) T0 rfl rfl (by k_dflt ktr_room) (fun o' => Upd.head (by k_all)) ha hb (by decide) fun h5 tk5 r1 tr1 a1 ta1 b1 tb1 hr0 hr1 ha1 hb1 F5 N5 => ?_
  have hMO := most_of hr0 hr1
  (try clear F4); (try clear N4)
  k_steps
  unfold Halt
  rename_i tv1 hA oM FA NA dM
  obtain ⟨om, dO, hO⟩ : ∃ om, oM.data = .cell (some (.int om tv1)) ∧ MostOk om := ⟨_, dM, hMO⟩
  have hom := hO.le
  have N6 := drop2 NA
  (try clear dM); (try clear NA); (try clear hMO); (try clear hr0); (try clear hr1); (try clear ha); (try clear hb)
  rename_i z1 z2 z3 z4 z5 z6 z7 z8 z9 z10 z11 z12 z13 z14 z15 z16 z17 z18 z19 z20 z21 z22 z23 z24 z25 z26 z27 z28 z29 z30 z31 z32 z33 z34 z35 z36 z37 z38 z39 z40 z41
  clear z5 z6 z8 z12 z13 hT8 z15 z16 z17 z18 z19 z20 hT9 z22 z23 z24 z25 z26 z27 z28 z30 z31 z32 z33 z34 z35 z36 hlen63 z37 z38 z39 z40 o2 o1 hg0 hL0 d2 d1 h2 tk2 a ta b tb hS1 z41 hS2 h5 tk5 r1 tr1 hO
  revert z1 z2 s1 z3 z4 z7 z9 z10 z11 z14 z21 z29 o5 o4 o3 QQ g0 X0 T0 B0 codeHd hQQ L d5 d4 d3 sv n v5 v4 v3 v2 v1 v0 l0 vsc oSv dSv l1l lS1 a1 ta1 b1 tb1 ha1 hb1 tv1 hA oM FA tk om dO hom N6
  exact hSt.out)⟩
end
section
local macro_rules | `(tactic| walk_at "no such step") => `(tactic| skip)
noncomputable def stB : { P : Prop // Hold P → stA.1 } := ⟨_, fun hSt => by
  intro w s₀ s1 mg mb fa pm cd doc hg w_1 w_4 o5 o4 o3 QQ g0 X0 T0 B0 codeHd hQQ L d5 d4 d3 sv n v5 v4 v3 v2 v1 v0 l0 vsc oSv dSv l1l lS1 a1 ta1 b1 tb1 ha1 hb1 tv1 hA oM FA tk_1 om dO hom N6
  refine sift_spec B0 FA X0 N6 T0 rfl rfl (by k_dflt ktr_room) (fun o' => Upd.head (by k_all)) ha1 hb1 (by decide) fun h5 tk5 r2 tr2 a2 ta2 b2 tb2 hr0 hr1 ha2 hb2 F5 N5 => ?_
  k_steps
  unfold Halt
  rename Fr g0 L _ _ => FB
  rename News g0 L _ _ => NB
  obtain ⟨lv, tlv, hlv, F7⟩ : ∃ lv tlv, (2 ≤ lv ∧ lv ≤ om + 1 ∧ lv ≤ 5) ∧ Fr g0 L _ (fun y => if y = "levels" then some (.int lv tlv) else if y = "script" then vsc else none) := ⟨_, _, by split <;> omega, FB⟩
  (try clear FB); (try clear hr0); (try clear hr1)
  refine sift_spec B0 F7 X0 NB T0 rfl rfl (by k_dflt ktr_room) (fun o' => Upd.head (by k_all)) ha2 hb2 (by decide) fun h6 tk6 r3 tr3 a3 ta3 b3 tb3 hr30 hr31 ha3 hb3 F8 N8 => ?_
  (try clear NB); (try clear F7)
  k_steps
  unfold Halt
  rename Fr g0 L _ _ => FB
  rename News g0 L _ _ => NB
  refine sift_spec B0 FB X0 NB T0 rfl rfl (by k_dflt ktr_room) (fun o' => Upd.head (by k_all)) ha3 hb3 (by decide) fun h7 tk7 r4 tr4 a4 ta4 b4 tb4 hr40 hr41 ha4 hb4 F9 N9 => ?_
  (try clear NB); (try clear FB)
  k_steps
  unfold Halt
  rename_i D1 hQ1 lD1 hQ2 hQ3 oW dW hQ4 FB NB
  obtain ⟨wd, hwd, hwd1⟩ : ∃ wd : Nat, 1 + r3 = (wd : Int) ∧ 1 ≤ wd ∧ wd ≤ 5 := ⟨(1 + r3).toNat, by omega, by omega⟩
  obtain ⟨ht, hht, hht1⟩ : ∃ ht : Nat, 1 + r4 = (ht : Int) ∧ 1 ≤ ht ∧ ht ≤ 4 := ⟨(1 + r4).toNat, by omega, by omega⟩
  rw [hwd] at dW
  rw [hht] at FB
  have N10 := newsSub NB (l' := (sv, listOf [.int a4 ta4, .int b4 tb4].toArray n) :: (L + 5, o5) :: (L + 4, o4) :: (L + 3, oW) :: (L + 2, oM) :: (L + 1, oSv) :: [(232, tabObj #[])]) (fun p hp => .tail _ hp)
  (try clear lD1); (try clear NB); (try clear hr30); (try clear hr31); (try clear hr40); (try clear hr41); (try clear hwd); (try clear hht); (try clear ha2); (try clear hb2); (try clear ha3); (try clear hb3)
  rename_i z1 z2 z3 z4
  clear o3 d3 ta1 tb1 ha1 hb1 hA tk_1 h5 tk5 r2 tr2 a2 ta2 b2 tb2 z1 z2 z3 z4 h6 r3 tr3 a3 ta3 b3 tb3 h7 r4 tr4 D1 hQ1 hQ2 hQ3
  revert w s₀ s1 mg mb fa pm cd doc hg w_1 w_4 o5 o4 QQ g0 X0 T0 B0 codeHd hQQ L d5 d4 sv n v5 v4 v3 v2 v1 v0 l0 vsc oSv dSv l1l lS1 a1 b1 tv1 oM om dO hom lv tlv hlv tk6 tk7 a4 ta4 b4 tb4 ha4 hb4 oW hQ4 tk wd dW hwd1 ht
     FB hht1 N10
  exact hSt.out⟩
end
section
theorem grid_of {rowsL : List (Addr × Obj)} {wd ht : Nat} {om : Int} (hlen : rowsL.length = ht) (hrows : RowsAre (fun _ ns => ns.length = wd ∧ ∀ v ∈ ns, 0 ≤ v ∧ v ≤ om) rowsL) :
    ∃ g : List (List Int), g.length = ht ∧ RowsAre (fun j ns => g[j]? = some ns) rowsL ∧ ∀ (j : Nat) ns, g[j]? = some ns → ns.length = wd ∧ ∀ v ∈ ns, 0 ≤ v ∧ v ≤ om := by
  obtain ⟨ff, hff⟩ := rows_choose hrows
  refine ⟨(List.range ht).map ff, by simp, fun j p hj => ?_, fun j ns e => ?_⟩
  · obtain ⟨vs, k, e1, e2, e3⟩ := hff j p hj
    have hjl : j < ht := by
      have := (List.getElem?_eq_some_iff.mp hj).1
      omega
    exact ⟨vs, k, ff j, e1, e2, by simp [hjl]⟩
  · have hjl : j < ht := by
      have := (List.getElem?_eq_some_iff.mp e).1
      simpa using this
    obtain ⟨p, hp⟩ : ∃ p, rowsL[j]? = some p := ⟨rowsL[j]'(by omega), List.getElem?_eq_getElem _⟩
    obtain ⟨vs, k, e1, e2, e3⟩ := hff j p hp
    have : ns = ff j := by
      rw [List.getElem?_map, List.getElem?_range hjl] at e
      exact (Option.some.inj e).symm
    rw [this]; exact e3
theorem px_bound {g : List (List Int)} {om : Int} (h0 : 0 ≤ om) (h : ∀ (j : Nat) ns, g[j]? = some ns → ∀ v ∈ ns, 0 ≤ v ∧ v ≤ om) : ∀ x y, 0 ≤ pxAt g x y ∧ pxAt g x y ≤ om := by
  intro x y
  unfold pxAt
  rw [List.getD_eq_getElem?_getD (l := g)]
  cases e : g[y.toNat]? with
  | none => simp; omega
  | some ns =>
    simp only [Option.getD_some]
    rw [List.getD_eq_getElem?_getD]
    cases e2 : ns[x.toNat]? with
    | none => simp; omega
    | some v => exact h _ ns e v (List.mem_of_getElem? e2)
theorem mv3 {g h : Heap} {L : Addr} {a b c x : Addr × Obj} {r : List (Addr × Obj)} (N : News g L h (a :: b :: c :: x :: r)) : News g L h (x :: a :: b :: c :: r) := newsSub N (by k_units)
noncomputable def coreA (sv L : Addr) : List Addr := [sv, L + 5, L + 4, L + 3, L + 2, L + 1, 232]
theorem core_all {P : Addr → Prop} {sv L : Addr} (h1 : P sv) (h2 : P (L + 5)) (h3 : P (L + 4)) (h4 : P (L + 3)) (h5 : P (L + 2)) (h6 : P (L + 1)) (h7 : P 232) : ∀ q ∈ coreA sv L, P q := all_cons h1 (all_cons h2 (all_cons h3 (all_cons h4 (all_cons h5 (all_cons h6 (all_cons h7 all_nil))))))
noncomputable def stC : { P : Prop // Hold P → stB.1 } := ⟨_, fun hSt => by
  intro w s₀ s1 mg mb fa pm cd doc hg w_1 w_4 o5 o4 QQ g0 X0 T0 B0 codeHd hQQ L d5 d4 sv n v5 v4 v3 v2 v1 v0 l0 vsc oSv dSv l1l lS1 a1 b1 tv1 oM om dO hom lv tlv hlv tk6 tk7 a4 ta4 b4 tb4 ha4 hb4 oW hQ4 tk_4 wd dW hwd1 ht
     FB hht1 N10
  refine LCg.Assign_ListComp_U (cl := [("wide", L + 3), ("sieve", L + 1), ("most", L + 2)]) (F₀ := FB) (by rfl) (by with_unfolding_all rfl) (by rfl) (by decide) (by rfl) (by decide) (by rfl) (by rfl) (by rfl) ?_
  k_steps
  unfold Halt
  rename IsRange _ _ _ _ _ _ _ _ => R1
  rename Fr g0 L _ _ => F11
  rename News g0 L _ _ => N11
  refine LCg.CompSrc.range (by rfl) F11 N11 R1 (small_one (by omega) (by omega) (by omega) (by omega)) (n := ht) (by rw [rangeSize_nat]; (try congr 1); (try omega)) (by rw [sizeLine_eq]; omega) ?_
  intro gg
  refine compRest_of (n := ht) (fun i ys nw => ∃ a ta b tb rowsL, 0 ≤ a ∧ (0 ≤ b ∧ b < 65353) ∧ rowsL.length = i ∧ ys = (rowsL.map (·.1)).map Value.ref ∧ RowsAre (fun _ ns => ns.length = wd ∧ ∀ v ∈ ns, 0 ≤ v ∧ v ≤ om) rowsL ∧ (∀ p ∈ rowsL, p.1 ∉ coreA sv L) ∧
    nw = (sv, listOf [.int a ta, .int b tb].toArray n) :: (L + 5, o5) :: (L + 4, o4) :: (L + 3, oW) :: (L + 2, oM) :: (L + 1, oSv) :: (232, tabObj #[]) :: rowsL) ?step ?fin ht 0 [] _ (Nat.zero_add _) ⟨a4, ta4, b4, tb4, [], ha4, hb4, rfl, rfl, (fun _ _ h => by simp at h), all_nil, rfl⟩
  case step =>
    intro i ys nw v I oI C oC D m₂ h tk E' hi hJ hP hC hx F3 N3 off ne
    obtain ⟨a5, ta5, b5, tb5, rowsL, ha5, hb5, hlen, rfl, hrows, hoff, rfl⟩ := hJ
    have N12 := newsSub N3 (l' := (L + 3, oW) :: (sv, listOf [.int a5 ta5, .int b5 tb5].toArray n) :: (I, oI) :: (C, oC) :: (D, LCg.lst ((rowsL.map (·.1)).map Value.ref)) :: (L + 5, o5) :: (L + 4, o4) :: (L + 3, oW) :: (L + 2, oM) :: (L + 1, oSv) :: (232, tabObj #[]) :: rowsL) (by k_units)
    (try clear N11); (try clear F11); (try clear R1)
    (try k_fold)
    k_steps
    unfold Halt
    refine LCg.ListComp_U (cl := [("sieve", L + 1), ("most", L + 2)]) (F₀ := F3) (by rfl) (by decide) (by rfl) (by decide) (by rfl) ?_
    k_steps
    unfold Halt
    rename IsRange _ _ _ _ _ _ _ _ => R2
    rename Fr g0 L _ _ => F13
    rename News g0 L _ _ => N13
    have N14 := newsSub N13 (l' := (sv, listOf [.int a5 ta5, .int b5 tb5].toArray n) :: (I, oI) :: (C, oC) :: (D, LCg.lst ((rowsL.map (·.1)).map Value.ref)) :: (L + 5, o5) :: (L + 4, o4) :: (L + 3, oW) :: (L + 2, oM) :: (L + 1, oSv) :: (232, tabObj #[]) :: rowsL) (by k_units)
    have offm := off.mem
    have hrest : ∀ p ∈ (I, oI) :: (C, oC) :: (D, LCg.lst ((rowsL.map (·.1)).map Value.ref)) :: (L + 5, o5) :: (L + 4, o4) :: (L + 3, oW) :: (L + 2, oM) :: (L + 1, oSv) :: (232, tabObj #[]) :: rowsL, p.1 ≠ sv := fun p hp => by
      have oS := offm _ List.mem_cons_self
      rcases List.mem_cons.mp hp with rfl | hp
      · exact Ne.symm oS.1
      rcases List.mem_cons.mp hp with rfl | hp
      · exact Ne.symm oS.2.1
      rcases List.mem_cons.mp hp with rfl | hp
      · exact Ne.symm oS.2.2
      rcases List.mem_cons.mp hp with rfl | hp
      · exact v5
      rcases List.mem_cons.mp hp with rfl | hp
      · exact v4
      rcases List.mem_cons.mp hp with rfl | hp
      · exact v3
      rcases List.mem_cons.mp hp with rfl | hp
      · exact v2
      rcases List.mem_cons.mp hp with rfl | hp
      · exact v1
      rcases List.mem_cons.mp hp with rfl | hp
      · exact v0
      · exact fun q => hoff p hp (by rw [q]; exact List.mem_cons_self)
    refine LCg.CompSrc.range (by rfl) F13 N14 R2 (small_one (by omega) (by omega) (by omega) (by omega)) (n := wd) (by rw [rangeSize_nat]; (try congr 1); (try omega)) (by rw [sizeLine_eq]; omega) ?_
    intro gg2
    refine compRest_of (n := wd) (fun i2 ys2 nw2 => ∃ a ta b tb ns, 0 ≤ a ∧ (0 ≤ b ∧ b < 65353) ∧ IntsAre ys2 ns ∧ ns.length = i2 ∧ (∀ v ∈ ns, 0 ≤ v ∧ v ≤ om) ∧ nw2 = (sv, listOf [.int a ta, .int b tb].toArray n) :: (I, oI) :: (C, oC) :: (D, LCg.lst ((rowsL.map (·.1)).map Value.ref)) :: (L + 5, o5) :: (L + 4, o4) :: (L + 3, oW) :: (L + 2, oM) :: (L + 1, oSv) :: (232, tabObj #[]) :: rowsL) ?step2 ?fin2 wd 0 [] _ (Nat.zero_add _)
      ⟨a5, ta5, b5, tb5, [], ha5, hb5, IntsAre.nil, rfl, all_nil, rfl⟩
    case step2 =>
      intro i2 ys2 nw2 v2' I2 oI2 C2 oC2 D2 m2' h3 tk3 E2 hi2 hJ2 hP2 hC2 hx2 F14 N15 off2 ne2
      obtain ⟨a6, ta6, b6, tb6, ns, ha6, hb6, hIy, hnl, hnb, rfl⟩ := hJ2
      have off2m := off2.mem
      have oS2 := off2m _ List.mem_cons_self
      (try clear N13); (try clear F13); (try clear R2); (try clear N14)
      (try k_fold)
      k_steps
      unfold Halt
      rename Fr g0 L _ _ => F15
      rename News g0 L _ _ => N16
      refine sift_spec B0 F15 X0 (mv3 N16) T0 rfl rfl (by k_dflt ktr_room) (fun o' => Upd.head ?_) ha6 hb6 (by omega) fun h5 tk5 r5 tr5 a7 ta7 b7 tb7 hr50 hr51 ha7 hb7 F16 N17 => ?_
      · intro p hp
        rcases List.mem_cons.mp hp with rfl | hp
        · exact Ne.symm oS2.1
        rcases List.mem_cons.mp hp with rfl | hp
        · exact Ne.symm oS2.2.1
        rcases List.mem_cons.mp hp with rfl | hp
        · exact Ne.symm oS2.2.2
        · exact hrest p hp
      refine LCg.CompEnd.intro F16 N17 ((sv, listOf [.int a7 ta7, .int b7 tb7].toArray n) :: (I, oI) :: (C, oC) :: (D, LCg.lst ((rowsL.map (·.1)).map Value.ref)) :: (L + 5, o5) :: (L + 4, o4) :: (L + 3, oW) :: (L + 2, oM) :: (L + 1, oSv) :: (232, tabObj #[]) :: rowsL) (fun p hp => ?_) (LCg.Off3.of fun p hp => ?_) True.intro ⟨a7, ta7, b7, tb7, ns ++ [r5], ha7, hb7, ints_snoc hIy rfl, by simp [hnl], fun v hv => ?_, rfl⟩
      · revert p; k_units
      · rcases List.mem_cons.mp hp with rfl | hp
        · exact oS2
        · exact off2m p (List.mem_cons_of_mem _ hp)
      · rcases List.mem_append.mp hv with hv | hv
        · exact hnb v hv
        · rw [List.mem_singleton.mp hv]; exact ⟨hr50, by omega⟩
    case fin2 =>
      intro ys2 nw2 hJ2
      obtain ⟨a6, ta6, b6, tb6, ns, ha6, hb6, hIy, hnl, hnb, rfl⟩ := hJ2
      intro DD h4 tk4 F16 N17 of
      replace of := off1_mem of
      have oSD := of _ List.mem_cons_self
      refine LCg.CompEnd.intro F16 N17 ((sv, listOf [.int a6 ta6, .int b6 tb6].toArray n) :: (L + 5, o5) :: (L + 4, o4) :: (L + 3, oW) :: (L + 2, oM) :: (L + 1, oSv) :: (232, tabObj #[]) :: (rowsL ++ [(DD, LCg.lst ys2)])) (fun p hp => ?_) (LCg.Off3.of fun p hp => ?_) True.intro ⟨a6, ta6, b6, tb6, rowsL ++ [(DD, LCg.lst ys2)], ha6, hb6, by simp [hlen], by simp, hrows.snoc hIy ⟨hnl, hnb⟩, fun p hp => ?_, rfl⟩
      · revert p; k_units
      · rcases List.mem_cons.mp hp with rfl | hp
        · exact offm (sv, listOf [.int a5 ta5, .int b5 tb5].toArray n) List.mem_cons_self
        rcases List.mem_append.mp (show p ∈ ((L + 5, o5) :: (L + 4, o4) :: (L + 3, oW) :: (L + 2, oM) :: (L + 1, oSv) :: (232, tabObj #[]) :: rowsL) ++ [(DD, LCg.lst ys2)] from by simpa using hp) with hp | hp
        · exact offm p (List.mem_cons_of_mem _ hp)
        · rw [List.mem_singleton.mp hp]
          exact ⟨Ne.symm (of (I, oI) (by first | k_units | simp)), Ne.symm (of (C, oC) (by first | k_units | simp)), Ne.symm (of (D, _) (List.mem_cons_of_mem _ (List.mem_cons_of_mem _ (List.mem_cons_of_mem _ List.mem_cons_self))))⟩
      · rcases List.mem_append.mp hp with hp | hp
        · exact hoff p hp
        · rw [List.mem_singleton.mp hp]
          intro hm
          simp only [coreA, List.mem_cons, List.not_mem_nil, or_false] at hm
          rcases hm with q | q | q | q | q | q | q
          · exact oSD q.symm
          · exact of (L + 5, o5) (by first | k_units | simp) q.symm
          · exact of (L + 4, o4) (by first | k_units | simp) q.symm
          · exact of (L + 3, oW) (by first | k_units | simp) q.symm
          · exact of (L + 2, oM) (by first | k_units | simp) q.symm
          · exact of (L + 1, oSv) (by first | k_units | simp) q.symm
          · exact of (232, tabObj #[]) (by first | k_units | simp) q.symm
  case fin =>
    intro ys nw hJ
    obtain ⟨a5, ta5, b5, tb5, rowsL, ha5, hb5, hlen, rfl, hrows, hoff, rfl⟩ := hJ
    intro rA hCz tkCz F3 N3 o1
    replace o1 := off1_mem o1
    obtain ⟨g, hgl, hrg, hgr0⟩ := grid_of hlen hrows
    have hgr : ∀ (j : Nat) ns, g[j]? = some ns → ns.length = wd := fun j ns e => (hgr0 j ns e).1
    have hpx : ∀ x y, 0 ≤ pxAt g x y ∧ pxAt g x y ≤ om := px_bound (by omega) fun j ns e => (hgr0 j ns e).2
    have hraO : ∀ q ∈ coreA sv L, @Ne Nat rA q := by
      exact core_all (Ne.symm (o1 _ List.mem_cons_self)) (Ne.symm (o1 (L + 5, o5) (by first | k_units | simp))) (Ne.symm (o1 (L + 4, o4) (by first | k_units | simp))) (Ne.symm (o1 (L + 3, oW) (by first | k_units | simp))) (Ne.symm (o1 (L + 2, oM) (by first | k_units | simp))) (Ne.symm (o1 (L + 1, oSv) (by first | k_units | simp))) (Ne.symm (o1 (232, tabObj #[]) (by first | k_units | simp)))
    have hraR : ∀ p ∈ rowsL, p.1 ≠ rA := fun p hp => o1 p (by k_units)
    have F3 := fr_eq (m' := fun y => if y = "rows" then some (Value.ref rA) else if y = "high" then some (.int ht tk7) else if y = "levels" then some (.int lv tlv) else if y = "script" then vsc else none) F3 fun _ => rfl
    (try clear o1); (try clear hrows); (try clear hgr0)
    k_steps
    unfold Halt
    rename Fr g0 L _ _ => FD
    rename News g0 L _ _ => ND
    rename_i z1 z2 z3 z4 z5 z6 z7 z8
    clear ha4 hb4 tk_4 dW z1 z4 z5 z6 z7 R1 F11 z8 gg
    revert w s₀ s1 mg mb fa pm cd doc hg w_1 w_4 o5 o4 QQ g0 X0 T0 B0 codeHd hQQ L d5 d4 sv n v5 v4 v3 v2 v1 v0 l0 vsc oSv dSv l1l lS1 a1 b1 tv1 oM om dO hom lv tlv hlv tk6 tk7 a4 ta4 b4 tb4 oW hQ4 wd hwd1 ht hht1 z2 z3
       N11 a5 ta5 b5 tb5 rowsL ha5 hb5 hlen hoff rA hCz tkCz F3 ND g hgl hrg hgr hpx hraO hraR FD
    exact hSt.out⟩
end
section
noncomputable def PlaneN (w : World) (g0 : Heap) (L : Addr) (R : List (Addr × Obj)) (pl : Addr) (wd ht : Nat) (g : List (List Int)) : Prop := ∀ h, News g0 L h R → PlaneAt w h pl wd ht g
noncomputable def GridN (g0 : Heap) (L : Addr) (R : List (Addr × Obj)) (ra : Addr) (g : List (List Int)) : Prop := ∀ h, News g0 L h R → GridAt h ra g
noncomputable def ListN (g0 : Heap) (L : Addr) (R : List (Addr × Obj)) (va : Addr) (vs : List Value) : Prop := ∀ h, News g0 L h R → h.IsList va vs.toArray
theorem PlaneN.mono {w : World} {g0 : Heap} {L : Addr} {R R' : List (Addr × Obj)} {pl : Addr} {wd ht : Nat} {g : List (List Int)} (P : PlaneN w g0 L R pl wd ht g) (s : ∀ p ∈ R, p ∈ R') : PlaneN w g0 L R' pl wd ht g := fun h N => P h (newsSub N s)
theorem GridN.mono {g0 : Heap} {L : Addr} {R R' : List (Addr × Obj)} {ra : Addr} {g : List (List Int)} (P : GridN g0 L R ra g) (s : ∀ p ∈ R, p ∈ R') : GridN g0 L R' ra g := fun h N => P h (newsSub N s)
theorem ListN.mono {g0 : Heap} {L : Addr} {R R' : List (Addr × Obj)} {va : Addr} {vs : List Value} (P : ListN g0 L R va vs) (s : ∀ p ∈ R, p ∈ R') : ListN g0 L R' va vs := fun h N => P h (newsSub N s)
theorem grid_news {g0 h : Heap} {L rl : Addr} {n : Nat} {g : List (List Int)} {rowsL all : List (Addr × Obj)} (hlen : rowsL.length = g.length) (hrows : RowsAre (fun j ns => g[j]? = some ns) rowsL) (N : News g0 L h all) (m1 : (rl, listOf ((rowsL.map (·.1)).map Value.ref).toArray n) ∈ all) (m2 : ∀ p ∈ rowsL, p ∈ all) : GridAt h rl g := by
  refine ⟨rowsL.map (·.1), listNews N m1, by simpa using hlen, fun y a ns ha hns => ?_⟩
  rw [List.getElem?_map] at ha
  cases hp : rowsL[y]? with
  | none => rw [hp] at ha; cases ha
  | some p =>
    rw [hp] at ha
    obtain rfl : p.1 = a := Option.some.inj ha
    obtain ⟨vs, k, ns', z1, z2, z3⟩ := hrows y p hp
    obtain rfl : ns' = ns := Option.some.inj (z3.symm.trans hns)
    exact ⟨vs, listNews N (n := k) (z1 ▸ m2 p (List.mem_of_getElem? hp)), z2⟩
local macro_rules | `(tactic| walk_at "no such step") => `(tactic| skip)
noncomputable def stD : { P : Prop // Hold P → stC.1 } := ⟨_, fun hSt => by
  intro w s₀ s1 mg mb fa pm cd doc hg w_1 w_4 o5 o4 QQ g0 X0 T0 B0 codeHd hQQ L d5 d4 sv n v5 v4 v3 v2 v1 v0 l0 vsc oSv dSv l1l lS1 a1 b1 tv1 oM om dO hom lv tlv hlv tk6 tk7 a4 ta4 b4 tb4 oW hQ4 wd hwd1 ht hht1 N' h'_2
     N11 a5 ta5 b5 tb5 rowsL ha5 hb5 hlen hoff rA hCz tkCz F3 ND g hgl hrg hgr hpx hraO hraR FD
  refine LCg.ListComp_U (cl := []) (F₀ := FD) (by rfl) (by decide) (by rfl) (by decide) (by rfl) ?_
  k_steps
  unfold Halt
  rename Fr g0 L _ _ => F20
  rename News g0 L _ _ => N20
  refine LCg.CompSrc.ledger (its := ((rowsL.map (·.1)).map Value.ref).toArray) rfl F20 N20 List.mem_cons_self (by rw [sizeLine_eq]; simp [hlen]; omega) ?_
  intro gg
  refine compRest_of (n := ((rowsL.map (·.1)).map Value.ref).toArray.size) (fun i ys nw => ∃ cps : List (Addr × Obj), cps.length = i ∧ ys = (cps.map (·.1)).map Value.ref ∧ RowsAre (fun j ns => g[j]? = some ns) cps ∧ (∀ p ∈ cps, p.1 ∉ rA :: coreA sv L) ∧ nw = (rA, LCg.lst ((rowsL.map (·.1)).map Value.ref)) :: (sv, listOf [.int a5 ta5, .int b5 tb5].toArray n) :: (L + 5, o5) :: (L + 4, o4) :: (L + 3, oW) :: (L + 2, oM) :: (L + 1, oSv) :: (232, tabObj #[]) :: (rowsL ++ cps)) ?step ?fin _ 0 [] _ (Nat.zero_add _)
    ⟨[], rfl, rfl, (fun _ _ h => by simp at h), all_nil, by rw [List.append_nil]⟩
  case step =>
    intro i ys nw v I oI C oC D m₂ h tk E' hi hJ hP hC hx F21 N21 off ne
    obtain ⟨cps, hcl, rfl, hcr, hco, rfl⟩ := hJ
    obtain ⟨⟨pa, po⟩, hpa, rfl⟩ : ∃ p, rowsL[i]? = some p ∧ v = .ref p.1 := by
      simp only [List.getElem?_toArray, List.getElem?_map, Option.map_map, Option.map_eq_some_iff] at hP
      obtain ⟨p, e1, e2⟩ := hP
      exact ⟨p, e1, e2.symm⟩
    obtain ⟨vs, k, ns, heq, hIn, hgi⟩ := hrg i _ hpa
    dsimp only at heq
    subst heq
    have hmp : (pa, listOf vs.toArray k) ∈ rowsL := List.mem_of_getElem? hpa
    have hnl := hgr i ns hgi
    have hvl := hIn.length
    have N22 := newsSub N21 (l' := (pa, listOf vs.toArray k) :: (I, oI) :: (C, oC) :: (D, LCg.lst ((cps.map (·.1)).map Value.ref)) :: (rA, LCg.lst ((rowsL.map (·.1)).map Value.ref)) :: (sv, listOf [.int a5 ta5, .int b5 tb5].toArray n) :: (L + 5, o5) :: (L + 4, o4) :: (L + 3, oW) :: (L + 2, oM) :: (L + 1, oSv) :: (232, tabObj #[]) :: (rowsL ++ cps)) fun p hp => by
      rcases List.mem_cons.mp hp with rfl | hp
      · simp [hmp]
      · exact hp
    (try clear N21); (try clear N20); (try clear F20)
    (try k_fold)
    k_steps
    rename_i Dn cn hn Fn Nn ln
    have ln' := ln
    obtain ⟨e1, e2, e3, e4, e5, e6, e7, e8, e9, e10, e11, e12, e13⟩ := ln
    refine LCg.CompEnd.intro Fn Nn ((rA, LCg.lst ((rowsL.map (·.1)).map Value.ref)) :: (sv, listOf [.int a5 ta5, .int b5 tb5].toArray n) :: (L + 5, o5) :: (L + 4, o4) :: (L + 3, oW) :: (L + 2, oM) :: (L + 1, oSv) :: (232, tabObj #[]) :: (rowsL ++ (cps ++ [(Dn, listOf vs.toArray cn)]))) (fun p hp => ?_) (LCg.Off3.of fun p hp => ?_) (.inr ⟨LCg.lst ((rowsL.map (·.1)).map Value.ref), List.mem_cons_self, rfl, _, rfl⟩)
      ⟨cps ++ [(Dn, listOf vs.toArray cn)], by simp [hcl], by simp, hcr.snoc hIn (hcl ▸ hgi), fun p hp => ?_, rfl⟩
    · revert p; k_units
    · rcases List.mem_append.mp (show p ∈ ((rA, LCg.lst ((rowsL.map (·.1)).map Value.ref)) :: (sv, listOf [.int a5 ta5, .int b5 tb5].toArray n) :: (L + 5, o5) :: (L + 4, o4) :: (L + 3, oW) :: (L + 2, oM) :: (L + 1, oSv) :: (232, tabObj #[]) :: (rowsL ++ cps)) ++ [(Dn, listOf vs.toArray cn)] from by simpa using hp) with hp | hp
      · exact off.mem p hp
      · rw [List.mem_singleton.mp hp]
        exact ⟨Nat.ne_of_gt e2, Nat.ne_of_gt e3, Nat.ne_of_gt e4⟩
    · rcases List.mem_append.mp hp with hp | hp
      · exact hco p hp
      · rw [List.mem_singleton.mp hp]
        intro hm
        simp only [coreA, List.mem_cons, List.not_mem_nil, or_false] at hm
        rcases hm with q | q | q | q | q | q | q | q <;> (replace q : @Eq Nat Dn _ := q; omega)
  case fin =>
    intro ys nw hJ
    obtain ⟨cps, hcl, rfl, hcr, hco, rfl⟩ := hJ
    intro rB hDz tkDz F22 N22 o1
    replace o1 := off1_mem o1
    have hrB : ∀ q ∈ rA :: coreA sv L, @Ne Nat rB q := by
      exact all_cons (Ne.symm (o1 _ List.mem_cons_self)) (core_all (Ne.symm (o1 _ (List.mem_cons_of_mem _ List.mem_cons_self))) (Ne.symm (o1 (L + 5, o5) (by first | k_units | simp))) (Ne.symm (o1 (L + 4, o4) (by first | k_units | simp))) (Ne.symm (o1 (L + 3, oW) (by first | k_units | simp))) (Ne.symm (o1 (L + 2, oM) (by first | k_units | simp))) (Ne.symm (o1 (L + 1, oSv) (by first | k_units | simp))) (Ne.symm (o1 (232, tabObj #[]) (by first | k_units | simp))))
    (try clear o1)
    k_steps
    unfold Halt
    rename Fr g0 L _ _ => F23
    rename News g0 L _ _ => N23
    refine plane_spec B0 F23 X0 N23 T0 rfl rfl (by k_dflt ktr_room) (by intro x e; cases e) (by intro x e; cases e) fun h84 tk84 npl dnp w1 w2 w3 F84 N84 la84 lb84 => ?_
    have zP : ∀ q ∈ coreA sv L, @LT.lt Nat _ q dnp := by
      exact core_all (la84 _ (List.mem_cons_of_mem _ (List.mem_cons_of_mem _ List.mem_cons_self))) (la84 (L + 5, o5) (by first | k_units | simp)) (la84 (L + 4, o4) (by first | k_units | simp)) (la84 (L + 3, oW) (by first | k_units | simp)) (la84 (L + 2, oM) (by first | k_units | simp)) (la84 (L + 1, oSv) (by first | k_units | simp)) (la84 (232, tabObj #[]) (by first | k_units | simp))
    (try clear F23); (try clear N23); (try clear la84)
    k_steps
    unfold Halt
    rename Fr g0 L _ _ => F24
    rename News g0 L _ _ => N24
    refine values_spec B0 F24 X0 N24 T0 rfl rfl (by k_dflt ktr_room) (by omega) (by omega) fun h85 tk85 va vsV F25 N25 ov hVI => ?_
    have zV : ∀ q ∈ coreA sv L, @Ne Nat q va := by
      exact core_all (ov (_, listOf [.int a5 ta5, .int b5 tb5].toArray n) (by first | k_units | simp)) (ov (L + 5, o5) (by first | k_units | simp)) (ov (L + 4, o4) (by first | k_units | simp)) (ov (L + 3, oW) (by first | k_units | simp)) (ov (L + 2, oM) (by first | k_units | simp)) (ov (L + 1, oSv) (by first | k_units | simp)) (ov (232, tabObj #[]) (by first | k_units | simp))
    (try clear F24); (try clear N24); (try clear ov)
    have hcl2 : cps.length = ht := by simpa [hlen] using hcl
    have N26 := newsSub N25 (l' := (sv, listOf [.int a5 ta5, .int b5 tb5].toArray n) :: (L + 5, o5) :: (L + 4, o4) :: (L + 3, oW) :: (L + 2, oM) :: (L + 1, oSv) :: (232, tabObj #[]) :: ((va, LCg.lst vsV) :: (npl, instObj 84 dnp) :: (dnp, dictOf [⟨PyData.keyHash w.params "width", .str "width" w1, .int wd tk6⟩, ⟨PyData.keyHash w.params "height", .str "height" w2, .int ht tk7⟩, ⟨PyData.keyHash w.params "rows", .str "rows" w3, .ref rB⟩] 3) :: (rB, LCg.lst ((cps.map (·.1)).map Value.ref)) :: (rA, LCg.lst ((rowsL.map (·.1)).map Value.ref)) :: (rowsL ++ cps))) (by k_units)
    obtain ⟨R, PN, GN, VN, hR, N27⟩ : ∃ R, PlaneN w g0 L R npl wd ht g ∧ GridN g0 L R rA g ∧ ListN g0 L R va vsV ∧ (∀ p ∈ R, p.1 ∉ coreA sv L) ∧ News g0 L h85 ((sv, listOf [.int a5 ta5, .int b5 tb5].toArray n) :: (L + 5, o5) :: (L + 4, o4) :: (L + 3, oW) :: (L + 2, oM) :: (L + 1, oSv) :: (232, tabObj #[]) :: R) := by
      refine ⟨(va, LCg.lst vsV) :: (npl, instObj 84 dnp) :: (dnp, dictOf [⟨PyData.keyHash w.params "width", .str "width" w1, .int wd tk6⟩, ⟨PyData.keyHash w.params "height", .str "height" w2, .int ht tk7⟩, ⟨PyData.keyHash w.params "rows", .str "rows" w3, .ref rB⟩] 3) :: (rB, LCg.lst ((cps.map (·.1)).map Value.ref)) :: (rA, LCg.lst ((rowsL.map (·.1)).map Value.ref)) :: (rowsL ++ cps), fun h N => ?_, fun h N => ?_, fun h N => ?_, fun p hp hm => ?_, N26⟩
      · exact ⟨dnp, rB, w1, w2, w3, tk6, tk7, (N _ (.tail _ (.head _))).1, (N _ (.tail _ (.tail _ (.head _)))).1, grid_news (by rw [hcl2, hgl]) hcr N (.tail _ (.tail _ (.tail _ (.head _)))) (by k_units)⟩
      · exact grid_news (by rw [hlen, hgl]) hrg N (.tail _ (.tail _ (.tail _ (.tail _ (.head _))))) (by k_units)
      · exact listNews N (.head _)
      · rcases List.mem_cons.mp hp with rfl | hp
        · exact zV _ hm rfl
        rcases List.mem_cons.mp hp with rfl | hp
        · exact Nat.ne_of_lt (Nat.lt_trans (zP _ hm) lb84) rfl
        rcases List.mem_cons.mp hp with rfl | hp
        · exact Nat.ne_of_lt (zP _ hm) rfl
        rcases List.mem_cons.mp hp with rfl | hp
        · exact hrB _ (List.mem_cons_of_mem _ hm) rfl
        rcases List.mem_cons.mp hp with rfl | hp
        · exact hraO _ hm rfl
        rcases List.mem_append.mp hp with hp | hp
        · exact hoff p hp hm
        · exact hco p hp (List.mem_cons_of_mem _ hm)
    (try clear N25); (try clear N26); (try clear zV); (try clear zP); (try clear hrB); (try clear hraO); (try clear hraR); (try clear hoff); (try clear hco); (try clear hcr); (try clear hrg); (try clear lb84); (try clear hcl)
    k_steps
    unfold Halt
    rename Fr g0 L _ _ => F28
    rename News g0 L _ _ => N28
    rename_i z1 z2 z3 z4 z5 z6
    clear tk6 ta4 tb4 hQ4 h'_2 hCz tkCz gg rB hDz tkDz h84 tk84 dnp w1 w2 w3 h85 tk85 z2 z4 z5
    revert w s₀ s1 mg mb fa pm cd doc hg w_1 w_4 o5 o4 QQ g0 X0 T0 B0 codeHd hQQ L d5 d4 sv n v5 v4 v3 v2 v1 v0 l0 vsc oSv dSv l1l lS1 a1 b1 tv1 oM om dO hom lv tlv hlv tk7 a4 b4 oW wd hwd1 ht hht1 a5 ta5 b5 tb5 rowsL ha5
       hb5 hlen rA g hgl hgr hpx cps npl va vsV hVI hcl2 R PN GN VN hR z1 z3 z6 F28 N28 tk
    exact hSt.out⟩
end
section
theorem core_off {sv L : Addr} {led CORE : List (Addr × Obj)} (hc : ∀ a ∈ coreA sv L, ∃ o, (a, o) ∈ CORE) (h : ∀ p ∈ CORE, ∀ q ∈ led, q.1 ≠ p.1) : ∀ q ∈ led, q.1 ∉ coreA sv L := fun q hq hm => let ⟨o, ho⟩ := hc _ hm; h _ ho q hq rfl
theorem planeRun_rows {wd ht : Nat} {f : Int → Int} {n : Nat} {g : List (List Int)} : ∀ y (j : Nat) ns, (planeRun wd ht f n g y).2[j]? = some ns → ns.length = wd
  | 0, j, ns, h => by simp [planeRun] at h
  | y + 1, j, ns, h => by
    rw [show (planeRun wd ht f n g (y + 1)).2 = (planeRun wd ht f n g y).2 ++ [(rowRun wd ht f n g y (if (y : Int) % 2 = 0 then 1 else -1) (planeRun wd ht f n g y).1 wd).2] from rfl] at h
    rcases Nat.lt_or_ge j (planeRun wd ht f n g y).2.length with h1 | h1
    · rw [List.getElem?_append_left h1] at h
      exact planeRun_rows y j ns h
    · rw [List.getElem?_append_right h1] at h
      rcases Nat.eq_zero_or_pos (j - (planeRun wd ht f n g y).2.length) with e | e
      · rw [e] at h
        obtain rfl := Option.some.inj h
        exact rowRun_len wd
      · rw [List.getElem?_eq_none (by simp only [List.length_singleton]; omega)] at h
        cases h
noncomputable def stE : { P : Prop // Hold P → stD.1 } := ⟨_, fun hSt => by
  intro w s₀ s1 mg mb fa pm cd doc hg w_1 w_4 o5 o4 QQ g0 X0 T0 B0 codeHd hQQ L d5 d4 sv n v5 v4 v3 v2 v1 v0 l0 vsc oSv dSv l1l lS1 a1 b1 tv1 oM om dO hom lv tlv hlv tk7 a4 b4 oW wd hwd1 ht hht1 a5 ta5 b5 tb5 rowsL ha5
     hb5 hlen rA g hgl hgr hpx cps npl va vsV hVI hcl2 R PN GN VN hR D' l1 h'_6 F28 N28 tk_6
  have h20 : ht * wd ≤ 20 := by
    have := Nat.mul_le_mul hht1.2 hwd1.2
    omega
  have hpx3 : ∀ x y, 0 ≤ pxAt g x y ∧ pxAt g x y ≤ 300 := fun x y => ⟨(hpx x y).1, Int.le_trans (hpx x y).2 (by omega)⟩
  refine spreadPlane_spec B0 F28 X0 N28 T0 rfl rfl (by k_dflt ktr_room) (PN _ (newsSub N28 (by k_units))) hgl hgr (by omega) (by omega) (by omega) hpx3 h20 (by omega) (by omega) fun hE1 tkE1 tp1 npl1 tz1 n1 led1 F29 N29 of1 ol1 PL1 => ?_
  have hR1 : ∀ p ∈ led1 ++ R, p.1 ∉ coreA sv L := fun p hp => by
    rcases List.mem_append.mp hp with hp | hp
    · exact core_off (core_all (⟨listOf [.int a5 ta5, .int b5 tb5].toArray n, by k_mem⟩) (⟨o5, by k_mem⟩) (⟨o4, by k_mem⟩) (⟨oW, by k_mem⟩) (⟨oM, by k_mem⟩) (⟨oSv, by k_mem⟩) (⟨tabObj #[], by k_mem⟩)) ol1 p hp
    · exact hR p hp
  have qT : ∀ q ∈ coreA sv L, @Ne Nat q tp1 := core_all (of1 (_, listOf [.int a5 ta5, .int b5 tb5].toArray n) (by k_mem)) (of1 (L + 5, o5) (by k_mem)) (of1 (L + 4, o4) (by k_mem)) (of1 (L + 3, oW) (by k_mem)) (of1 (L + 2, oM) (by k_mem)) (of1 (L + 1, oSv) (by k_mem)) (of1 (232, tabObj #[]) (by k_mem))
  have hPRl : (planeRun wd ht (fun i => lvl i lv om) (lv - 1).toNat g ht).2.length = ht := planeRun_len ht
  have hPRr := planeRun_rows (wd := wd) (ht := ht) (f := fun i => lvl i lv om) (n := (lv - 1).toNat) (g := g) ht
  (try clear of1); (try clear ol1); (try clear N28); (try clear F28)
  k_steps
  unfold Halt
  rename Fr g0 L _ _ => F30
  rename News g0 L _ _ => N30
  obtain ⟨R1, PN1, PTN, GN1, VN1, hR1', N31⟩ : ∃ R1, PlaneN w g0 L R1 npl wd ht g ∧ PlaneN w g0 L R1 npl1 wd ht (planeRun wd ht (fun i => lvl i lv om) (lv - 1).toNat g ht).2 ∧ GridN g0 L R1 rA g ∧ ListN g0 L R1 va vsV ∧ (∀ p ∈ R1, p.1 ∉ coreA sv L) ∧ News g0 L _ ((sv, listOf [.int a5 ta5, .int b5 tb5].toArray n) :: (L + 5, o5) :: (L + 4, o4) :: (L + 3, oW) :: (L + 2, oM) :: (L + 1, oSv) :: (232, tabObj #[]) :: R1) :=
    ⟨led1 ++ R, PN.mono fun p hp => List.mem_append_right _ hp, fun h N => PL1.at (newsSub N fun p hp => List.mem_append_left _ hp), GN.mono fun p hp => List.mem_append_right _ hp, VN.mono fun p hp => List.mem_append_right _ hp, hR1, newsSub N30 fun p hp => by
      revert p; k_units⟩
  (try clear N30); (try clear PN); (try clear GN); (try clear VN); (try clear hR); (try clear hR1); (try clear qT); (try clear PL1)
  generalize hPR : planeRun wd ht (fun i => lvl i lv om) (lv - 1).toNat g ht = PR at *
  obtain ⟨asR, hrR, hasR, hrowR⟩ := GN1 _ (newsSub N31 (by k_units))
  refine spread_spec (as := asR) (n := (lv - 1).toNat) (f := fun i => lvl i lv om) B0 F30 X0 N31 T0 rfl rfl (by k_dflt ktr_room) (by decide) hrR (by rw [hasR, hgl]) hrowR hgl hgr ⟨hwd1.1, hht1.1⟩ hpx3 h20 (by omega) (by omega) (VN1 _ (newsSub N31 (by k_units))) hVI (by rw [lvls_len]; omega) (by omega)
    (fun i hi => lvls_get lv om (by omega)) (fun i h0 h1 => by
      have := lvl_bound (i := i) (l := lv) (o := om) ⟨h0, by omega⟩ (by omega) (by omega)
      omega) fun hF1 tkF1 tp2 fd2 tz2 k2 rows2 q2 F32 N32 hl2 hr2 of2 => ?_
  rw [hPR] at N32 hr2
  have cz : ∀ a ∈ coreA sv L, ∃ oq, (a, oq) ∈ (sv, listOf [.int a5 ta5, .int b5 tb5].toArray n) :: (L + 5, o5) :: (L + 4, o4) :: (L + 3, oW) :: (L + 2, oM) :: (L + 1, oSv) :: (232, tabObj #[]) :: R1 := core_all (⟨listOf [.int a5 ta5, .int b5 tb5].toArray n, by k_mem⟩) (⟨o5, by k_mem⟩) (⟨o4, by k_mem⟩) (⟨oW, by k_mem⟩) (⟨oM, by k_mem⟩) (⟨oSv, by k_mem⟩) (⟨tabObj #[], by k_mem⟩)
  have qT2 : ∀ q ∈ coreA sv L, @Ne Nat q tp2 := fun q hq => let ⟨oq, hoq⟩ := cz q hq; (of2 _ hoq).1
  have hR2 : ∀ p ∈ (fd2, listOf ((rows2.map (·.1)).map Value.ref).toArray q2) :: (rows2 ++ R1), p.1 ∉ coreA sv L := fun p hp hm => by
    obtain ⟨oq, hoq⟩ := cz _ hm
    rcases List.mem_cons.mp hp with rfl | hp
    · exact (of2 _ hoq).2.1 rfl
    rcases List.mem_append.mp hp with hp | hp
    · exact (of2 _ hoq).2.2 p hp rfl
    · exact hR1' p hp hm
  (try clear of2); (try clear cz)
  k_steps
  unfold Halt
  rename Fr g0 L _ _ => F33
  rename News g0 L _ _ => N33
  obtain ⟨R2, PN2, PTN2, DN2, GN2, hR2', N34⟩ : ∃ R2, PlaneN w g0 L R2 npl wd ht g ∧ PlaneN w g0 L R2 npl1 wd ht PR.2 ∧ GridN g0 L R2 fd2 PR.2 ∧ GridN g0 L R2 rA g ∧ (∀ p ∈ R2, p.1 ∉ coreA sv L) ∧ News g0 L _ ((tp2, { cls := .type "tuple", data := .seq [.ref fd2, .int PR.1.2 tz2].toArray k2 }) :: (sv, listOf [.int a5 ta5, .int b5 tb5].toArray n) :: (L + 5, o5) :: (L + 4, o4) :: (L + 3, oW) :: (L + 2, oM) :: (L + 1, oSv) :: (232, tabObj #[]) :: R2) :=
    ⟨(fd2, listOf ((rows2.map (·.1)).map Value.ref).toArray q2) :: (rows2 ++ R1), PN1.mono (by k_units), PTN.mono (by k_units), fun h N => grid_news (by rw [hl2, hPRl]) hr2 N List.mem_cons_self (by k_units), GN1.mono (by k_units), hR2, newsSub N33 fun p hp => by
      revert p; k_units⟩
  (try clear N33); (try clear PN1); (try clear PTN); (try clear GN1); (try clear VN1); (try clear hR1'); (try clear hR2); (try clear hr2); (try clear hl2)
  rename_i z1 z2 z3 z4 z5
  clear h'_6 tk_6 hE1 tkE1 tp1 n1 led1 z1 z2 z3 z4 R1 hPR hrR hrowR hF1 tkF1 rows2 q2
  revert w s₀ s1 mg mb fa pm cd doc hg w_1 w_4 o5 o4 QQ g0 X0 T0 B0 codeHd hQQ L d5 d4 sv n v5 v4 v3 v2 v1 v0 l0 vsc oSv dSv l1l lS1 a1 b1 tv1 oM om dO hom lv tlv hlv tk7 a4 b4 oW wd hwd1 ht hht1 a5 ta5 b5 tb5 rowsL ha5
     hb5 hlen rA g hgl hgr hpx cps npl va vsV hVI hcl2 R D' l1 h20 hpx3 npl1 tz1 PR hPRl hPRr asR hasR tp2 fd2 tz2 k2 qT2 z5 F33 tk R2 PN2 PTN2 DN2 GN2 hR2' N34
  exact hSt.out⟩
end
section
local macro_rules | `(tactic| walk_at "ite") => `(tactic| refine halt ?_)
local macro_rules | `(tactic| walk_at "exec If") => `(tactic| refine halt ?_)
noncomputable def JoinF (s1 : Shared) (g0 : Heap) (L rA : Addr) (lv : Int) (tlv : Tok) (g : List (List Int)) (CO : List (Addr × Obj)) (sv : Addr) (f : Flow) (s' : Shared) : Prop :=
  f = .next ∧ ∃ (h : Heap) (tk : Nat) (m2 : Str → Option Value) (R3 : List (Addr × Obj)), s' = { heap := h, gens := s1.gens, drawn := s1.drawn, toks := tk, os := s1.os } ∧ Fr g0 L h (fun y => if y = "rows" then some (.ref rA) else if y = "levels" then some (.int lv tlv) else m2 y) ∧ GridN g0 L R3 rA g ∧ (∀ p ∈ R3, p.1 ∉ coreA sv L) ∧
    News g0 L h (CO ++ R3)
theorem JoinF.intro {s1 : Shared} {g0 h : Heap} {L rA : Addr} {lv : Int} {tlv : Tok} {g : List (List Int)} {CO all R3 : List (Addr × Obj)} {sv : Addr} {tk : Nat} {m2 : Str → Option Value} (F : Fr g0 L h m2) (h1 : m2 "rows" = some (.ref rA)) (h2 : m2 "levels" = some (.int lv tlv))
    (G : GridN g0 L R3 rA g) (hR : ∀ p ∈ R3, p.1 ∉ coreA sv L) (N : News g0 L h all) (sub : ∀ p ∈ CO ++ R3, p ∈ all) : JoinF s1 g0 L rA lv tlv g CO sv .next { heap := h, gens := s1.gens, drawn := s1.drawn, toks := tk, os := s1.os } :=
  ⟨rfl, h, tk, m2, R3, rfl, fr_eq F fun y => by
    by_cases e1 : y = "rows"
    · rw [if_pos e1, e1, h1]
    · rw [if_neg e1]
      by_cases e2 : y = "levels"
      · rw [if_pos e2, e2, h2]
      · rw [if_neg e2], G, hR, newsSub N sub⟩
noncomputable def stF : { P : Prop × Prop // Hold P.1 → Hold P.2 → stE.1 } := ⟨(_, _), fun hStG hStH => by
  intro w s₀ s1 mg mb fa pm cd doc hg w_1 w_4 o5 o4 QQ g0 X0 T0 B0 codeHd hQQ L d5 d4 sv n v5 v4 v3 v2 v1 v0 l0 vsc oSv dSv l1l lS1 a1 b1 tv1 oM om dO hom lv tlv hlv tk7 a4 b4 oW wd hwd1 ht hht1 a5 ta5 b5 tb5 rowsL ha5
     hb5 hlen rA g hgl hgr hpx cps npl va vsV hVI hcl2 R D' l1 h20 hpx3 npl1 tz1 PR hPRl hPRr asR hasR tp2 fd2 tz2 k2 qT2 h'_10 F33 tk_8 R2 PN2 PTN2 DN2 GN2 hR2' N34
  refine alike_spec B0 F33 X0 N34 T0 rfl rfl (by k_dflt ktr_room) (by decide) (PTN2 _ (newsSub N34 (by k_units))) (DN2 _ (newsSub N34 (by k_units))) hPRl hPRr hht1.1 (by omega) (by omega) fun hF2 tkF2 F35 N35 => ?_
  k_steps
  unfold Halt
  refine if_no (by decide) ?_
  k_steps
  unfold Halt
  refine if_no (by first | k_units | simp) ?_
  k_steps
  unfold Halt
  rename Fr g0 L _ _ => F36
  rename News g0 L _ _ => N36
  refine alike_spec B0 F36 X0 N36 T0 rfl rfl (by k_dflt ktr_room) (by decide) (PN2 _ (newsSub N36 (by k_units))) (GN2 _ (newsSub N36 (by k_units))) hgl hgr hht1.1 (by omega) (by omega) fun hF3 tkF3 F37 N37 => ?_
  (try clear F36); (try clear N36)
  k_steps
  unfold Halt
  refine if_no (by decide) ?_
  k_steps
  unfold Halt
  refine if_no (by decide) ?_
  k_steps
  unfold Halt
  rename Fr g0 L _ _ => F38
  rename News g0 L _ _ => N38
  refine wpAny_mono (E := fun _ _ => False) (Q := JoinF s1 g0 L rA lv tlv g [(sv, listOf [.int a5 ta5, .int b5 tb5].toArray n), (L + 5, o5), (L + 4, o4), (L + 3, oW), (L + 2, oM), (L + 1, oSv), (232, tabObj #[])] sv) ?_ ?_ (fun _ _ e => e)
  · refine wpAny_If ?_
    k_steps
    unfold Halt
    by_cases h16 : om < 16
    · refine if_yes (by simpa using h16) ?_
      k_steps
      unfold Halt
      rename Fr g0 L _ _ => F39
      rename News g0 L _ _ => N39
      obtain ⟨hs1, hs2⟩ := planeRun_same (om := om) hgl hgr hpx hom.1
      refine spreadPlane_spec B0 F39 X0 N39 T0 rfl rfl (by k_dflt ktr_room) (PN2 _ (newsSub N39 (by k_units))) hgl hgr (by omega) (by omega) (by omega) hpx3 h20 (by omega) (by omega) fun hE4 tkE4 tp4 npl4 tz4 n4 led4 F40 N40 of4 ol4 PL4 => ?_
      rw [hs2] at N40
      rw [hs1] at PL4
      have hRl : ∀ p ∈ led4 ++ R2, p.1 ∉ coreA sv L := fun p hp => by
        rcases List.mem_append.mp hp with hp | hp
        · exact core_off (core_all (⟨listOf [.int a5 ta5, .int b5 tb5].toArray n, by k_mem⟩) (⟨o5, by k_mem⟩) (⟨o4, by k_mem⟩) (⟨oW, by k_mem⟩) (⟨oM, by k_mem⟩) (⟨oSv, by k_mem⟩) (⟨tabObj #[], by k_mem⟩)) ol4 p hp
        · exact hR2' p hp
      (try clear of4); (try clear ol4); (try clear N39); (try clear F39)
      k_steps
      unfold Halt
      rename Fr g0 L _ _ => F41
      rename News g0 L _ _ => N41
      rename_i z1 z2 z3 z4
      clear pm doc hg w_4 QQ codeHd hQQ d5 d4 v5 v4 v3 v2 v1 v0 l0 dSv lS1 tv1 dO hom hlv ha5 hb5 hpx R l1 h20 hpx3 hPRr qT2 h'_10 tk_8 PN2 PTN2 DN2 hR2' hF2 tkF2 hF3 tkF3 h16 z1 hs1 hs2 hE4 tkE4 z2 z3
      revert w s₀ s1 mg mb fa cd w_1 o5 o4 g0 X0 T0 B0 L sv n vsc oSv l1l a1 b1 oM om lv tlv tk7 a4 b4 oW wd hwd1 ht hht1 a5 ta5 b5 tb5 rowsL hlen rA g hgl hgr cps npl va vsV hVI hcl2 D' npl1 tz1 PR hPRl asR hasR tp2 fd2
         tz2 k2 R2 GN2 tp4 npl4 tz4 n4 led4 PL4 hRl z4 F41 N41 tk
      exact hStG.out
    · refine if_no (by simpa using h16) ?_
      k_steps
      rename Fr g0 L _ _ => F39
      rename News g0 L _ _ => N39
      refine JoinF.intro (R3 := R2) F39 rfl rfl GN2 hR2' N39 fun p hp => ?_
      revert p; k_units
  · clear vsc lS1 tk7 hpx npl va R l1 h20 npl1 tz1 PR hPRl hPRr tp2 fd2 tz2 k2 qT2 h'_10 F33 tk_8 R2 PN2 PTN2 DN2 GN2 hR2' N34 hF2 tkF2 hF3 tkF3 F38 N38
    revert w s₀ s1 mg mb fa pm cd doc hg w_1 w_4 o5 o4 QQ g0 X0 T0 B0 codeHd hQQ L d5 d4 sv n v5 v4 v3 v2 v1 v0 l0 oSv dSv l1l a1 b1 tv1 oM om dO hom lv tlv hlv a4 b4 oW wd hwd1 ht hht1 a5 ta5 b5 tb5 rowsL ha5 hb5 hlen rA
       g hgl hgr cps vsV hVI hcl2 D' hpx3 asR hasR
    exact hStH.out⟩
end
section
local macro_rules | `(tactic| walk_at "ite") => `(tactic| refine halt ?_)
theorem law_g : stF.1.1 := by
  intro w s₀ s1 mg mb fa cd w_1 o5 o4 g0 X0 T0 B0 L sv n vsc oSv l1l a1 b1 oM om lv tlv tk7 a4 b4 oW wd hwd1 ht hht1 a5 ta5 b5 tb5 rowsL hlen rA g hgl hgr cps npl va vsV hVI hcl2 D' npl1 tz1 PR hPRl asR hasR tp2 fd2 tz2
     k2 R2 GN2 tp4 npl4 tz4 n4 led4 PL4 hRl h'_13 F41 N41 tk_10
  refine wpAny_If ?_
  k_steps
  unfold Halt
  refine alike_spec B0 F41 X0 N41 T0 rfl rfl (by k_dflt ktr_room) (by decide) (PL4.at (newsSub N41 (by k_units))) (GN2 _ (newsSub N41 (by k_units))) hgl hgr hht1.1 (by omega) (by omega) fun hG1 tkG1 F42 N42 => ?_
  (try clear F41); (try clear N41)
  k_steps
  unfold Halt
  refine if_no (by decide) ?_
  k_steps
  unfold Halt
  refine if_no (by decide) ?_
  k_steps
  unfold Halt
  refine if_no (by decide) ?_
  k_steps
  rename Fr g0 L _ _ => F43
  rename News g0 L _ _ => N43
  refine JoinF.intro (R3 := led4 ++ R2) F43 rfl rfl (GN2.mono fun p hp => List.mem_append_right _ hp) hRl N43 fun p hp => ?_
  revert p; k_units
end
section
theorem side_of {r : Int} (h0 : 0 ≤ r) (h1 : r < 3) : ∃ sd : Nat, ([1, 2, 4] : List Int).getD r.toNat 0 = (sd : Int) ∧ Pow2 sd ∧ sd ≤ 4 ∧ 1 ≤ sd := by
  have : r = 0 ∨ r = 1 ∨ r = 2 := by omega
  rcases this with rfl | rfl | rfl
  · exact ⟨1, rfl, .inl rfl, by decide, by decide⟩
  · exact ⟨2, rfl, .inr (.inl rfl), by decide, by decide⟩
  · exact ⟨4, rfl, .inr (.inr (.inl rfl)), by decide, by decide⟩
noncomputable def stH : { P : Prop // Hold P → stF.1.2 } := ⟨_, fun hSt => by
  intro w s₀ s1 mg mb fa pm cd doc hg w_1 w_4 o5 o4 QQ g0 X0 T0 B0 codeHd hQQ L d5 d4 sv n v5 v4 v3 v2 v1 v0 l0 oSv dSv l1l a1 b1 tv1 oM om dO hom lv tlv hlv a4 b4 oW wd hwd1 ht hht1 a5 ta5 b5 tb5 rowsL ha5 hb5 hlen rA g
     hgl hgr cps vsV hVI hcl2 D' hpx3 asR hasR
  intros
  rename JoinF _ _ _ _ _ _ _ _ _ _ _ => hJ
  obtain ⟨rfl, hH0, tkH0, mH, R3, rfl, F44, GN3, hR3, N44⟩ := hJ
  simp only [List.cons_append, List.nil_append] at N44
  (try clear F38); (try clear N38); (try clear PN2); (try clear PTN2); (try clear DN2); (try clear GN2); (try clear hR2'); (try clear qT2); (try clear hPR); (try clear hPRl); (try clear hPRr)
  dsimp only
  have r0 : ∀ p ∈ R3, p.1 ≠ sv := fun p hp q => hR3 p hp (by simp [coreA, q])
  have r4' : ∀ p ∈ R3, p.1 ≠ L + 4 := fun p hp q => hR3 p hp (by simp [coreA, q])
  have r5' : ∀ p ∈ R3, p.1 ≠ L + 5 := fun p hp q => hR3 p hp (by simp [coreA, q])
  k_steps
  unfold Halt
  rename_i lH1 hH1 F45 N45 lH2
  refine sift_spec B0 F45 X0 (mv1 N45) T0 rfl rfl (by k_dflt ktr_room) (fun o' => Upd.head (by k_all)) ha5 hb5 (by decide) fun hH3 tkH3 r6 tr6 a8 ta8 b8 tb8 hr60 hr61 ha8 hb8 F46 N46 => ?_
  (try clear F45); (try clear N45)
  k_steps
  unfold Halt
  rename Fr g0 L _ _ => F47
  rename News g0 L _ _ => N47
  refine sift_spec B0 F47 X0 N47 T0 rfl rfl (by k_dflt ktr_room) (fun o' => Upd.head (by k_all)) ha8 hb8 (by omega) fun hH4 tkH4 ln tln a9 ta9 b9 tb9 hln0 hln1 ha9 hb9 F48 N48 => ?_
  (try clear F47); (try clear N47)
  k_steps
  unfold Halt
  rename_i tSd D4 hI1 lI hI2 hI3 oSd dSd hI4 oLn FI NI dLn
  obtain ⟨sd, esd, hp2, hsd4, hsd1⟩ := side_of hr60 hr61
  have e2 : (sd : Int) + 2 = ((sd + 2 : Nat) : Int) := by omega
  have e1 : (sd : Int) + 1 = ((sd + 1 : Nat) : Int) := by omega
  rw [esd] at dSd ⊢
  rw [e2, e1]
  have N49 := newsSub NI (l' := (sv, listOf [.int a9 ta9, .int b9 tb9].toArray n) :: (L + 5, oLn) :: (L + 4, oSd) :: (L + 3, oW) :: (L + 2, oM) :: (L + 1, oSv) :: (232, tabObj #[]) :: R3) (by k_units)
  (try clear NI); (try clear lI); (try clear lH2); (try clear hr60); (try clear hr61); (try clear esd); (try clear ha8); (try clear hb8)
  clear pm doc w_4 o5 o4 d5 d4 v5 v4 v3 v2 v1 l0 ta5 tb5 ha5 hb5 hH0 tkH0 r0 r4' r5' lH1 hH1 hH3 tkH3 r6 tr6 a8 ta8 b8 tb8 hH4 tkH4 D4 hI1 hI2 hI3
  revert w s₀ s1 mg mb fa cd hg w_1 QQ g0 X0 T0 B0 codeHd hQQ L sv n v0 oSv dSv l1l a1 b1 tv1 oM om dO hom lv tlv hlv a4 b4 oW wd hwd1 ht hht1 a5 b5 rowsL hlen rA g hgl hgr cps vsV hVI hcl2 D' hpx3 asR hasR mH R3 GN3 hR3
     tSd ln tln a9 ta9 b9 tb9 hln0 hln1 ha9 hb9 oSd hI4 oLn FI dLn tk sd dSd hp2 hsd4 hsd1 e2 e1 N49
  exact hSt.out⟩
end
section
local macro_rules | `(tactic| walk_at "ite") => `(tactic| refine halt ?_)
theorem ord_row {th : Nat → Nat → Int} {sd : Nat} {ln lv om : Int} {j : Nat} {ns : List Int} (hj : j < sd + 1) (h : (ordRows th sd (sd + 2) (List.replicate (sd + 1) (List.replicate (sd + 2) ln)) lv om (sd + 1))[j]? = some ns) :
    ns = (List.range (sd + 2)).map fun (x : Nat) => ordV ln (th (j % sd) (x % sd)) ((sd : Int) * sd) lv om := by
  unfold ordRows at h
  rw [List.getElem?_map, List.getElem?_range hj] at h
  rw [← Option.some.inj h]
  apply List.map_congr_left
  intro x hx
  have hx2 := List.mem_range.mp hx
  congr 1
  unfold pxAt
  rw [Int.toNat_natCast, Int.toNat_natCast, List.getD_eq_getElem?_getD (l := List.replicate _ _), List.getElem?_replicate, if_pos hj, Option.getD_some, List.getD_eq_getElem?_getD, List.getElem?_replicate, if_pos hx2, Option.getD_some]
theorem ord_same {th : Nat → Nat → Int} {sd : Nat} {ln lv om : Int} {n1 n2 : List Int} (hs : 1 ≤ sd) (h1 : (ordRows th sd (sd + 2) (List.replicate (sd + 1) (List.replicate (sd + 2) ln)) lv om (sd + 1))[0]? = some n1)
    (h2 : (ordRows th sd (sd + 2) (List.replicate (sd + 1) (List.replicate (sd + 2) ln)) lv om (sd + 1))[sd]? = some n2) : n1 = n2 := by
  rw [ord_row (by omega) h1, ord_row (by omega) h2, Nat.mod_self, Nat.zero_mod]
noncomputable def stI : { P : Prop // Hold P → stH.1 } := ⟨_, fun hSt => by
  intro w s₀ s1 mg mb fa cd hg w_1 QQ g0 X0 T0 B0 codeHd hQQ L sv n v0 oSv dSv l1l a1 b1 tv1 oM om dO hom lv tlv hlv a4 b4 oW wd hwd1 ht hht1 a5 b5 rowsL hlen rA g hgl hgr cps vsV hVI hcl2 D' hpx3 asR hasR mH R3 GN3 hR3
     tSd ln tln a9 ta9 b9 tb9 hln0 hln1 ha9 hb9 oSd hI4 oLn FI dLn tk_9 sd dSd hp2 hsd4 hsd1 e2 e1 N49
  refine LCg.ListComp_U (cl := [("side", L + 4), ("lone", L + 5)]) (F₀ := FI) (by rfl) (by decide) (by rfl) (by decide) (by rfl) ?_
  k_steps
  unfold Halt
  rename IsRange _ _ _ _ _ _ _ _ => R50
  rename Fr g0 L _ _ => F50
  rename News g0 L _ _ => N50
  rw [e1] at R50
  refine LCg.CompSrc.range (by rfl) F50 N50 R50 (small_one (by omega) (by omega) (by omega) (by omega)) (n := sd + 1) (by rw [rangeSize_nat]; (try congr 1); (try omega)) (by rw [sizeLine_eq]; omega) ?_
  intro gg
  refine compRest_of (n := sd + 1) (fun i ys nw => ∃ cps : List (Addr × Obj), cps.length = i ∧ ys = (cps.map (·.1)).map Value.ref ∧ RowsAre (fun _ ns => ns = List.replicate (sd + 2) ln) cps ∧ (∀ p ∈ cps, p.1 ∉ coreA sv L) ∧ nw = (sv, listOf [.int a9 ta9, .int b9 tb9].toArray n) :: (L + 5, oLn) :: (L + 4, oSd) :: (L + 3, oW) :: (L + 2, oM) :: (L + 1, oSv) :: (232, tabObj #[]) :: (R3 ++ cps)) ?step ?fin (sd + 1) 0 [] _ (Nat.zero_add _)
    ⟨[], rfl, rfl, (fun _ _ h => by simp at h), all_nil, by rw [List.append_nil]⟩
  case step =>
    intro i ys nw v I oI C oC D m₂ hJ1 tkJ1 E' hi hJ hP hC hx F51 N51 off ne
    obtain ⟨cps, hcl, rfl, hcr, hco, rfl⟩ := hJ
    have N52 := newsSub N51 (l' := (L + 5, oLn) :: (L + 4, oSd) :: (I, oI) :: (C, oC) :: (D, LCg.lst ((cps.map (·.1)).map Value.ref)) :: (sv, listOf [.int a9 ta9, .int b9 tb9].toArray n) :: (L + 3, oW) :: (L + 2, oM) :: (L + 1, oSv) :: (232, tabObj #[]) :: (R3 ++ cps)) (by k_units)
    (try clear N51); (try clear N50); (try clear F50); (try clear R50)
    (try k_fold)
    k_steps
    rename_i qL1 hJ2 FJ1 NJ1 lJ1 qD hJ3 FJ2 NJ2 iJ nJ sJ eJ1 eJ2 eJ3 lJ
    have hrep : (List.replicate ((sd : Int) + 2).toNat [ln]).flatten = List.replicate (sd + 2) ln := by
      rw [e2, Int.toNat_natCast]; simp
    rw [hrep] at iJ
    obtain ⟨j1, j2, j3, j4, j5, j6, j7, j8, j9, j10, j11, j12⟩ := lJ
    refine LCg.CompEnd.intro FJ2 NJ2 ((sv, listOf [.int a9 ta9, .int b9 tb9].toArray n) :: (L + 5, oLn) :: (L + 4, oSd) :: (L + 3, oW) :: (L + 2, oM) :: (L + 1, oSv) :: (232, tabObj #[]) :: (R3 ++ (cps ++ [(qD, listOf _ 0)]))) (fun p hp => ?_) (LCg.Off3.of fun p hp => ?_) True.intro ⟨cps ++ [(qD, listOf _ 0)], by simp [hcl], by simp, hcr.snoc iJ rfl, fun p hp => ?_, rfl⟩
    · revert p; k_units
    · rcases List.mem_append.mp (show p ∈ ((sv, listOf [.int a9 ta9, .int b9 tb9].toArray n) :: (L + 5, oLn) :: (L + 4, oSd) :: (L + 3, oW) :: (L + 2, oM) :: (L + 1, oSv) :: (232, tabObj #[]) :: (R3 ++ cps)) ++ [(qD, listOf _ 0)] from by simpa using hp) with hp | hp
      · exact off.mem p hp
      · rw [List.mem_singleton.mp hp]
        exact ⟨Nat.ne_of_gt j4, Nat.ne_of_gt j5, Nat.ne_of_gt j6⟩
    · rcases List.mem_append.mp hp with hp | hp
      · exact hco p hp
      · rw [List.mem_singleton.mp hp]
        intro hm
        simp only [coreA, List.mem_cons, List.not_mem_nil, or_false] at hm
        rcases hm with q | q | q | q | q | q | q <;> (replace q : @Eq Nat qD _ := q; omega)
  case fin =>
    intro ys nw hJ
    obtain ⟨cps, hcl, rfl, hcr, hco, rfl⟩ := hJ
    intro rC hIz tkIz F53 N53 o1
    replace o1 := off1_mem o1
    k_steps
    unfold Halt
    rename Fr g0 L _ _ => F54
    rename News g0 L _ _ => N54
    refine plane_spec B0 F54 X0 N54 T0 rfl rfl (by k_dflt ktr_room) (by intro x e; cases e) (by intro x e; cases e) fun hI5 tkI5 npl5 dnp5 x1 x2 x3 F55 N55 la55 lb55 => ?_
    (try clear F54); (try clear N54); (try clear la55); (try clear o1)
    k_steps
    unfold Halt
    rename Fr g0 L _ _ => F56
    rename News g0 L _ _ => N56
    have G5 : GridAt _ rC (List.replicate (sd + 1) (List.replicate (sd + 2) ln)) := grid_news (rowsL := cps) (g := List.replicate (sd + 1) (List.replicate (sd + 2) ln)) (by simp [hcl]) (fun j p hj => by
      obtain ⟨vs, k, ns, q1, q2, rfl⟩ := hcr j p hj
      have hjl : j < sd + 1 := by
        have := (List.getElem?_eq_some_iff.mp hj).1
        omega
      exact ⟨vs, k, _, q1, q2, by simp [List.getElem?_replicate, hjl]⟩) N56 (n := cps.length) (by simp [LCg.lst]) (by k_units)
    have P5 : PlaneAt w _ npl5 (sd + 2) (sd + 1) (List.replicate (sd + 1) (List.replicate (sd + 2) ln)) := ⟨dnp5, rC, x1, x2, x3, _, _, (N56 (npl5, instObj 84 dnp5) (by k_mem)).1, (N56 (dnp5, dictOf _ 3) (by k_mem)).1, G5⟩
    refine ord_spec (side := sd) (g := List.replicate (sd + 1) (List.replicate (sd + 2) ln)) B0 F56 X0 N56 T0 rfl rfl (by k_dflt ktr_room) P5 (by first | k_units | simp) ?hgr5 (fun _ => by omega) (by omega) (by omega) ?hpx5 (by omega) (by omega) (fun _ _ hK1 tkK1 npl6 led6 th F57 N57 of6 PL6 => ?_) (fun hbad => ?_)
    case hgr5 =>
      intro j ns hj
      rw [List.getElem?_replicate] at hj
      split at hj
      · obtain rfl := Option.some.inj hj
        simp
      · cases hj
    case hpx5 =>
      refine fun x y => ⟨(px_bound (om := om) (by omega) ?_ x y).1, Int.le_trans (px_bound (om := om) (by omega) ?_ x y).2 (by omega)⟩ <;>
      · intro j ns hj v hv
        rw [List.getElem?_replicate] at hj
        split at hj
        · obtain rfl := Option.some.inj hj
          rw [(List.mem_replicate.mp hv).2]
          omega
        · cases hj
    · obtain ⟨dpl6, rl6, y1, y2, y3, tw6, th6, nn6, rows6, rfl, hl6, hr6⟩ := PL6
      replace hl6 : rows6.length = sd + 1 := by rw [hl6]; simp [ordRows]
      obtain ⟨⟨a60, ob60⟩, h60⟩ : ∃ p, rows6[0]? = some p := ⟨rows6[0]'(by omega), List.getElem?_eq_getElem _⟩
      obtain ⟨⟨a6s, ob6s⟩, h6s⟩ : ∃ p, rows6[sd]? = some p := ⟨rows6[sd]'(by omega), List.getElem?_eq_getElem _⟩
      obtain ⟨vs60, k60, ns60, rfl, i60, g60⟩ := hr6 0 _ h60
      obtain ⟨vs6s, k6s, ns6s, rfl, i6s, g6s⟩ := hr6 sd _ h6s
      have hsame : ns60 = ns6s := ord_same (by omega) g60 g6s
      subst hsame
      have m60 : (a60, listOf vs60.toArray k60) ∈ rows6 := List.mem_of_getElem? h60
      have m6s : (a6s, listOf vs6s.toArray k6s) ∈ rows6 := List.mem_of_getElem? h6s
      have q60 : (rows6.map (·.1))[(0 : Int).toNat]? = some a60 := by rw [List.getElem?_map]; show Option.map _ rows6[0]? = _; rw [h60]; rfl
      have q6s : (rows6.map (·.1))[(sd : Int).toNat]? = some a6s := by rw [List.getElem?_map, Int.toNat_natCast, h6s]; rfl
      have N58 := newsSub N57 (l' := (npl6, instObj 84 dpl6) :: (dpl6, dictOf [⟨PyData.keyHash w.params "width", .str "width" y1, .int ((sd + 2 : Nat) : Int) tw6⟩, ⟨PyData.keyHash w.params "height", .str "height" y2, .int ((sd + 1 : Nat) : Int) th6⟩, ⟨PyData.keyHash w.params "rows", .str "rows" y3, .ref rl6⟩] 3) :: (rl6, listOf ((rows6.map (·.1)).map Value.ref).toArray nn6) :: (a60, listOf vs60.toArray k60) :: (a6s, listOf vs6s.toArray k6s) :: (sv, listOf [.int a9 ta9, .int b9 tb9].toArray n) :: (L + 5, oLn) :: (L + 4, oSd) :: (L + 3, oW) :: (L + 2, oM) :: (L + 1, oSv) :: (232, tabObj #[]) :: (rows6 ++ R3)) (by k_units)
      (try clear N57); (try clear of6); (try clear P5); (try clear G5); (try clear hcr); (try clear hco); (try clear F56)
      k_steps
      unfold Halt
      refine if_no (by rw [e2, e1]; simp) ?_
      k_steps
      unfold Halt
      refine if_no (by decide) ?_
      k_steps
      unfold Halt
      refine if_no (by decide) ?_
      k_steps
      unfold Halt
      rename Fr g0 L _ _ => F60
      rename News g0 L _ _ => N60
      have N61 := newsSub N60 (l' := (npl6, instObj 84 dpl6) :: (dpl6, dictOf [⟨PyData.keyHash w.params "width", .str "width" y1, .int ((sd + 2 : Nat) : Int) tw6⟩, ⟨PyData.keyHash w.params "height", .str "height" y2, .int ((sd + 1 : Nat) : Int) th6⟩, ⟨PyData.keyHash w.params "rows", .str "rows" y3, .ref rl6⟩] 3) :: (rl6, listOf ((rows6.map (·.1)).map Value.ref).toArray nn6) :: (sv, listOf [.int a9 ta9, .int b9 tb9].toArray n) :: (L + 5, oLn) :: (L + 4, oSd) :: (L + 3, oW) :: (L + 2, oM) :: (L + 1, oSv) :: (232, tabObj #[]) :: (rows6 ++ R3)) (by k_units)
      (try clear N60); (try clear i60); (try clear i6s); (try clear g60); (try clear g6s); (try clear m60); (try clear m6s); (try clear q60); (try clear q6s); (try clear h60); (try clear h6s)
      rename_i z1 z2 z3 z4 z5 z6 z7 z8 z9 z10 z11 z12 z13 z14 z15 z16 z17
      clear hlv tln hln0 hln1 hI4 dLn tk_9 hp2 e2 z2 z3 z4 z5 z6 R50 z7 gg rC hIz tkIz hI5 tkI5 x1 x2 x3 lb55 z8 z9 hK1 tkK1 vs60 k60 ns60 vs6s k6s z10 z11 z13 z14 z17
      revert w s₀ s1 mg mb fa cd hg w_1 QQ g0 X0 T0 B0 codeHd hQQ L sv n v0 oSv dSv l1l a1 b1 tv1 oM om dO hom lv tlv a4 b4 oW wd hwd1 ht hht1 a5 b5 rowsL hlen rA g hgl hgr z1 vsV hVI hcl2 D' hpx3 asR hasR mH R3 GN3 hR3
         tSd ln a9 ta9 b9 tb9 ha9 hb9 oSd oLn sd dSd hsd4 hsd1 e1 cps hcl npl5 dnp5 npl6 th dpl6 rl6 y1 y2 y3 tw6 th6 nn6 rows6 hr6 hl6 a60 a6s z12 z15 z16 F60 tk N61
      exact hSt.out
    · exfalso
      rcases hbad with hb | hb
      · unfold BadL at hb; omega
      · exact hb hp2⟩
end
section
theorem compRestT_none {prog : Program} {w : World} {A : Around} {s : Shared} {h₀ : Heap} {L : Addr} {m : Str → Option Value} {env : Env} {ct elt : PySem.Expr} {x : Str} {scope : Scope} {cl : List (Str × Addr)} {S : List (Addr × Obj) → Prop} {P : Nat → Value → Prop} {Fin : List Value → List (Addr × Obj) → Prop} {n : Nat}
    (J : List (Addr × Obj) → Prop)
    (step : ∀ i news v I oI C oC D m₂ h tk (E' : Value → Shared → Prop), i < n → J news → P i v → LCg.NsObj oC m₂ → m₂ x = some v → Fr h₀ L h m → News h₀ L h ((I, oI) :: (C, oC) :: (D, LCg.lst []) :: news) → LCg.Off3 I C D news → ((@Ne Nat I C) ∧ (@Ne Nat I D) ∧ (@Ne Nat C D)) →
      wpAny (model prog w) A (isTrue ct (compEnvC scope cl C env) (eval ct (compEnvC scope cl C env))) (fun ok s' => ok = false ∧ LCg.CompEnd h₀ L m { s with heap := h, toks := tk } I oI C oC D (LCg.lst []) S (fun _ news' => J news') Value.none s') E' { s with heap := h, toks := tk })
    (fin : ∀ news, J news → Fin [] news) :
    ∀ k i news, i + k = n → J news → LCt.CompRestT prog w A h₀ L m env ct elt x scope cl s S P Fin k i [] news
  | 0, _, news, _, hJ => fin news hJ
  | k + 1, i, news, hi, hJ => by
    refine LCt.CompRestT.succ fun v I oI C oC D m₂ h tk E' hP hC hx F N off ne => ?_
    refine wpAny_mono (step i news v I oI C oC D m₂ h tk E' (by omega) hJ hP hC hx F N off ne) (fun ok s₂ q => ?_) fun _ _ e => e
    obtain ⟨rfl, h', tk', news', rfl, F', N', off', hS, hJ'⟩ := q
    exact ⟨h', tk', news', rfl, F', N', off', hS, compRestT_none J step fin k (i + 1) news' (by omega) hJ'⟩
local macro_rules | `(tactic| walk_at "ite") => `(tactic| refine halt ?_)
theorem law_j : stI.1 := by
  intro w s₀ s1 mg mb fa cd hg w_1 QQ g0 X0 T0 B0 codeHd hQQ L sv n v0 oSv dSv l1l a1 b1 tv1 oM om dO hom lv tlv a4 b4 oW wd hwd1 ht hht1 a5 b5 rowsL hlen rA g hgl hgr cps vsV hVI hcl2 D' hpx3 asR hasR mH R3 GN3 hR3 tSd
     ln a9 ta9 b9 tb9 ha9 hb9 oSd oLn sd dSd hsd4 hsd1 e1 cps_1 hcl npl5 dnp5 npl6 th dpl6 rl6 y1 y2 y3 tw6 th6 nn6 rows6 hr6 hl6 a60 a6s D'_1 D'_2 h'_14 F60 tk_12 N61
  refine LCt.ListComp_T (cl := [("side", L + 4)]) (F₀ := F60) (by rfl) (by decide) (by rfl) (by decide) (by rfl) ?_
  k_steps
  unfold Halt
  rename Fr g0 L _ _ => F62
  rename News g0 L _ _ => N62
  refine LCt.CompSrcT.ledger (its := ((rows6.map (·.1)).map Value.ref).toArray) (k := nn6) rfl F62 N62 (.tail _ (.tail _ (.head _))) (by rw [sizeLine_eq]; simp [hl6]; omega) ?_
  intro gg
  refine compRestT_none (n := ((rows6.map (·.1)).map Value.ref).toArray.size) (fun nw => nw = ((npl6, instObj 84 dpl6) :: (dpl6, dictOf [⟨PyData.keyHash w.params "width", .str "width" y1, .int ((sd + 2 : Nat) : Int) tw6⟩, ⟨PyData.keyHash w.params "height", .str "height" y2, .int ((sd + 1 : Nat) : Int) th6⟩, ⟨PyData.keyHash w.params "rows", .str "rows" y3, .ref rl6⟩] 3) :: (rl6, listOf ((rows6.map (·.1)).map Value.ref).toArray nn6) :: (sv, listOf [.int a9 ta9, .int b9 tb9].toArray n) :: (L + 5, oLn) :: (L + 4, oSd) :: (L + 3, oW) :: (L + 2, oM) :: (L + 1, oSv) :: (232, tabObj #[]) :: (rows6 ++ R3))) ?step ?fin _ 0 _ (Nat.zero_add _) rfl
  case step =>
    intro i nw v I oI C oC D m₂ hK2 tkK2 E' hi hJ hP hC hx F63 N63 off ne
    subst hJ
    obtain ⟨⟨pa, po⟩, hpa, rfl⟩ : ∃ p, rows6[i]? = some p ∧ v = .ref p.1 := by
      simp only [List.getElem?_toArray, List.getElem?_map, Option.map_map, Option.map_eq_some_iff] at hP
      obtain ⟨p, e1, e2⟩ := hP
      exact ⟨p, e1, e2.symm⟩
    obtain ⟨vs, k, ns, heq, hIn, hgi⟩ := hr6 i _ hpa
    dsimp only at heq
    subst heq
    have hmp : (pa, listOf vs.toArray k) ∈ rows6 := List.mem_of_getElem? hpa
    have hil : i < sd + 1 := by
      have := (List.getElem?_eq_some_iff.mp hpa).1
      omega
    have hns := ord_row hil hgi
    have hnl : ns.length = sd + 2 := by rw [hns]; simp
    have N64 := newsSub N63 (l' := (pa, listOf vs.toArray k) :: (L + 4, oSd) :: (I, oI) :: (C, oC) :: (D, LCg.lst []) :: ((npl6, instObj 84 dpl6) :: (dpl6, dictOf [⟨PyData.keyHash w.params "width", .str "width" y1, .int ((sd + 2 : Nat) : Int) tw6⟩, ⟨PyData.keyHash w.params "height", .str "height" y2, .int ((sd + 1 : Nat) : Int) th6⟩, ⟨PyData.keyHash w.params "rows", .str "rows" y3, .ref rl6⟩] 3) :: (rl6, listOf ((rows6.map (·.1)).map Value.ref).toArray nn6) :: (sv, listOf [.int a9 ta9, .int b9 tb9].toArray n) :: (L + 5, oLn) :: (L + 4, oSd) :: (L + 3, oW) :: (L + 2, oM) :: (L + 1, oSv) :: (232, tabObj #[]) :: (rows6 ++ R3))) (by k_units)
    (try clear N63); (try clear N62); (try clear F62)
    (try k_fold)
    have gx : ∀ x, x < sd + 2 → ns.getD x 0 = ordV ln (th (i % sd) (x % sd)) ((sd : Int) * sd) lv om := by
      intro x hx
      rw [hns]
      simp [List.getD_eq_getElem?_getD, hx]
    have k1 : ns.getD (Int.toNat 0) 0 = ns.getD ((sd : Int)).toNat 0 := by
      rw [show Int.toNat 0 = 0 from rfl, Int.toNat_natCast, gx 0 (by omega), gx sd (by omega), Nat.zero_mod, Nat.mod_self]
    have k2 : ns.getD (Int.toNat 1) 0 = ns.getD ((sd : Int) + 1).toNat 0 := by
      rw [e1, show Int.toNat 1 = 1 from rfl, Int.toNat_natCast, gx 1 (by omega), gx (sd + 1) (by omega), Nat.add_mod_left]
    k_steps
    unfold Halt
    refine if_no (by rw [k1]; simp) ?_
    k_steps
    unfold Halt
    refine if_no (by rw [k2]; simp) ?_
    k_steps
    rename Fr g0 L _ _ => F64
    refine LCg.CompEnd.intro F64 N64 ((npl6, instObj 84 dpl6) :: (dpl6, dictOf [⟨PyData.keyHash w.params "width", .str "width" y1, .int ((sd + 2 : Nat) : Int) tw6⟩, ⟨PyData.keyHash w.params "height", .str "height" y2, .int ((sd + 1 : Nat) : Int) th6⟩, ⟨PyData.keyHash w.params "rows", .str "rows" y3, .ref rl6⟩] 3) :: (rl6, listOf ((rows6.map (·.1)).map Value.ref).toArray nn6) :: (sv, listOf [.int a9 ta9, .int b9 tb9].toArray n) :: (L + 5, oLn) :: (L + 4, oSd) :: (L + 3, oW) :: (L + 2, oM) :: (L + 1, oSv) :: (232, tabObj #[]) :: (rows6 ++ R3)) (fun p hp => ?_) off (.inr ⟨listOf ((rows6.map (·.1)).map Value.ref).toArray nn6, by k_mem, rfl, _, rfl⟩) rfl
    revert p; k_units
  case fin =>
    intro nw hJ
    subst hJ
    intro D hK3 tkK3 F65 N65 o1
    replace o1 := off1_mem o1
    k_steps
    unfold Halt
    refine if_no (by decide) ?_
    k_steps
    unfold Halt
    rename Fr g0 L _ _ => F66
    rename News g0 L _ _ => N66
    refine refused_spec B0 F66 X0 T0 rfl rfl X0 T0 codeHd (by k_dflt ktr_room) (newsSub N66 (l' := [(sv, listOf [.int a9 ta9, .int b9 tb9].toArray n), (232, tabObj #[])]) fun p hp => ?_) (Ne.symm v0) ha9 hb9 (by omega) (fun hx st => GN3 hx fun p hp => ?_) hgl hgr hpx3 hht1.1 (by omega) (by omega) fun hZ tkZ ps FZ NZ => ?_
    · revert p; k_units
    · have z := N66 p (by k_units)
      refine ⟨st _ _ z.1 fun q hq e => ?_, z.2⟩
      simp only [List.mem_cons, List.not_mem_nil, or_false] at hq
      rcases hq with rfl | rfl
      · exact hR3 p hp (by rw [← e]; simp [coreA])
      · exact hR3 p hp (by rw [← e]; simp [coreA])
    (try clear F66); (try clear N66)
    k_steps
    refine hQQ _ _ ?_
    k_steps
end
theorem law_all : PySem.Challenge.rw_pf0235_01.Holds := stA.2 ⟨stB.2 ⟨stC.2 ⟨stD.2 ⟨stE.2 ⟨stF.2 ⟨law_g⟩ ⟨stH.2 ⟨stI.2 ⟨law_j⟩⟩⟩⟩⟩⟩⟩⟩
end Mine
theorem PySem.Challenge.cw_pf0235_01_holds : PySem.Challenge.rw_pf0235_01.Holds := by
  exact Mine.law_all
