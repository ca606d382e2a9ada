import PyProof.Rows.All
import Wide.All
import OpenK.AllK
import Wide.FinOn
import PySem.Challenge.RW_qd0009_01
set_option Elab.async false
set_option linter.unusedVariables false
/-! Hk -/
section
open PySem PySem.W PyProof.Rows
namespace Mine
noncomputable def viewQ : Program := view PySem.Challenge.pw_qd0009_01 [0, 2, 3, 4, 6, 7, 8, 9, 10, 11, 12, 13, 14, 16, 17, 18, 19, 20, 21, 22]
theorem left_rows {p q : Program} {loose : List Str} {Xt : Shared → Bool} {α : Type} {Yf : Shared → α} {Ya : World → α} {N : Nat} (row : String)
    (h1 : opening p = plainProg p.main.scope.names) (h2 : Nat.ble 600 N = true) (h3 : ∀ s : Shared, fenceModules? p s = some s)
    (hf : ∀ (w : World) (os : OsState), (topFrom treeTable p (w.withFollow row false) N ⟨boot_heap (w.withFollow row false).params, #[], boot_drawn, boot_toks, os⟩).map (fun s => (openSeen q loose (importedModules p.main.body) Xt true s, Yf s)) = some (openGood q loose, Ya (w.withFollow row false)))
    (ht : ∀ (w : World) (os : OsState), (topFrom treeTable p (w.withFollow row true) N ⟨boot_heap (w.withFollow row true).params, #[], boot_drawn, boot_toks, os⟩).map (fun s => (openSeen q loose (importedModules p.main.body) Xt true s, Yf s)) = some (openGood q loose, Ya (w.withFollow row true))) :
    LeftO p q loose Xt Yf Ya N := fun w => by
  obtain ⟨⟨h, gs, d, k, os⟩, e, e'⟩ := Option.map_eq_some_iff.mp (boot_open h1 h2 h3 w)
  obtain ⟨rfl, rfl, rfl, rfl⟩ : h = boot_heap w.params ∧ gs = #[] ∧ d = boot_drawn ∧ k = boot_toks := by simpa using e'
  have f := World.withFollow_self w row
  unfold openEnds
  rw [e]
  cases hb : w.params.followText row <;> rw [hb] at f
  · have := hf w os
    rw [f] at this
    exact this
  · have := ht w os
    rw [f] at this
    exact this

local macro_rules | `(tactic| o_law) => `(tactic| (refine (fun (h : PySem.Challenge.rw_qd0009_01.Holds) (_ : PySem.Challenge.rw_qd0009_01.row.Holds → PySem.Challenge.rw_qd0009_01.row.Holds) (_ : True) => h) ?hc ?side ?hw; rotate_left; intro hs))
local macro_rules | `(tactic| o_head $H) => `(tactic| (have _h := $H; assumption))
local macro_rules | `(tactic| w_witness2) => `(tactic| trivial)
set_option maxRecDepth 100000 in
set_option maxHeartbeats 0 in
open_top hd for PySem.Challenge.rw_qd0009_01
end Mine
end
/-! Hl -/
section
open PySem PySem.W PyProof.Rows
set_option maxRecDepth 100000
namespace Mine
noncomputable def topRunT (stp : SharedT → Thread → Option (SharedT × Thread)) (okk : Thread → Bool) : Nat → SharedT → Thread → Option SharedT
  | 0, _, _ => none
  | n + 1, s, t => match through t with
    | true => some s
    | false => match okk t with
      | false => none
      | true => match stp s t with
        | some (s', t') => topRunT stp okk n s' t'
        | none => none
theorem topRunT_of {tb : String → Option Builtin} {p : Program} {w : World} {n₀ : Nat} {ann : Option Value} : ∀ {n : Nat} {s s' : SharedT} {t : Thread}, topRunT (stepT (denote tb) p w) (stepOk n₀ ann) n s t = some s' → topRun tb p w n₀ ann n s.abs t = some s'.abs
  | 0, _, _, _, h => by cases h
  | n + 1, s, s', t, h => by
    unfold topRunT at h
    unfold topRun
    cases he : through t with
    | true => rw [he] at h; cases h; rfl
    | false =>
      rw [he] at h
      cases hk : stepOk n₀ ann t with
      | false => rw [hk] at h; cases h
      | true =>
        rw [hk] at h
        cases hs : stepT (denote tb) p w s t with
        | none => rw [hs] at h; cases h
        | some r => obtain ⟨s₂, t₂⟩ := r; rw [hs] at h; rw [stepT_spec hs]; exact topRunT_of h
noncomputable def bootT (P : Params) : BT := [boot_o_1 P, boot_o_2 P, boot_o_3 P, boot_o_4 P, boot_o_5 P, boot_o_6 P, boot_o_7 P, boot_o_8 P, boot_o_9 P, boot_o_10 P].zipIdx.foldl (fun t x => t.ins (x.2 + 1) x.1) (.node (boot_o_0 P) .nil .nil)
noncomputable def bootS (w : World) (os : OsState) : SharedT := ⟨bootT w.params, 11, (boot_heap w.params).life, #[], boot_drawn, boot_toks, os⟩
theorem boot_abs (w : World) (os : OsState) : (bootS w os).abs = ⟨boot_heap w.params, #[], boot_drawn, boot_toks, os⟩ := by kernel_rfl
def spots : List Addr := [2, 3, 15, 17, 18, 20, 21, 22, 25, 30, 31, 33, 34, 36, 37, 38, 40, 41, 43, 44, 45, 46, 47, 48, 51, 54, 59, 60, 62, 63, 65, 66, 67, 69, 70, 72, 73, 74, 75, 76, 79, 86, 87, 88, 91, 92, 93, 101, 102, 104, 105, 107, 108, 109, 111, 112, 114, 115, 116, 118, 119, 121, 122, 123, 125, 126, 128, 129, 130, 132, 133, 135, 136, 137, 139, 140, 142, 143, 144, 146, 147, 149, 150, 151, 153, 154, 156, 157, 158, 160, 161, 163, 164, 165, 167, 168, 170, 171, 172, 173, 174, 175, 176, 179, 180, 181, 182, 184, 185, 187, 188, 189, 192, 193, 194, 196, 197, 199, 200, 201, 204, 205]
theorem spots_are (P : Params) : spots = (hd.heap_1 P).map (·.1) := by kernel_rfl
noncomputable abbrev hookQ : Hook := kHook hd.heap_1 spots spots_are
noncomputable abbrev seesQ (s : Shared) : Bool := xlAt viewQ [] s && recOk PySem.Challenge.rw_qd0009_01.row.records s
noncomputable abbrev fstep : (p : Program) → World → SharedT → Thread → Option (SharedT × Thread) := PySem.W.Fast.tw10156331382660048174 (PySem.W.Fast.tw11892475500146522536 PySem.W.Fast.tw14364793385576792824)
theorem fstep_eq : stepT (denote treeTable) = fstep := by rw [PySem.W.Fast.te10156331382660048174, PySem.W.Fast.te11892475500146522536, PySem.W.Fast.te14364793385576792824]
noncomputable abbrev fok := PySem.W.Fast.tw6613529449190102663
theorem fok_eq : stepOk = fok := PySem.W.Fast.te6613529449190102663
noncomputable abbrev fseen := PySem.W.Fast.tw4187177175401517315
theorem fseen_eq : openSeen = fseen := PySem.W.Fast.te4187177175401517315
noncomputable abbrev fmods := PySem.W.Fast.tw5923862056798008813
theorem fmods_eq : importedModules = fmods := PySem.W.Fast.te5923862056798008813
noncomputable def topT (w : World) (os : OsState) : Option SharedT := topRunT (fstep PySem.Challenge.pw_qd0009_01 w) (fok 11 (some (.ref 6))) 2000 (bootS w os) (topStub PySem.Challenge.pw_qd0009_01)
end Mine
end
/-! Hm -/
section
open PySem PySem.W PyProof.Rows
set_option maxRecDepth 100000
namespace Mine
noncomputable abbrev statQ (w : World) (s : Shared) : Bool := staticsOk (fmods PySem.Challenge.pw_qd0009_01.main.body) (boot_heap w.params) s.heap && namesBound PySem.Challenge.pw_qd0009_01 s.heap && gensDone s && laidKept (boot_heap w.params) s.heap
noncomputable abbrev lookQ (s : Shared) := fseen viewQ [Str.ofString "ESCAPES"] (fmods PySem.Challenge.pw_qd0009_01.main.body) seesQ true s
noncomputable abbrev onRow (w : World) (b : Bool) : World := w.withFollow "special-get-raises" b
theorem topFrom_of {p : Program} {w : World} {N : Nat} {s₀ s₁ : Shared} {ann : Option Value} {n : Nat} (c0 : (s₀.heap.isNs mainGlobals && s₀.gens.size == 0) = true)
    (c1 : s₀.heap.nsMap mainGlobals "__annotations__" = ann) (c2 : s₀.heap.objs.size = n) (r : topRun treeTable p w n ann N s₀ (topStub p) = some s₁)
    (e : (staticsOk (importedModules p.main.body) s₀.heap s₁.heap && namesBound p s₁.heap && gensDone s₁ && laidKept s₀.heap s₁.heap) = true) : topFrom treeTable p w N s₀ = some s₁ := by
  unfold topFrom
  rw [c0, c1, c2, r]
  dsimp only [Option.bind_some]
  rw [e]
theorem boot_at (P : Params) : ((boot_heap P).isNs mainGlobals = true ∧ (boot_heap P).nsMap mainGlobals "__annotations__" = some (.ref 6)) ∧ (boot_heap P).objs.size = 11 := ⟨⟨by kernel_rfl, by kernel_rfl⟩, by kernel_rfl⟩
theorem side {w : World} {os : OsState} (h1 : (topT w os).map (fun s => hookQ.obs s.abs) = some (hookQ.val w)) (h2 : (topT w os).map (fun s => statQ w s.abs) = some true)
    (h3 : (topT w os).map (fun s => lookQ s.abs) = some (openGood viewQ [Str.ofString "ESCAPES"])) :
    (topFrom treeTable PySem.Challenge.pw_qd0009_01 w 2000 ⟨boot_heap w.params, #[], boot_drawn, boot_toks, os⟩).map (fun s => (openSeen viewQ [Str.ofString "ESCAPES"] (importedModules PySem.Challenge.pw_qd0009_01.main.body) seesQ true s, hookQ.obs s)) = some (openGood viewQ [Str.ofString "ESCAPES"], hookQ.val w) := by
  obtain ⟨s, hs, e1⟩ := Option.map_eq_some_iff.mp h1
  rw [hs] at h2 h3
  have e2 : statQ w s.abs = true := Option.some.inj h2
  have e3 : lookQ s.abs = _ := Option.some.inj h3
  unfold topT at hs
  rw [← fstep_eq, ← fok_eq] at hs
  have r := topRunT_of hs
  rw [boot_abs] at r
  unfold statQ at e2
  unfold lookQ at e3
  rw [← fmods_eq] at e2 e3
  rw [← fseen_eq] at e3
  obtain ⟨⟨b0, b1⟩, b2⟩ := boot_at w.params
  rw [topFrom_of (by rw [Bool.and_eq_true_iff]; exact ⟨b0, rfl⟩) b1 b2 r e2]
  dsimp only [Option.map_some]
  rw [e3, e1]
set_option maxHeartbeats 0 in
theorem run_a (w : World) (os : OsState) : (topT (onRow w false) os).map (fun s => hookQ.obs s.abs) = some (hookQ.val (onRow w false)) := by kernel_rfl
set_option maxHeartbeats 0 in
theorem run_b (w : World) (os : OsState) : (topT (onRow w true) os).map (fun s => hookQ.obs s.abs) = some (hookQ.val (onRow w true)) := by kernel_rfl
set_option maxHeartbeats 0 in
theorem stat_a (w : World) (os : OsState) : (topT (onRow w false) os).map (fun s => statQ (onRow w false) s.abs) = some true := by kernel_rfl
set_option maxHeartbeats 0 in
theorem stat_b (w : World) (os : OsState) : (topT (onRow w true) os).map (fun s => statQ (onRow w true) s.abs) = some true := by kernel_rfl
set_option maxHeartbeats 0 in
theorem look_a (w : World) (os : OsState) : (topT (onRow w false) os).map (fun s => lookQ s.abs) = some (openGood viewQ [Str.ofString "ESCAPES"]) := by kernel_rfl
set_option maxHeartbeats 0 in
theorem look_b (w : World) (os : OsState) : (topT (onRow w true) os).map (fun s => lookQ s.abs) = some (openGood viewQ [Str.ofString "ESCAPES"]) := by kernel_rfl
theorem the_opening : opening PySem.Challenge.pw_qd0009_01 = plainProg PySem.Challenge.pw_qd0009_01.main.scope.names := by rfl
theorem no_fence (s : Shared) : fenceModules? PySem.Challenge.pw_qd0009_01 s = some s := by rfl
theorem left_all : LeftO PySem.Challenge.pw_qd0009_01 viewQ [Str.ofString "ESCAPES"] seesQ hookQ.obs hookQ.val 2000 :=
  left_rows "special-get-raises" the_opening rfl no_fence (fun w os => side (run_a w os) (stat_a w os) (look_a w os)) (fun w os => side (run_b w os) (stat_b w os) (look_b w os))
end Mine
end
/-! D0 -/
section
open PySem PySem.W PyProof.Rows PySem.Calls
namespace Mine
theorem off_D0 : True := by
  w_top off
  trivial
/-- what a call does not touch stands beneath its frame -/
abbrev Rests (g : Heap) (rest : List (Addr × Obj)) : Prop := ∀ p ∈ rest, g.get? p.1 = some p.2
/-- what a call may touch, and what it does not -/
structure Apart (h₀ : Heap) (L : Addr) (h : Heap) (news rest : List (Addr × Obj)) : Prop where
  one : News h₀ L h news
  two : News h₀ L h rest
  off : ∀ p ∈ rest, p.1 ∉ news.map (·.1)
theorem rests_back {h₀ g h' : Heap} {L L' : Addr} {m' : Str → Option Value} {rest : List (Addr × Obj)} {hs : Heap} (NR : News h₀ L hs rest) (hr : Rests g rest) (F' : Fr g L' h' m') : News h₀ L h' rest :=
  fun p hp => ⟨F'.keep _ _ (hr p hp), (NR p hp).2⟩
section
variable {prog : Program} {w : World} {A₀ A : Around} {s : Shared} {base h₀ : Heap} {outer : List Env} {L : Addr} {m : Str → Option Value} {env : Env} {news rest : List (Addr × Obj)} {K : Frag}
  {R : Result → Shared → Prop} {name qual : Str} {params : Arguments} {body : List Stmt} {scope : Scope} {dV kV doc pm cdv ct oc : Value} {an od : Option Addr} {osl : Array (Option Value)} {f : Addr} {args : Args} {binds : List (Str × Value)}
  {p : Program} {loose : List Str} {mean : ExcName → Option Value} {mg mb : Str → Option Value}
theorem enterF (B : Below A₀ base outer h₀) (F : Fr h₀ L s.heap m) (X₀ : K.In h₀) (NA : Apart h₀ L s.heap news rest) (T : Top p loose mean mg mb h₀) (hA : A.frames = some (env :: outer)) (hf : env.frame = some L) (hke : env.scope.kind = .function)
    (ho : K.lookup f = some ⟨oc, od, .func (fnOf name qual params body scope dV kV doc pm an cdv ct), osl⟩) (hcd : codeIn K cdv qual = true) (hroom : A.depth < recursionLimit)
    (hbind : BindsTo s (fnOf name qual params body scope dV kV doc pm an cdv ct) args binds) (hloc : ∀ y ∈ binds, scope.names.lookup y.1 = some .local)
    (h : ∀ g L' h₁, Fr h₀ L g m → Fr g L' h₁ (fun y => binds.reverse.lookup y) → News g L' h₁ news → Rests g rest → Below A base (env :: outer) g → K.In g → Top p loose mean mg mb g →
      wpAny (model prog w) (A.deeper (envOf qual scope L' f cdv)) (execs body (envOf qual scope L' f cdv))
        (fun fl s' => LeaveK h₀ L m g (fun r s' => News h₀ L s'.heap rest → R r s') (match fl with | .ret v => v | _ => .none) s')
        (fun e s' => wpAny (model prog w) (A.deeper (envOf qual scope L' f cdv)) (leaving (envOf qual scope L' f cdv) e) (fun _ s'' => R (.error e) s'') (fun e' s'' => R (.error e') s'') s')
        { s with heap := h₁, toks := s.toks + binds.length })
    (hco : scope.isCoroutine = false) (hgen : scope.isGenerator = false) (hk : scope.kind = .function)
    (hcell : ∀ x ∈ scope.names, x.2 ≠ .cell) : codeAny (model prog w) A (.call (.ref f) args) R s := by
  obtain ⟨N, NR, off⟩ := NA
  obtain ⟨FG, BG, st, lv⟩ := groundX (R := fun r s' => News h₀ L s'.heap rest → R r s') B F N hA hf hke
  have hg : Rests (hideAll s.heap (news.map (·.1))) rest := fun p hp => hideAll_get _ (NR p hp).1 (off p hp)
  have KI := X₀.keeps F.keep
  refine codeAny_call_def (fd := fnOf name qual params body scope dV kV doc pm an cdv ct) (body := body) (binds := binds) hroom (KI _ _ ho) rfl (T.nolimit.keeps F.keep) (codeRec_of KI hcd) rfl hbind hcell hloc (fun h₁ hns hk₁ => ?_) hco hgen hk
  refine wpAny_mono (h _ s.heap.objs.size h₁ FG ⟨hns, fun b o e => hk₁ b o (of_hideAll _ e), Nat.le_of_eq (hideAll_size _ _)⟩
    (fun p hp => ⟨hk₁ _ _ (N p hp).1, Nat.ne_of_lt (Heap.lt_size (N p hp).1), hideAll_none _ (List.mem_map_of_mem hp)⟩) hg BG (X₀.keeps st) (T.keeps st)) (fun fl s' hl => ?_) fun _ _ y => y
  refine lv _ _ hl ?_
  obtain ⟨L', m', news', F', _, _⟩ := hl
  exact rests_back NR hg F'
theorem enterFC (B : Below A₀ base outer h₀) (F : Fr h₀ L s.heap m) (X₀ : K.In h₀) (NA : Apart h₀ L s.heap news rest) (T : Top p loose mean mg mb h₀) (hA : A.frames = some (env :: outer)) (hf : env.frame = some L) (hke : env.scope.kind = .function)
    (ho : K.lookup f = some ⟨oc, od, .func (fnOf name qual params body scope dV kV doc pm an cdv ct), osl⟩) (hcd : codeIn K cdv qual = true) (hroom : A.depth < recursionLimit)
    (hbind : BindsTo s (fnOf name qual params body scope dV kV doc pm an cdv ct) args binds) (hkind : (binds.all fun y => scope.names.lookup y.1 == some .local || scope.names.lookup y.1 == some .cell) = true)
    (hnd : ((cellsFrom 0 scope.names []).map (·.1)).Nodup)
    (h : ∀ g L' h₁ tk cells, Fr h₀ L g m → Fr g L' h₁ (bindL (envOfC qual scope L' f cdv).kindOf binds fun _ => none) → News g L' h₁ (cells ++ news) → Rests g rest →
      CellsAre (bindC (envOfC qual scope L' f cdv).kindOf binds fun _ => none) (cellsFrom (L' + 1) scope.names []) cells → Below A base (env :: outer) g → K.In g → Top p loose mean mg mb g → (∀ p ∈ news, p.1 < L') →
      wpAny (model prog w) (A.deeper (envOfC qual scope L' f cdv)) (execs body (envOfC qual scope L' f cdv))
        (fun fl s' => LeaveK h₀ L m g (fun r s' => News h₀ L s'.heap rest → R r s') (match fl with | .ret v => v | _ => .none) s')
        (fun e s' => wpAny (model prog w) (A.deeper (envOfC qual scope L' f cdv)) (leaving (envOfC qual scope L' f cdv) e) (fun _ s'' => R (.error e) s'') (fun e' s'' => R (.error e') s'') s')
        { s with heap := h₁, toks := tk })
    (hco : scope.isCoroutine = false) (hgen : scope.isGenerator = false) (hk : scope.kind = .function) : codeAny (model prog w) A (.call (.ref f) args) R s := by
  obtain ⟨N, NR, off⟩ := NA
  obtain ⟨FG, BG, st, lv⟩ := groundX (R := fun r s' => News h₀ L s'.heap rest → R r s') B F N hA hf hke
  have hg : Rests (hideAll s.heap (news.map (·.1))) rest := fun p hp => hideAll_get _ (NR p hp).1 (off p hp)
  have KI := X₀.keeps F.keep
  refine codeAny_call_function hroom (KI _ _ ho) rfl hco hgen rfl (codeRec_of KI hcd) (hbind _ _ _ _ ?_)
  refine wpAny_newFunctionEnv_cells hk (kindsX hkind _) fun env' he s' x => ?_
  subst he
  refine ⟨(T.nolimit.keeps F.keep).keeps x.toInCall.keep, codeAny_func ?_⟩
  obtain ⟨h₁, tk, rfl, _⟩ := x.done
  have hk₁ := x.toInCall.keep
  obtain ⟨cells, NC, Y⟩ := Cl.news (h₀ := s.heap) (Nat.le_refl _) fun n c hm => ⟨x.cell n c (lookup_of_mem_nodup (cellsFrom_names scope.names 0 (s.heap.objs.size + 1) [] [] rfl ▸ hnd) hm), x.above n c hm⟩
  refine wpAny_mono (h _ s.heap.objs.size h₁ tk cells FG ⟨x.toInCall.ns, fun b o e => hk₁ b o (of_hideAll _ e), Nat.le_of_eq (hideAll_size _ _)⟩ (fun p hp => ?_) hg Y BG (X₀.keeps st) (T.keeps st) (fun p hp => Heap.lt_size (N p hp).1)) (fun fl s' hl => ?_) fun _ _ y => y
  · rcases List.mem_append.mp hp with hp | hp
    · refine ⟨(NC p hp).1, (NC p hp).2.1, ?_⟩
      cases q : (hideAll s.heap (news.map (·.1))).get? p.1 with
      | none => rfl
      | some o => have := of_hideAll _ q; rw [(NC p hp).2.2] at this; cases this
    · exact ⟨hk₁ _ _ (N p hp).1, Nat.ne_of_lt (Heap.lt_size (N p hp).1), hideAll_none _ (List.mem_map_of_mem hp)⟩
  · refine lv _ _ hl ?_
    obtain ⟨L', m', news', F', _, _⟩ := hl
    exact rests_back NR hg F'
end
theorem src_in {h₀ g : Heap} {L : Addr} {m : Str → Option Value} {l : Addr} {its : Array Value} {rest : List (Addr × Obj)} (hS : LCg.SrcAt h₀ l its rest) (FG : Fr h₀ L g m) (hR : Rests g rest) : g.IsList l its := by
  rcases hS with ⟨o, e, r⟩ | ⟨o, hm, r⟩
  · exact ⟨o, FG.keep _ _ e, r⟩
  · exact ⟨o, hR _ hm, r⟩
theorem src_rest {h₀ : Heap} {l d : Addr} {o : Obj} {its : Array Value} {pre post : List (Addr × Obj)} (hS : LCg.SrcAt h₀ l its (pre ++ (d, o) :: post)) (hne : @Ne Nat l d) : LCg.SrcAt h₀ l its (pre ++ post) := by
  rcases hS with e | ⟨o', hm, r⟩
  · exact .inl e
  · refine .inr ⟨o', ?_, r⟩
    simp only [List.mem_append, List.mem_cons, Prod.mk.injEq] at hm ⊢
    rcases hm with hm | hm | hm
    · exact .inl hm
    · exact absurd hm.1 hne
    · exact .inr hm
theorem off_one {d : Addr} {o : Obj} {pre post : List (Addr × Obj)} (a : ∀ p ∈ pre, p.1 ≠ d) (b : ∀ p ∈ post, p.1 ≠ d) : ∀ p ∈ pre ++ post, p.1 ∉ [(d, o)].map (·.1) := by
  intro p hp hq
  have hq : p.1 = d := by simpa using hq
  rcases List.mem_append.mp hp with h | h
  · exact a p h hq
  · exact b p h hq
theorem upd_split {h₀ h : Heap} {L d : Addr} {o : Obj} {pre post : List (Addr × Obj)} (N : News h₀ L h (pre ++ (d, o) :: post)) (a : ∀ p ∈ pre, p.1 ≠ d) (b : ∀ p ∈ post, p.1 ≠ d) : Apart h₀ L h [(d, o)] (pre ++ post) := by
  refine ⟨fun p hp => N p ?_, fun p hp => N p ?_, off_one a b⟩
  · simp only [List.mem_singleton] at hp; simp [hp]
  · rcases List.mem_append.mp hp with hp | hp <;> simp [hp]
theorem upd_join {h₀ h : Heap} {L d : Addr} {o : Obj} {pre post : List (Addr × Obj)} (N : News h₀ L h [(d, o)]) (NR : News h₀ L h (pre ++ post)) : News h₀ L h (pre ++ (d, o) :: post) := by
  intro p hp
  simp only [List.mem_append, List.mem_cons] at hp
  rcases hp with hp | rfl | hp
  · exact NR p (by simp [hp])
  · exact N _ (by simp)
  · exact NR p (by simp [hp])
theorem news_one {h₀ h : Heap} {L : Addr} {q : Addr × Obj} {news : List (Addr × Obj)} (N : News h₀ L h news) (hq : q ∈ news) : News h₀ L h [q] := fun p hp => N p (by rw [List.mem_singleton.mp hp]; exact hq)
theorem news_sub {h₀ h : Heap} {L : Addr} {l l' : List (Addr × Obj)} (N : News h₀ L h l) (hs : ∀ p ∈ l', p ∈ l) : News h₀ L h l' := fun p hp => N p (hs p hp)
end Mine
end
/-! D1 -/
section
open PySem PySem.W PyProof.Rows PySem.Calls
namespace Mine
theorem off_D1 : True := by
  w_top off
  trivial
/-- the law's drawing dict: its five places -/
abbrev FeedIs (prog : Program) (w : World) (lC lS lR : Addr) (place : Int) (text : Str) (o : Obj) : Prop :=
  ∃ t3 t4 : Tok, o.IsDictOf (PySem.strKind prog w) [((Str.ofString "cells"), .ref lC), ((Str.ofString "place"), .int place t3), ((Str.ofString "text"), .str text t4), ((Str.ofString "starts"), .ref lS), ((Str.ofString "remarks"), .ref lR)]
local macro_rules | `(tactic| walk_at "mine plain") => `(tactic| (refine wpAny_call ?_; k_dflt (refine' enterF ?k1 ?k2 ?k3 ?k4 ?k5 ?kA ?kF ?kK ?k6 ?k7 ?k8 ?k9 ?kB ?_ ?c2 ?c3 ?c4 ?c5; (case kA => exact rfl); (case kF => exact rfl); (case kK => assumption); (case k1 => k_asm); (case k2 => k_asm); (case k3 => k_asm); (case k4 => k_asm); (case k5 => k_asm); (case k6 => k_is); (case k7 => k_is); (case k8 => ktr_room); (case k9 => exact BindsTo.of_eq rfl); (case c5 => decide); (case kB => exact locs rfl); (case c2 => exact rfl); (case c3 => exact rfl); (case c4 => exact rfl); k_whole; intro g' L' h' FG' F' N' hR' B' X' T'; (try dsimp only); (try k_lift B'); (try k_fold))))

set_option maxRecDepth 100000 in
set_option maxHeartbeats 8000000 in
theorem dip_ok {prog : Program} {w : World} {mean : ExcName → Option Value} {mg mb : Str → Option Value}
  {dp un : Nat} {gd : Option (List Code)} {cn : Str} {cs : Scope} {a : Addr} {ccd : Value} {cl : List (Str × Addr)} {outer : List Env} {A₀ : Around} {base h₀ : Heap} {L : Addr} {m : Str → Option Value} {s : Shared} {Q E : Value → Shared → Prop}
  {d lC lS lR : Addr} {o : Obj} {rest : List (Addr × Obj)} {ys : List Value} {cells : List Int} {place many : Int} {tm : Tok} {text : Str}
  (B : Below A₀ base outer h₀) (F : Fr h₀ L s.heap m) (X : (hd.heap_1 w.params).In h₀)
  (NA : Apart h₀ L s.heap [(d, o)] rest)
  (T : Top viewQ (looseW viewQ [Str.ofString "ESCAPES"]) mean mg mb h₀) (hk : cs.kind = .function) (hdp : dp + 1 < recursionLimit) (hun : un + 8 < cLine)
  (hS : LCg.SrcAt h₀ lC ys.toArray rest) (hI : IntsAre ys cells) (hp0 : 0 ≤ place) (hp1 : place ≤ 1000) (hm : 0 < many) (hm1 : many ≤ 10000) (hl : cells.length ≤ 60)
  (hD : FeedIs prog w lC lS lR place text o)
  (hret : ∀ r t h' tk' o', 0 ≤ r → r < many → FeedIs prog w lC lS lR (place + 1) text o' → Fr h₀ L h' m → News h₀ L h' [(d, o')] → News h₀ L h' rest → Q (.int r t) { s with heap := h', toks := tk' }) :
  wpAny (model prog w) (ktrTop dp un gd cn cs L a ccd cl outer) (call (.ref 188) [.ref d, .int many tm]) Q E s := by
  have _k : hd.heap_1 = hd.heap_1 ∧ PySem.Challenge.rw_qd0009_01 = PySem.Challenge.rw_qd0009_01 := by
    k_fill
    exact ⟨rfl, rfl⟩
  clear _k
  obtain ⟨t3, t4, hD⟩ := hD
  walk_at "mine plain"
  have hCl := src_in hS (by assumption) (by assumption)
  repeat' (first | (k_unfold; (try dsimp only)) | (k_end; wrow_close) | walk1 | (dsimp only; walk1) | (leave1; walk_say "STEP leave1"; try dsimp only) | fail "no step")
  all_goals (exact hret _ _ _ _ _ (fmod_lo _ hm) (fmod_hi _ hm) ⟨_, t4, by assumption⟩ (by k_asm) (by k_asm) (by k_asm))
theorem dip_use {prog : Program} {w : World} {mean : ExcName → Option Value} {mg mb : Str → Option Value}
  {dp un : Nat} {gd : Option (List Code)} {cn : Str} {cs : Scope} {a : Addr} {ccd : Value} {cl : List (Str × Addr)} {outer : List Env} {A₀ : Around} {base h₀ : Heap} {L : Addr} {m : Str → Option Value} {s : Shared} {Q E : Value → Shared → Prop}
  {d lC lS lR : Addr} {o : Obj} {news : List (Addr × Obj)} {g : Obj → List (Addr × Obj)} {ys : List Value} {cells : List Int} {place many : Int} {tm : Tok} {text : Str}
  (B : Below A₀ base outer h₀) (F : Fr h₀ L s.heap m) (X : (hd.heap_1 w.params).In h₀)
  (N : News h₀ L s.heap news)
  (T : Top viewQ (looseW viewQ [Str.ofString "ESCAPES"]) mean mg mb h₀) (hk : cs.kind = .function) (hdp : dp + 1 < recursionLimit) (hun : un + 8 < cLine)
  (U : UpdF d o news g) (hS : LCg.SrcAt h₀ lC ys.toArray news) (hne : @Ne Nat lC d) (hI : IntsAre ys cells) (hp0 : 0 ≤ place) (hp1 : place ≤ 1000) (hm : 0 < many) (hm1 : many ≤ 10000) (hl : cells.length ≤ 60)
  (hD : FeedIs prog w lC lS lR place text o)
  (hret : ∀ r t h' tk' o', 0 ≤ r → r < many → FeedIs prog w lC lS lR (place + 1) text o' → Fr h₀ L h' m → News h₀ L h' (g o') → Q (.int r t) { s with heap := h', toks := tk' }) :
  wpAny (model prog w) (ktrTop dp un gd cn cs L a ccd cl outer) (call (.ref 188) [.ref d, .int many tm]) Q E s := by
  obtain ⟨pre, post, rfl, hg, ha, hb⟩ := U.split
  refine dip_ok B F X (upd_split N ha hb) T hk hdp hun (src_rest hS hne) hI hp0 hp1 hm hm1 hl hD ?_
  intro r t h' tk' o' h1 h2 h3 F' N' NR'
  exact hret r t h' tk' o' h1 h2 h3 F' (hg o' ▸ upd_join N' NR')
end Mine
end
/-! D2 -/
section
open PySem PySem.W PyProof.Rows PySem.Calls
namespace Mine
theorem off_D2 : True := by
  w_top off
  trivial
local macro_rules | `(tactic| walk_at "mine cells") => `(tactic| (refine wpAny_call ?_; k_dflt (refine' enterFC ?k1 ?k2 ?k3 ?k4 ?k5 ?kA ?kF ?kK ?k6 ?k7 ?k8 ?k9 ?kB ?kD ?_ ?c2 ?c3 ?c4; (case kA => exact rfl); (case kF => exact rfl); (case kK => assumption); (case k1 => k_asm); (case k2 => k_asm); (case k3 => k_asm); (case k4 => k_asm); (case k5 => k_asm); (case k6 => k_is); (case k7 => k_is); (case k8 => ktr_room); (case k9 => exact BindsTo.of_eq rfl); (case kB => exact rfl); (case kD => decide +kernel); (case c2 => exact rfl); (case c3 => exact rfl); (case c4 => exact rfl); k_whole; intro g' L' h' tk' cells' FG' F' N' hR' Y' B' X' T' l1; (try k_lt l1); k_cells Y'; (try simp only [List.cons_append, List.nil_append] at N'); (try dsimp only); (try k_lift B'); (try k_fold))))
local macro_rules | `(tactic| walk_at "call ref") => `(tactic| (k_here; (with_reducible show wpAny _ _ (call (Value.ref 188) _) _ _ _); k_dflt (refine' dip_use ?B ?F ?X ?N ?T ?k ?dp ?un ?U ?C ?ne ?I ?p0 ?p1 ?m0 ?m1 ?l ?D ?_; (case B => k_asm); (case F => k_asm); (case X => k_asm); (case N => k_asm); (case T => k_asm); (case k => first | exact rfl | assumption); (case dp => ktr_room); (case un => ktr_units); (case U => k_updF); (case D => k_asm); (case C => first | exact Or.inl (by assumption) | exact Or.inr ⟨_, by k_mem, rfl, _, rfl⟩); (case I => k_asm); (case ne => k_ne); (case p0 => omega); (case p1 => omega); (case m0 => omega); (case m1 => omega); (case l => k_asm)); intro r9 t9 h' tk' o' hr0 hr1 hD' F' N'; (try dsimp only at N')))
local macro_rules | `(tactic| walk_at "CompSrc") => `(tactic| (k_here; k_dflt (refine LCg.CompSrc.range (by rfl) (by k_asm) (by k_asm) (by assumption) (by first | decide | rfl) (by first | rfl | decide) (by first | size_fits | exact Nat.le_of_ble_eq_true rfl) ?_; intro g'; lcg_lit)))

theorem tup_in {h₀ g : Heap} {L : Addr} {m : Str → Option Value} {l : Addr} {its : Array Value} (ht : IsTup h₀ l its) (FG : Fr h₀ L g m) : IsTup g l its :=
  let ⟨o, ho, r⟩ := ht; ⟨o, FG.keep _ _ ho, r⟩
theorem item_strs {prog : Program} {w : World} {A : Around} {E : Value → Shared → Prop} {s : Shared} {h₀ : Heap} {L : Addr} {m : Str → Option Value} {value slice : PySem.Expr} {l : Addr} {vs : List Value} {tab : List Str} {k : Int} {u : Tok} {Q : Value → Shared → Prop}
    (F : Fr h₀ L s.heap m) (ht : IsTup h₀ l vs.toArray) (hv : ∀ v ∈ vs, ∃ x t, v = .str x t ∧ x ∈ tab) (h0 : 0 ≤ k) (h1 : k < vs.length) (hfit : vs.length ≤ 100) (h : ∀ x t, x ∈ tab → Q (.str x t) s)
    (hs : subscripted slice false (.ref l) (.int k u) = operate [.ref l, .int k u] (getItem (.ref l) (.int k u)) := by with_unfolding_all rfl) :
    wpAny (model prog w) A (subscriptTail value slice (.ref l) (.int k u)) Q E s := by
  have hlt : k.toNat < vs.length := by omega
  obtain ⟨x, t, e, hx⟩ := hv (vs[k.toNat]) (List.getElem_mem hlt)
  obtain ⟨o, ho, r⟩ := ht
  refine item_tupleT ⟨o, F.keep _ _ ho, r⟩ (by omega) (by omega) (StrLaws.seqIndex_nonneg h0 h1) ?_ (h x t hx) hs
  rw [List.getElem?_eq_getElem hlt, e]
local macro_rules | `(tactic| walk_at "subscriptTail Name Call ref int") => `(tactic| (k_here; k_dflt (refine' item_strs ?F ?t ?v ?a ?b ?c ?_; (case F => k_asm); (case t => k_asm); (case v => k_asm); (case a => omega); (case b => omega); (case c => omega)); intro x9 t9 hx9))
theorem sum_short {tab : List Str} (h3 : ∀ x ∈ tab, x.length ≤ 3) : ∀ l : List Str, (∀ i ∈ l, i ∈ tab) → (l.map (·.length)).sum ≤ 3 * l.length
  | [], _ => by simp
  | a :: r, h => by
    have h1 := h3 a (h a (.head _))
    have h2 := sum_short h3 r fun i hi => h i (.tail _ hi)
    simp only [List.map_cons, List.sum_cons, List.length_cons]
    omega
theorem join_short {tab is : List Str} (h3 : ∀ x ∈ tab, x.length ≤ 3) (hl : is.length ≤ 3) (hi : ∀ i ∈ is, i ∈ tab) : (Txt.join (Str.ofString "") is).length ≤ 9 := by
  have h := StrLaws.join_length_le (Str.ofString "") is
  have h1 := sum_short h3 is hi
  have h0 : (Str.ofString "").length = 0 := by decide +kernel
  rw [h0] at h
  have e : Txt.join (Str.ofString "") is = Str.join (Str.ofString "") is := StrLaws.glued_eq_join _ _
  rw [e]
  omega
theorem join_weight {tab is : List Str} (h3 : ∀ x ∈ tab, x.length ≤ 3) (hi : ∀ i ∈ is, i ∈ tab) (hl : is.length ≤ 3) : (is.map (·.length)).sum + is.length ≤ 1048576 := by
  have := sum_short h3 is hi
  omega
theorem strs_of {tab : List Str} : ∀ {vs : List Value}, (∀ v ∈ vs, ∃ x t, v = Value.str x t ∧ x ∈ tab) → ∃ is, StrsAre vs is ∧ is.length = vs.length ∧ ∀ i ∈ is, i ∈ tab
  | [], _ => ⟨[], .nil, rfl, fun _ h => nomatch h⟩
  | v :: r, h => by
    obtain ⟨x, t, rfl, hx⟩ := h v (.head _)
    obtain ⟨is, a, b, c⟩ := strs_of fun v hv => h v (.tail _ hv)
    refine ⟨x :: is, .cons x t a, by simp [b], fun i hi => ?_⟩
    rcases List.mem_cons.mp hi with rfl | hi
    · exact hx
    · exact c i hi
theorem join_tab {prog : Program} {w : World} {A : Around} {E : Value → Shared → Prop} {s : Shared} {tab : List Str} {D : Addr} {vs : List Value} {t : Tok} {Q : Value → Shared → Prop} (hl : s.heap.IsList D vs.toArray) (hv : ∀ v ∈ vs, ∃ x t, v = Value.str x t ∧ x ∈ tab) (h3 : ∀ x ∈ tab, x.length ≤ 3) (hn : vs.length ≤ 3)
    (h : ∀ is t' k, is.length ≤ 3 → (∀ i ∈ is, i ∈ tab) → Q (.str (Txt.join (Str.ofString "") is) t') { s with toks := k }) : wpAny (model prog w) A (call (.builtin "str.join") [.str (Str.ofString "") t, .ref D]) Q E s := by
  obtain ⟨is, a, b, c⟩ := strs_of hv
  have hn' : is.length ≤ 3 := by omega
  exact join_listW hl (by simpa using a) (by decide +kernel) (join_weight h3 c hn') fun t' k => h is t' k hn' c
local macro_rules | `(tactic| walk_at "call builtin:str.join") => `(tactic| (k_here; k_dflt (refine' join_tab ?l ?i ?z ?w ?_; (case l => is_list); (case i => repeat (first | exact List.forall_mem_nil _ | refine List.forall_mem_cons.mpr ⟨⟨_, _, rfl, by assumption⟩, ?_⟩)); (case z => assumption); (case w => exact Nat.le_of_ble_eq_true rfl)); intro is9 t9 k9 hn9 hi9))
set_option maxRecDepth 100000 in
set_option maxHeartbeats 8000000 in
theorem some_ok {prog : Program} {w : World} {mean : ExcName → Option Value} {mg mb : Str → Option Value}
  {dp un : Nat} {gd : Option (List Code)} {cn : Str} {cs : Scope} {a : Addr} {ccd : Value} {cl : List (Str × Addr)} {outer : List Env} {A₀ : Around} {base h₀ : Heap} {L : Addr} {m : Str → Option Value} {s : Shared} {Q E : Value → Shared → Prop}
  {d lC lS lR lT : Addr} {o : Obj} {rest : List (Addr × Obj)} {ys vs : List Value} {cells : List Int} {place : Int} {text : Str} {tab : List Str}
  (B : Below A₀ base outer h₀) (F : Fr h₀ L s.heap m) (X : (hd.heap_1 w.params).In h₀)
  (NA : Apart h₀ L s.heap [(d, o)] rest)
  (T : Top viewQ (looseW viewQ [Str.ofString "ESCAPES"]) mean mg mb h₀) (hk : cs.kind = .function) (hT : IsTup h₀ lT vs.toArray) (hv : ∀ v ∈ vs, ∃ x t, v = .str x t ∧ x ∈ tab) (hv8 : vs.length = 8) (hx2 : ∀ x ∈ tab, x.length ≤ 3)
  (hdp : dp + 3 < recursionLimit) (hun : un + 24 < cLine)
  (hS : LCg.SrcAt h₀ lC ys.toArray rest) (hne : @Ne Nat lC d) (hI : IntsAre ys cells) (hp0 : 0 ≤ place) (hp1 : place ≤ 900) (hl : cells.length ≤ 60)
  (hD : FeedIs prog w lC lS lR place text o)
  (hret : ∀ (is : List Str) t h' tk' o' (place' : Int), is.length ≤ 3 → (∀ i ∈ is, i ∈ tab) → FeedIs prog w lC lS lR place' text o' → place ≤ place' → place' ≤ place + 4 → Fr h₀ L h' m → News h₀ L h' [(d, o')] → News h₀ L h' rest → Q (.str (Txt.join (Str.ofString "") is) t) { s with heap := h', toks := tk' }) :
  wpAny (model prog w) (ktrTop dp un gd cn cs L a ccd cl outer) (call (.ref 193) [.ref d, .ref lT]) Q E s := by
  have _k : hd.heap_1 = hd.heap_1 ∧ PySem.Challenge.rw_qd0009_01 = PySem.Challenge.rw_qd0009_01 := by
    k_fill
    exact ⟨rfl, rfl⟩
  clear _k
  walk_at "mine cells"
  have hCl := src_in hS (by assumption) (by assumption)
  have hTg := tup_in hT (by assumption)
  clear hT
  iterate 23 (first | (k_unfold; (try dsimp only)) | (k_end; wrow_close) | walk1 | (dsimp only; walk1) | (leave1; walk_say "STEP leave1"; try dsimp only) | fail "no step")
  rename_i r0 _ _ _ _ h0 h1 _ _ _
  have hr4 : r0 = 0 ∨ r0 = 1 ∨ r0 = 2 ∨ r0 = 3 := by omega
  rcases hr4 with rfl | rfl | rfl | rfl
  all_goals (repeat' (first | (k_unfold; (try dsimp only)) | (k_end; wrow_close) | walk1 | (dsimp only; walk1) | (leave1; walk_say "STEP leave1"; try dsimp only) | fail "no step"))
  all_goals exact hret _ _ _ _ _ _ (by assumption) (by assumption) (by assumption) (by omega) (by omega) (by k_asm) (by (rename News _ _ _ rest => NR9; clear NR9; exact news_one (by assumption) (by k_mem))) (by assumption)
theorem some_use {prog : Program} {w : World} {mean : ExcName → Option Value} {mg mb : Str → Option Value}
  {dp un : Nat} {gd : Option (List Code)} {cn : Str} {cs : Scope} {a : Addr} {ccd : Value} {cl : List (Str × Addr)} {outer : List Env} {A₀ : Around} {base h₀ : Heap} {L : Addr} {m : Str → Option Value} {s : Shared} {Q E : Value → Shared → Prop}
  {d lC lS lR lT : Addr} {o : Obj} {news : List (Addr × Obj)} {g : Obj → List (Addr × Obj)} {ys vs : List Value} {cells : List Int} {place : Int} {text : Str} {tab : List Str}
  (B : Below A₀ base outer h₀) (F : Fr h₀ L s.heap m) (X : (hd.heap_1 w.params).In h₀)
  (N : News h₀ L s.heap news)
  (T : Top viewQ (looseW viewQ [Str.ofString "ESCAPES"]) mean mg mb h₀) (hk : cs.kind = .function) (hdp : dp + 3 < recursionLimit) (hun : un + 24 < cLine)
  (U : UpdF d o news g) (hD : FeedIs prog w lC lS lR place text o) (hS : LCg.SrcAt h₀ lC ys.toArray news) (hne : @Ne Nat lC d) (hI : IntsAre ys cells) (hp0 : 0 ≤ place) (hp1 : place ≤ 900) (hl : cells.length ≤ 60)
  (hT : IsTup h₀ lT vs.toArray) (hv : ∀ v ∈ vs, ∃ x t, v = .str x t ∧ x ∈ tab) (hv8 : vs.length = 8) (hx2 : ∀ x ∈ tab, x.length ≤ 3)
  (hret : ∀ (is : List Str) t h' tk' o' (place' : Int), is.length ≤ 3 → (∀ i ∈ is, i ∈ tab) → FeedIs prog w lC lS lR place' text o' → place ≤ place' → place' ≤ place + 4 → Fr h₀ L h' m → News h₀ L h' (g o') → Q (.str (Txt.join (Str.ofString "") is) t) { s with heap := h', toks := tk' }) :
  wpAny (model prog w) (ktrTop dp un gd cn cs L a ccd cl outer) (call (.ref 193) [.ref d, .ref lT]) Q E s := by
  obtain ⟨pre, post, rfl, hg, ha, hb⟩ := U.split
  refine some_ok B F X (upd_split N ha hb) T hk hT hv hv8 hx2 hdp hun (src_rest hS hne) hne hI hp0 hp1 hl hD ?_
  intro is t h' tk' o' place' h1 h2 h3 h4 h5 F' N' NR'
  exact hret is t h' tk' o' place' h1 h2 h3 h4 h5 F' (hg o' ▸ upd_join N' NR')
end Mine
end
/-! D3 -/
section
open PySem PySem.W PyProof.Rows PySem.Calls
namespace Mine
theorem off_D3 : True := by
  w_top off
  trivial
local macro_rules | `(tactic| walk_at "pad 0") => `(tactic| skip)

def lined : List Str := ["a", "/*", "*/", "%", "\"", "(", "\t", "\\"]
def starred : List Str := ["a", "%", "\n", "/* ", "\"", "* ", "*)", "("]
def signs : List Str := ["x", "/", "*/", "\\", "\"", "(", "7", "/\\"]
def blanks : List Str := [" ", "\t", "\r\n", "\n ", "   "]
/-- a stretch of blanks, or a remark to the line's end -/
def Plain (p : Str) : Prop := p ∈ blanks ∨ ∃ is : List Str, is.length ≤ 3 ∧ (∀ i ∈ is, i ∈ lined) ∧ p = Str.ofString "%" ++ Txt.join (Str.ofString "") is ++ Str.ofString "\n"
/-- a remark between stars -/
def Star (p : Str) : Prop := ∃ is : List Str, is.length ≤ 3 ∧ (∀ i ∈ is, i ∈ starred) ∧ (p = Str.ofString "/*" ++ Txt.join (Str.ofString "") is ++ Str.ofString "*/" ∨ p = Str.ofString "/*" ++ Txt.join (Str.ofString "") is ++ Str.ofString "**/")
abbrev pairOf (b e : Int) (t1 t2 : Tok) : Obj := { cls := .type "tuple", data := .seq #[.int b t1, .int e t2] }
theorem lined_all {t1 t2 t3 t4 t5 t6 t7 t8 : Tok} : ∀ v ∈ [Value.str "a" t1, .str "/*" t2, .str "*/" t3, .str "%" t4, .str "\"" t5, .str "(" t6, .str "\t" t7, .str "\\" t8], ∃ x t, v = Value.str x t ∧ x ∈ lined := by
  simp [lined]
theorem starred_all {t1 t2 t3 t4 t5 t6 t7 t8 : Tok} : ∀ v ∈ [Value.str "a" t1, .str "%" t2, .str "\n" t3, .str "/* " t4, .str "\"" t5, .str "* " t6, .str "*)" t7, .str "(" t8], ∃ x t, v = Value.str x t ∧ x ∈ starred := by
  simp [starred]
theorem lined_short : ∀ x ∈ lined, x.length ≤ 3 := by decide +kernel
theorem starred_short : ∀ x ∈ starred, x.length ≤ 3 := by decide +kernel
theorem item_menu {prog : Program} {w : World} {A : Around} {E : Value → Shared → Prop} {s : Shared} {value slice : PySem.Expr} {l : Addr} {vs : List Value} {k : Int} {u : Tok} {Q : Value → Shared → Prop}
    (ht : IsTup s.heap l vs.toArray) (hv : ∀ v ∈ vs, ∃ x t, v = Value.str x t) (h0 : 0 ≤ k) (h1 : k < vs.length) (hfit : vs.length ≤ 100) (h : ∀ x t, Value.str x t ∈ vs → Q (.str x t) s)
    (hs : subscripted slice false (.ref l) (.int k u) = operate [.ref l, .int k u] (getItem (.ref l) (.int k u)) := by with_unfolding_all rfl) :
    wpAny (model prog w) A (subscriptTail value slice (.ref l) (.int k u)) Q E s := by
  have hlt : k.toNat < vs.length := by omega
  obtain ⟨x, t, e⟩ := hv (vs[k.toNat]) (List.getElem_mem hlt)
  refine item_tupleT ht (by omega) (by omega) (StrLaws.seqIndex_nonneg h0 h1) ?_ (h x t (e ▸ List.getElem_mem hlt)) hs
  rw [List.getElem?_eq_getElem hlt, e]
local macro_rules | `(tactic| walk_at "mine plain") => `(tactic| (refine wpAny_call ?_; k_dflt (refine' enterF ?k1 ?k2 ?k3 ?k4 ?k5 ?kA ?kF ?kK ?k6 ?k7 ?k8 ?k9 ?kB ?_ ?c2 ?c3 ?c4 ?c5; (case kA => exact rfl); (case kF => exact rfl); (case kK => assumption); (case k1 => k_asm); (case k2 => k_asm); (case k3 => k_asm); (case k4 => k_asm); (case k5 => k_asm); (case k6 => k_is); (case k7 => k_is); (case k8 => ktr_room); (case k9 => exact BindsTo.of_eq rfl); (case c5 => decide); (case kB => exact locs rfl); (case c2 => exact rfl); (case c3 => exact rfl); (case c4 => exact rfl); k_whole; intro g' L' h' FG' F' N' hR' B' X' T'; (try dsimp only); (try k_lift B'); (try k_fold))))
local macro_rules | `(tactic| walk_at "call ref") => `(tactic| (k_here; (with_reducible show wpAny _ _ (call (Value.ref 188) _) _ _ _); k_dflt (refine' dip_use ?B ?F ?X ?N ?T ?k ?dp ?un ?U ?C ?ne ?I ?p0 ?p1 ?m0 ?m1 ?l ?D ?_; (case B => k_asm); (case F => k_asm); (case X => k_asm); (case N => k_asm); (case T => k_asm); (case k => first | exact rfl | assumption); (case dp => ktr_room); (case un => ktr_units); (case U => k_updF); (case D => first | k_asm | exact ⟨_, _, by assumption⟩); (case C => first | exact Or.inl (by assumption) | exact Or.inr ⟨_, by k_mem, rfl, _, rfl⟩); (case I => k_asm); (case ne => k_ne); (case p0 => omega); (case p1 => omega); (case m0 => omega); (case m1 => omega); (case l => k_asm)); intro r9 t9 h' tk' o' hr0 hr1 hD' F' N'; (try dsimp only at N'); (have hU := hD'); (obtain ⟨_, _, hU⟩ := hU)))
local macro_rules | `(tactic| walk_at "call ref") => `(tactic| (k_here; (with_reducible show wpAny _ _ (call (Value.ref 193) [_, Value.ref 179]) _ _ _); k_dflt (refine' some_use ?B ?F ?X ?N ?T ?k ?dp ?un ?U ?D ?C ?ne ?I ?p0 ?p1 ?l ?t ?v ?v8 ?x2 ?_; (case B => k_asm); (case F => k_asm); (case X => k_asm); (case N => k_asm); (case T => k_asm); (case k => first | exact rfl | assumption); (case dp => ktr_room); (case un => ktr_units); (case U => k_updF); (case D => first | k_asm | exact ⟨_, _, by assumption⟩); (case C => first | exact Or.inl (by assumption) | exact Or.inr ⟨_, by k_mem, rfl, _, rfl⟩); (case I => k_asm); (case ne => k_ne); (case p0 => omega); (case p1 => omega); (case l => k_asm); (case t => exact tupK (by k_in) (by k_is)); (case v => exact lined_all); (case v8 => rfl); (case x2 => exact lined_short)); intro is9 t9 h' tk' o' place9 hi9 ht9 hD' hp9 hq9 F' N'; (have hl9 := join_short lined_short hi9 ht9); (try dsimp only at N'); (have hU := hD'); (obtain ⟨_, _, hU⟩ := hU)))
local macro_rules | `(tactic| walk_at "call ref") => `(tactic| (k_here; (with_reducible show wpAny _ _ (call (Value.ref 193) [_, Value.ref 180]) _ _ _); k_dflt (refine' some_use ?B ?F ?X ?N ?T ?k ?dp ?un ?U ?D ?C ?ne ?I ?p0 ?p1 ?l ?t ?v ?v8 ?x2 ?_; (case B => k_asm); (case F => k_asm); (case X => k_asm); (case N => k_asm); (case T => k_asm); (case k => first | exact rfl | assumption); (case dp => ktr_room); (case un => ktr_units); (case U => k_updF); (case D => first | k_asm | exact ⟨_, _, by assumption⟩); (case C => first | exact Or.inl (by assumption) | exact Or.inr ⟨_, by k_mem, rfl, _, rfl⟩); (case I => k_asm); (case ne => k_ne); (case p0 => omega); (case p1 => omega); (case l => k_asm); (case t => exact tupK (by k_in) (by k_is)); (case v => exact starred_all); (case v8 => rfl); (case x2 => exact starred_short)); intro is9 t9 h' tk' o' place9 hi9 ht9 hD' hp9 hq9 F' N'; (have hl9 := join_short starred_short hi9 ht9); (try dsimp only at N'); (have hU := hD'); (obtain ⟨_, _, hU⟩ := hU)))
local macro_rules | `(tactic| walk_at "subscriptTail Tuple Call ref int") => `(tactic| (k_here; k_dflt (refine' item_menu ?t ?v ?a ?b ?c ?_; (case t => exact News.isTup (by k_asm) (by k_mem)); (case v => repeat (first | exact List.forall_mem_nil _ | refine List.forall_mem_cons.mpr ⟨⟨_, _, rfl⟩, ?_⟩)); (case a => omega); (case b => (simp only [List.length_cons, List.length_nil]; omega)); (case c => exact Nat.le_of_ble_eq_true rfl)); intro x9 t9 hx9))
set_option maxRecDepth 100000 in
set_option maxHeartbeats 8000000 in
theorem stretch_ok {prog : Program} {w : World} {mean : ExcName → Option Value} {mg mb : Str → Option Value}
  {dp un : Nat} {gd : Option (List Code)} {cn : Str} {cs : Scope} {a : Addr} {ccd : Value} {cl : List (Str × Addr)} {outer : List Env} {A₀ : Around} {base h₀ : Heap} {L : Addr} {m : Str → Option Value} {s : Shared} {Q E : Value → Shared → Prop}
  {d lC lS lR : Addr} {o : Obj} {rest : List (Addr × Obj)} {ys : List Value} {aS aR : Array Value} {nS nR : Nat} {cells : List Int} {place : Int} {text : Str}
  (B : Below A₀ base outer h₀) (F : Fr h₀ L s.heap m) (X : (hd.heap_1 w.params).In h₀)
  (NA : Apart h₀ L s.heap [(d, o), (lS, listOf aS nS), (lR, listOf aR nR)] rest)
  (T : Top viewQ (looseW viewQ [Str.ofString "ESCAPES"]) mean mg mb h₀) (hk : cs.kind = .function) (hdp : dp + 5 < recursionLimit) (hun : un + 40 < cLine)
  (hS : LCg.SrcAt h₀ lC ys.toArray rest) (hne : @Ne Nat lC d) (hne1 : @Ne Nat lS d) (hne2 : @Ne Nat lR d) (hne3 : @Ne Nat lS lR) (hI : IntsAre ys cells) (hp0 : 0 ≤ place) (hp1 : place ≤ 800) (hl : cells.length ≤ 60)
  (hsS : aS.size ≤ 100) (hsR : aR.size ≤ 100) (htx : text.length ≤ 1000)
  (hD : FeedIs prog w lC lS lR place text o)
  (hret1 : ∀ (p : Str) t h' tk' o' (place' : Int), FeedIs prog w lC lS lR place' (text ++ p) o' → Plain p → place ≤ place' → place' ≤ place + 10 → Fr h₀ L h' m →
    News h₀ L h' [(d, o'), (lS, listOf (aS.push (.int text.length t)) (nS + 1)), (lR, listOf aR nR)] → News h₀ L h' rest → Q .none { s with heap := h', toks := tk' })
  (hret2 : ∀ (p : Str) t t1 t2 h' tk' o' (place' e : Int) (tA : Addr), FeedIs prog w lC lS lR place' (text ++ p) o' → Star p → place ≤ place' → place' ≤ place + 10 → Fr h₀ L h' m →
    News h₀ L h' [(d, o'), (lS, listOf (aS.push (.int text.length t)) (nS + 1)), (lR, listOf (aR.push (.ref tA)) (nR + 1)), (tA, pairOf text.length e t1 t2)] → e = text.length + p.length → @Ne Nat tA d → @Ne Nat tA lS → @Ne Nat tA lR → News h₀ L h' rest → Q .none { s with heap := h', toks := tk' }) :
  wpAny (model prog w) (ktrTop dp un gd cn cs L a ccd cl outer) (call (.ref 200) [.ref d]) Q E s := by
  have _k : hd.heap_1 = hd.heap_1 ∧ PySem.Challenge.rw_qd0009_01 = PySem.Challenge.rw_qd0009_01 := by
    k_fill
    exact ⟨rfl, rfl⟩
  clear _k
  obtain ⟨t3, t4, hD⟩ := hD
  walk_at "mine plain"
  have hCl := src_in hS (by assumption) (by assumption)
  repeat' (first | (k_unfold; (try dsimp only)) | (k_end; wrow_close) | walk1 | (dsimp only; walk1) | (leave1; walk_say "STEP leave1"; try dsimp only) | fail "no step")
  all_goals (rename_i kF kN kT kX NR9)
  iterate 5 (exact hret1 _ _ _ _ _ _ ⟨_, _, by assumption⟩ (Or.inl (by simp [blanks])) (by omega) (by omega) kF (news_sub kN (by lcg_sub)) NR9)
  · exact hret1 _ _ _ _ _ _ ⟨_, _, by assumption⟩ (Or.inr ⟨_, by assumption, by assumption, rfl⟩) (by omega) (by omega) kF (news_sub kN (by lcg_sub)) NR9
  all_goals exact hret2 _ _ _ _ _ _ _ _ _ _ ⟨_, _, by assumption⟩ ⟨_, by assumption, by assumption, by first | exact Or.inl rfl | exact Or.inr rfl⟩ (by omega) (by omega) kF (news_sub kN (by lcg_sub)) (by simp only [Str.length_append]) (by k_ne) (by k_ne) (by k_ne) NR9
end Mine
end
/-! L0 -/
section
open PySem PySem.W PyProof.Rows PySem.Calls
namespace Mine
theorem off_L0 : True := by
  w_top off
  trivial
/-! plain text facts -/
theorem cps_size (x : Str) : x.cps.toList.length = x.length := by
  show x.cps.toList.length = x.cps.size
  simp
theorem cps_get {x : Str} {i : Nat} (h : i < x.length) : ∃ c, x.cps.toList[i]? = some c := by
  rw [← cps_size] at h
  exact ⟨_, List.getElem?_eq_getElem h⟩
section
variable {prog : Program} {w : World} {A : Around} {E : Value → Shared → Prop} {s : Shared} {x y : Str} {t u v z : Tok} {value slice : PySem.Expr}
theorem item_char {i : Int} {Q : Value → Shared → Prop} (h0 : 0 ≤ i) (h1 : i < x.length) (hf : x.length ≤ 1000)
    (h : ∀ c t k, x.cps.toList[i.toNat]? = some c → Q (.str ⟨#[c]⟩ t) { s with toks := k })
    (hs : subscripted slice false (.str x t) (.int i u) = operate [.str x t, .int i u] (getItem (.str x t) (.int i u)) := by with_unfolding_all rfl)
    (ht : ∀ r, letTemporaryGo value (.str x t) r = pure () := by intro _; with_unfolding_all rfl) :
    wpAny (model prog w) A (subscriptTail value slice (.str x t) (.int i u)) Q E s := by
  obtain ⟨c, hc⟩ := cps_get (x := x) (i := i.toNat) (by omega)
  have e : Txt.item x i = ⟨#[c]⟩ := item_meets h0 (by rw [← Array.getElem?_toList]; exact hc)
  refine item_str ?_ (by omega) h1 (fun _ => e ▸ h c _ _ hc) hs ht
  unfold fitsSsize
  simp
  omega
theorem in_char {c : Nat} {Q : Value → Shared → Prop} (h : Q (.bool (decide (c ∈ x.cps.toList))) s) : wpAny (model prog w) A (compareOp .In (.str ⟨#[c]⟩ u) (.str x t)) Q E s := by
  refine SB.contains ?_
  show Q (.bool !(Builtin.Str.occurrences x ⟨#[c]⟩ 0 x.length 1).isEmpty) s
  rw [StrLaws.found_one]
  exact h
end
theorem eq_char (c d : Nat) : ((⟨#[c]⟩ : Str) == ⟨#[d]⟩) = decide (c = d) := by
  by_cases h : c = d
  · subst h; simp
  · simp only [h, decide_false]
    refine beq_eq_false_iff_ne.mpr fun e => h ?_
    have := congrArg Str.cps e
    simpa using this
theorem sliceIdx_clip (len : Nat) {i j : Int} (h : (len : Int) ≤ j) : Builtin.Str.strSliceIndices (some i) (some j) 1 len = Builtin.Str.strSliceIndices (some i) (some (len : Int)) 1 len := by
  unfold Builtin.Str.strSliceIndices
  have h1 : ¬ j < 0 := by omega
  have h2 : ¬ (len : Int) < 0 := by omega
  simp only [h1, h2, if_false]
  have h3 : min j (len : Int) = (len : Int) := Int.min_eq_right h
  simp only [h3, Int.min_self, show (1 : Int) > 0 by decide, if_true]
theorem slice_two (x : Str) {i : Int} (h0 : 0 ≤ i) (h1 : i < x.length) :
    (Txt.slice x (some i) (some (i + 2)) == (⟨#[47, 42]⟩ : Str)) = true ↔ x.cps.toList[i.toNat]? = some 47 ∧ x.cps.toList[i.toNat + 1]? = some 42 := by
  have e : Txt.slice x (some i) (some (i + 2)) = ⟨((x.cps.toList.drop i.toNat).take 2).toArray⟩ := by
    by_cases h2 : i + 2 ≤ x.length
    · have := beq_iff_eq.mp (slice_closesL (x := x) h0 (by omega) h2)
      rw [this]
      congr 3
      omega
    · have h3 : (x.length : Int) ≤ i + 2 := by omega
      have a : Txt.slice x (some i) (some (i + 2)) = Txt.slice x (some i) (some (x.length : Int)) := by
        unfold Txt.slice
        rw [sliceIdx_clip _ h3]
      rw [a, beq_iff_eq.mp (slice_closesL (x := x) h0 (by omega) (Int.le_refl _))]
      congr 1
      have hl : (x.cps.toList.drop i.toNat).length ≤ 1 := by rw [List.length_drop, cps_size]; omega
      rw [List.take_of_length_le (by omega), List.take_of_length_le (by omega)]
  rw [e, beq_iff_eq]
  constructor
  · intro h
    have h := congrArg (fun z : Str => z.cps.toList) h
    simp only at h
    constructor
    · have := congrArg (·[0]?) h
      simpa [List.getElem?_take, List.getElem?_drop] using this
    · have := congrArg (·[1]?) h
      simpa [List.getElem?_take, List.getElem?_drop] using this
  · rintro ⟨ha, hb⟩
    have : (x.cps.toList.drop i.toNat).take 2 = [47, 42] := by
      refine List.ext_getElem? fun n => ?_
      match n with
      | 0 => simpa [List.getElem?_take, List.getElem?_drop] using ha
      | 1 => simpa [List.getElem?_take, List.getElem?_drop] using hb
      | n + 2 => simp [List.getElem?_take]; omega
    rw [this]
/-! find with both bounds -/
open Builtin Builtin.Str StrLaws in
theorem occ_head_in (x y : Str) (lo hi limit : Nat) (hl : 1 ≤ limit) :
    (occurrences x y lo hi limit = [] ∧ ∀ i, lo ≤ i → ¬ At x y hi i) ∨
    ∃ i r, occurrences x y lo hi limit = i :: r ∧ lo ≤ i ∧ At x y hi i ∧ ∀ k, lo ≤ k → k < i → ¬ At x y hi k := by
  rw [occ_eq]
  rcases occ_first x y hi limit hl (List.range' lo (hi + 1 - lo)) lo (fun i hi => by have := List.mem_range'_1.mp hi; omega) with ⟨h0, hn⟩ | ⟨pre, a, post, e, h0, ha, hn⟩
  · exact .inl ⟨by rw [h0], fun i hlo hi => hn i (by have := hi.1; rw [List.mem_range'_1]; omega) hi⟩
  · have hs := range'_split_from e
    refine .inr ⟨a, ((forIn (List.range' lo (hi + 1 - lo)) ((#[] : Array Nat), lo) (occBody x y hi limit)).run.fst.toList).tail, ?_, hs.1, ha, fun k hk0 hk => hn k (hs.2 k hk0 hk)⟩
    generalize (forIn (List.range' lo (hi + 1 - lo)) ((#[] : Array Nat), lo) (occBody x y hi limit)).run.fst = arr at h0
    have h1 : arr.toList[0]? = some a := by simpa using h0
    cases hL : arr.toList with
    | nil => rw [hL] at h1; cases h1
    | cons b t => rw [hL] at h1; simp at h1; rw [h1]; rfl
open Builtin Builtin.Str in
def find4 (x y : Str) (i e : Int) : Int := match occurrences x y (fromIndex x.length i) (min (fromIndex x.length e) x.length) 1 with | k :: _ => (k : Int) | [] => -1
open Builtin Builtin.Str in
theorem gives_find4 (x y : Str) (i e : Int) (t u v z : Tok) : Gives («str.find» ⟨[.str x t, .str y u, .int i v, .int e z], []⟩) (.int (find4 x y i e)) := by
  unfold find4
  show Gives (match occurrences x y (fromIndex x.length i) (min (fromIndex x.length e) x.length) 1 with | k :: _ => retInt k | [] => (do rule "str.find.not-found"; retInt (-1))) _
  cases occurrences x y (fromIndex x.length i) (min (fromIndex x.length e) x.length) 1 with
  | nil => exact .rule (.of_eq rfl)
  | cons k _ => exact .of_eq rfl
open Builtin in
theorem call_find4 {prog : Program} {w : World} {A : Around} {E : Value → Shared → Prop} {s : Shared} {x y : Str} {t u v z : Tok} {i e : Int} {Q : Value → Shared → Prop}
    (hq : Q (.int (find4 x y i e) s.toks) { s with toks := s.toks + 1 }) : wpAny (model prog w) A (call (.builtin "str.find") [.str x t, .str y u, .int i v, .int e z]) Q E s :=
  call_gives F.slot_str_find (typeIs_str _ _ _) F.entry_str_find (F.args_str_find_4 _ _ _ _) (gives_find4 x y i e t u v z) hq
/-- a remark's end -/
def At2 (l : List Nat) (i : Nat) : Prop := l[i]? = some 42 ∧ l[i + 1]? = some 47
theorem at_at2 (x : Str) {hi i : Nat} (hh : hi ≤ x.length) : StrLaws.At x ⟨#[42, 47]⟩ hi i ↔ i + 2 ≤ hi ∧ At2 x.cps.toList i := by
  unfold StrLaws.At At2
  rw [StrLaws.subAt_eq]
  have e : (⟨#[42, 47]⟩ : Str).length = 2 := rfl
  rw [e]
  constructor
  · rintro ⟨h, h1⟩
    have h1 : (x.cps.toList.drop i).take 2 = [42, 47] := by simpa using h1
    refine ⟨h, ?_, ?_⟩
    · have := congrArg (·[0]?) h1
      simpa [List.getElem?_take, List.getElem?_drop] using this
    · have := congrArg (·[1]?) h1
      simpa [List.getElem?_take, List.getElem?_drop] using this
  · rintro ⟨h, ha, hb⟩
    refine ⟨h, ?_⟩
    have : (x.cps.toList.drop i).take 2 = [42, 47] := by
      refine List.ext_getElem? fun n => ?_
      match n with
      | 0 => simpa [List.getElem?_take, List.getElem?_drop] using ha
      | 1 => simpa [List.getElem?_take, List.getElem?_drop] using hb
      | n + 2 => simp [List.getElem?_take]; omega
    rw [this]
    simp
theorem find4_spec (x : Str) {i e : Int} (h0 : 0 ≤ i) (h1 : 0 ≤ e) (h2 : e ≤ x.length) :
    (find4 x ⟨#[42, 47]⟩ i e = -1 ∧ ∀ k, i.toNat ≤ k → k + 2 ≤ e.toNat → ¬ At2 x.cps.toList k) ∨
    ∃ k : Nat, find4 x ⟨#[42, 47]⟩ i e = (k : Int) ∧ i.toNat ≤ k ∧ k + 2 ≤ e.toNat ∧ At2 x.cps.toList k ∧ ∀ j, i.toNat ≤ j → j < k → ¬ At2 x.cps.toList j := by
  have e1 : fromIndex x.length i = i.toNat := by
    unfold fromIndex
    have : ¬ i < 0 := by omega
    simp only [this, if_false]
    omega
  have e2 : min (fromIndex x.length e) x.length = e.toNat := by
    unfold fromIndex
    have : ¬ e < 0 := by omega
    simp only [this, if_false]
    omega
  unfold find4
  rw [e1, e2]
  have hh : e.toNat ≤ x.length := by omega
  rcases occ_head_in x ⟨#[42, 47]⟩ i.toNat e.toNat 1 (Nat.le_refl 1) with ⟨ho, hn⟩ | ⟨k, r, ho, hlo, hk, hn⟩
  · rw [ho]
    exact .inl ⟨rfl, fun k hk1 hk2 ha => hn k hk1 ((at_at2 x hh).mpr ⟨hk2, ha⟩)⟩
  · rw [ho]
    obtain ⟨a, b⟩ := (at_at2 x hh).mp hk
    exact .inr ⟨k, rfl, hlo, a, b, fun j hj1 hj2 ha => hn j hj1 hj2 ((at_at2 x hh).mpr ⟨by omega, ha⟩)⟩
end Mine
end
/-! L1 -/
section
open PySem PySem.W PyProof.Rows PySem.Calls
namespace Mine
theorem off_L1 : True := by
  w_top off
  trivial
/-- space, tab, return, line's end -/
def blankCps : List Nat := [32, 9, 13, 10]
/-- from place s on, up to the told end e, what skip passes ends at r; f: a remark between stars is cut there -/
inductive Skips (l : List Nat) (e : Nat) : Nat → Nat → Bool → Prop
  | done {s : Nat} : e ≤ s → Skips l e s s false
  | blank {s c r : Nat} {f : Bool} : s < e → l[s]? = some c → c ∈ blankCps → Skips l e (s + 1) r f → Skips l e s r f
  | line {s n r : Nat} {f : Bool} : s < e → l[s]? = some 37 → s < n → n ≤ e → (∀ i, s ≤ i → i < n → l[i]? ≠ some 10) → (n = e ∨ l[n]? = some 10) → Skips l e n r f → Skips l e s r f
  | star {s c r : Nat} {f : Bool} : s < e → l[s]? = some 47 → l[s + 1]? = some 42 → s + 2 ≤ c → c + 2 ≤ e → At2 l c → (∀ i, s + 2 ≤ i → i < c → ¬ At2 l i) → Skips l e (c + 2) r f → Skips l e s r f
  | cut {s : Nat} : s < e → l[s]? = some 47 → l[s + 1]? = some 42 → (∀ i, s + 2 ≤ i → i + 2 ≤ e → ¬ At2 l i) → Skips l e s s true
  | sign {s c : Nat} : s < e → l[s]? = some c → c ∉ blankCps → c ≠ 37 → ¬ (l[s]? = some 47 ∧ l[s + 1]? = some 42) → Skips l e s s false
theorem not_blank37 : 37 ∉ blankCps := by decide
theorem not_blank47 : 47 ∉ blankCps := by decide
section
variable {l : List Nat} {e s r : Nat} {f : Bool}
theorem Skips.done_inv (h : Skips l e s r f) (hs : e ≤ s) : r = s ∧ f = false := by
  cases h with
  | done _ => exact ⟨rfl, rfl⟩
  | _ => omega
theorem Skips.blank_inv {c : Nat} (h : Skips l e s r f) (hs : s < e) (hc : l[s]? = some c) (hb : c ∈ blankCps) : Skips l e (s + 1) r f := by
  cases h with
  | done _ => omega
  | blank _ _ _ k => exact k
  | line _ h1 _ _ _ _ _ => rw [hc] at h1; cases h1; exact absurd hb not_blank37
  | star _ h1 _ _ _ _ _ _ => rw [hc] at h1; cases h1; exact absurd hb not_blank47
  | cut _ h1 _ _ => rw [hc] at h1; cases h1; exact absurd hb not_blank47
  | sign _ h1 h2 _ _ => rw [hc] at h1; cases h1; exact absurd hb h2
theorem Skips.line_inv {n : Nat} (h : Skips l e s r f) (hs : s < e) (hc : l[s]? = some 37) (h1 : s < n) (h2 : n ≤ e) (h3 : ∀ i, s ≤ i → i < n → l[i]? ≠ some 10) (h4 : n = e ∨ l[n]? = some 10) : Skips l e n r f := by
  cases h with
  | done _ => omega
  | blank _ k1 k2 _ => rw [hc] at k1; cases k1; exact absurd k2 not_blank37
  | @line _ n' _ _ _ _ k1 k2 k3 k4 k =>
    have : n' = n := by
      rcases Nat.lt_trichotomy n' n with hlt | heq | hgt
      · rcases k4 with rfl | k4
        · omega
        · exact absurd k4 (h3 n' (by omega) hlt)
      · exact heq
      · rcases h4 with rfl | h4
        · omega
        · exact absurd h4 (k3 n (by omega) hgt)
    exact this ▸ k
  | star _ k1 _ _ _ _ _ _ => rw [hc] at k1; cases k1
  | cut _ k1 _ _ => rw [hc] at k1; cases k1
  | sign _ k1 _ k2 _ => rw [hc] at k1; cases k1; exact absurd rfl k2
theorem Skips.star_inv {c : Nat} (h : Skips l e s r f) (hs : s < e) (hc : l[s]? = some 47 ∧ l[s + 1]? = some 42) (h1 : s + 2 ≤ c) (h2 : c + 2 ≤ e) (h3 : At2 l c) (h4 : ∀ i, s + 2 ≤ i → i < c → ¬ At2 l i) : Skips l e (c + 2) r f := by
  cases h with
  | done _ => omega
  | blank _ k1 k2 _ => rw [hc.1] at k1; cases k1; exact absurd k2 not_blank47
  | line _ k1 _ _ _ _ _ => rw [hc.1] at k1; cases k1
  | @star _ c' _ _ _ _ _ k1 k2 k3 k4 k =>
    have : c' = c := by
      rcases Nat.lt_trichotomy c' c with hlt | heq | hgt
      · exact absurd k3 (h4 c' k1 hlt)
      · exact heq
      · exact absurd h3 (k4 c h1 hgt)
    exact this ▸ k
  | cut _ _ _ k => exact absurd h3 (k c h1 h2)
  | sign _ _ _ _ k => exact absurd hc k
theorem Skips.cut_inv (h : Skips l e s r f) (hs : s < e) (hc : l[s]? = some 47 ∧ l[s + 1]? = some 42) (h1 : ∀ i, s + 2 ≤ i → i + 2 ≤ e → ¬ At2 l i) : r = s ∧ f = true := by
  cases h with
  | done _ => omega
  | blank _ k1 k2 _ => rw [hc.1] at k1; cases k1; exact absurd k2 not_blank47
  | line _ k1 _ _ _ _ _ => rw [hc.1] at k1; cases k1
  | star _ _ _ k1 k2 k3 _ _ => exact absurd k3 (h1 _ k1 k2)
  | cut _ _ _ _ => exact ⟨rfl, rfl⟩
  | sign _ _ _ _ k => exact absurd hc k
theorem Skips.sign_inv {c : Nat} (h : Skips l e s r f) (hs : s < e) (hc : l[s]? = some c) (hb : c ∉ blankCps) (h1 : c ≠ 37) (h2 : ¬ (l[s]? = some 47 ∧ l[s + 1]? = some 42)) : r = s ∧ f = false := by
  cases h with
  | done _ => omega
  | blank _ k1 k2 _ => rw [hc] at k1; cases k1; exact absurd k2 hb
  | line _ k1 _ _ _ _ _ => rw [hc] at k1; cases k1; exact absurd rfl h1
  | star _ k1 k2 _ _ _ _ _ => exact absurd ⟨k1, k2⟩ h2
  | cut _ k1 k2 _ => exact absurd ⟨k1, k2⟩ h2
  | sign _ _ _ _ _ => exact ⟨rfl, rfl⟩
end
end Mine
end
/-! L2 -/
section
open PySem PySem.W PyProof.Rows PySem.Calls
namespace Mine
theorem off_L2 : True := by
  w_top off
  trivial
theorem any_nl (c : Nat) : (List.any [Str.ofString "", Str.ofString "\n"] fun x => x == ⟨#[c]⟩) = decide (c = 10) := by
  have e1 : Str.ofString "" = ⟨#[]⟩ := by decide +kernel
  have e2 : Str.ofString "\n" = ⟨#[10]⟩ := by decide +kernel
  rw [e1, e2]
  have h1 : ((⟨#[]⟩ : Str) == ⟨#[c]⟩) = false := by
    refine beq_eq_false_iff_ne.mpr fun h => ?_
    have := congrArg (fun z : Str => z.cps.size) h
    simp at this
  simp only [List.any_cons, List.any_nil, h1, eq_char, Bool.false_or, Bool.or_false]
  exact decide_eq_decide.mpr eq_comm
section
variable {l : List Nat} {e sp sq : Int} {r : Nat} {f : Bool} {c : Nat}
theorem blank_end (hP : 0 ≤ sp) (hS : Skips l e.toNat sp.toNat r f) (h : sp < e) (hc : l[sp.toNat]? = some c) (hb : c ∈ blankCps) :
    (0 ≤ sp + 1 ∧ Skips l e.toNat (sp + 1).toNat r f) ∧ (e - (sp + 1)).toNat < (e - sp).toNat := by
  have := hS.blank_inv (by omega) hc hb
  rw [show sp.toNat + 1 = (sp + 1).toNat by omega] at this
  exact ⟨⟨by omega, this⟩, by omega⟩
theorem line_end (hP : 0 ≤ sp) (hS : Skips l e.toNat sp.toNat r f) (h : sp < e) (hc : l[sp.toNat]? = some c) (h37 : c = 37) (hQ1 : sp ≤ sq) (hQ2 : sq ≤ e)
    (hQ3 : ∀ i : Nat, sp.toNat ≤ i → i < sq.toNat → l[i]? ≠ some 10) (hx : ¬ sq < e ∨ l[sq.toNat]? = some 10) : (0 ≤ sq ∧ Skips l e.toNat sq.toNat r f) ∧ (e - sq).toNat < (e - sp).toNat := by
  subst h37
  have hlt : sp < sq := by
    rcases hx with hx | hx
    · omega
    · rcases Int.lt_or_eq_of_le hQ1 with h1 | h1
      · exact h1
      · rw [← h1, hc] at hx
        cases hx
  refine ⟨⟨by omega, hS.line_inv (by omega) hc (by omega) (by omega) hQ3 ?_⟩, by omega⟩
  rcases hx with hx | hx
  · exact .inl (by omega)
  · exact .inr hx
theorem nl_step (hQ1 : sp ≤ sq) (hP : 0 ≤ sp) (hQ3 : ∀ i : Nat, sp.toNat ≤ i → i < sq.toNat → l[i]? ≠ some 10) (hc : l[sq.toNat]? = some c) (hn : c ≠ 10) (h : sq < e) :
    (sp ≤ sq + 1 ∧ sq + 1 ≤ e ∧ ∀ i : Nat, sp.toNat ≤ i → i < (sq + 1).toNat → l[i]? ≠ some 10) ∧ (e - (sq + 1)).toNat < (e - sq).toNat := by
  refine ⟨⟨by omega, by omega, fun i h1 h2 hi => ?_⟩, by omega⟩
  by_cases h3 : i < sq.toNat
  · exact hQ3 i h1 h3 hi
  · rw [show i = sq.toNat by omega, hc] at hi
    exact hn (Option.some.inj hi)
theorem star_end {k : Nat} (hP : 0 ≤ sp) (hS : Skips l e.toNat sp.toNat r f) (h : sp < e) (hc : l[sp.toNat]? = some 47 ∧ l[sp.toNat + 1]? = some 42)
    (h1 : (sp + 2).toNat ≤ k) (h2 : k + 2 ≤ e.toNat) (h3 : At2 l k) (h4 : ∀ j, (sp + 2).toNat ≤ j → j < k → ¬ At2 l j) :
    (0 ≤ (k : Int) + 2 ∧ Skips l e.toNat ((k : Int) + 2).toNat r f) ∧ (e - ((k : Int) + 2)).toNat < (e - sp).toNat := by
  have e2 : (sp + 2).toNat = sp.toNat + 2 := by omega
  rw [e2] at h1 h4
  have := hS.star_inv (by omega) hc h1 h2 h3 h4
  rw [show k + 2 = ((k : Int) + 2).toNat by omega] at this
  exact ⟨⟨by omega, this⟩, by omega⟩
theorem done_end (hS : Skips l e.toNat sp.toNat r f) (h : ¬ sp < e) : r = sp.toNat ∧ f = false := hS.done_inv (by omega)
theorem sign_end (hP : 0 ≤ sp) (hS : Skips l e.toNat sp.toNat r f) (h : sp < e) (hc : l[sp.toNat]? = some c) (hb : ¬ c ∈ blankCps) (h37 : ¬ c = 37) (h2 : ¬ (l[sp.toNat]? = some 47 ∧ l[sp.toNat + 1]? = some 42)) : r = sp.toNat ∧ f = false :=
  hS.sign_inv (by omega) hc hb h37 h2
theorem cut_end (hP : 0 ≤ sp) (hS : Skips l e.toNat sp.toNat r f) (h : sp < e) (hc : l[sp.toNat]? = some 47 ∧ l[sp.toNat + 1]? = some 42) (h1 : ∀ k, (sp + 2).toNat ≤ k → k + 2 ≤ e.toNat → ¬ At2 l k) : r = sp.toNat ∧ f = true :=
  hS.cut_inv (by omega) hc fun i hi hj => h1 i (by omega) hj
end
/-- what find of a remark's end gives -/
def FindIs (l : List Nat) (i e c : Int) : Prop := (c = -1 ∧ ∀ k, i.toNat ≤ k → k + 2 ≤ e.toNat → ¬ At2 l k) ∨ ∃ k : Nat, c = (k : Int) ∧ i.toNat ≤ k ∧ k + 2 ≤ e.toNat ∧ At2 l k ∧ ∀ j, i.toNat ≤ j → j < k → ¬ At2 l j
theorem find_star {prog : Program} {w : World} {A : Around} {E : Value → Shared → Prop} {s : Shared} {x : Str} {t u v z : Tok} {i e : Int} {Q : Value → Shared → Prop} (h0 : 0 ≤ i) (h1 : 0 ≤ e) (h2 : e ≤ x.length)
    (h : ∀ c t' k', FindIs x.cps.toList i e c → Q (.int c t') { s with toks := k' }) : wpAny (model prog w) A (call (.builtin "str.find") [.str x t, .str (Str.ofString "*/") u, .int i v, .int e z]) Q E s := by
  refine call_find4 (h _ _ _ ?_)
  have e1 : Str.ofString "*/" = ⟨#[42, 47]⟩ := by decide +kernel
  rw [e1]
  exact find4_spec x h0 h1 h2
theorem FindIs.neg {l : List Nat} {i e c : Int} (h : FindIs l i e c) (hc : c < 0) : ∀ k, i.toNat ≤ k → k + 2 ≤ e.toNat → ¬ At2 l k := by
  rcases h with ⟨_, h⟩ | ⟨k, rfl, _⟩
  · exact h
  · omega
theorem FindIs.pos {l : List Nat} {i e c : Int} (h : FindIs l i e c) (hc : ¬ c < 0) : ∃ k : Nat, c = (k : Int) ∧ i.toNat ≤ k ∧ k + 2 ≤ e.toNat ∧ At2 l k ∧ ∀ j, i.toNat ≤ j → j < k → ¬ At2 l j := by
  rcases h with ⟨rfl, _⟩ | h
  · omega
  · exact h
theorem sign_end2 {l : List Nat} {e sp : Int} {r : Nat} {f : Bool} {c c' : Nat} {b : Bool} (hP : 0 ≤ sp) (hS : Skips l e.toNat sp.toNat r f) (h : sp < e) (hb : ¬ c ∈ blankCps) (hc : l[sp.toNat]? = some c) (h37 : ¬ c' = 37) (hc' : l[sp.toNat]? = some c')
    (h2 : b = true ↔ l[sp.toNat]? = some 47 ∧ l[sp.toNat + 1]? = some 42) (hf : b = false) : r = sp.toNat ∧ f = false := by
  have : c = c' := by rw [hc] at hc'; exact Option.some.inj hc'
  subst this
  exact sign_end hP hS h hc hb h37 fun hh => by rw [h2.mpr hh] at hf; cases hf
theorem star_end2 {l : List Nat} {e sp q : Int} {r : Nat} {f : Bool} {b : Bool} (hP : 0 ≤ sp) (hS : Skips l e.toNat sp.toNat r f) (h : sp < e) (h2 : b = true ↔ l[sp.toNat]? = some 47 ∧ l[sp.toNat + 1]? = some 42) (hb : b = true)
    (hf : FindIs l (sp + 2) e q) (hq : ¬ q < 0) : (0 ≤ q + 2 ∧ Skips l e.toNat (q + 2).toNat r f) ∧ (e - (q + 2)).toNat < (e - sp).toNat := by
  obtain ⟨k, rfl, h3, h4, h5, h6⟩ := hf.pos hq
  exact star_end hP hS h (h2.mp hb) h3 h4 h5 h6
theorem cut_end2 {l : List Nat} {e sp q : Int} {r : Nat} {f : Bool} {b : Bool} (hP : 0 ≤ sp) (hS : Skips l e.toNat sp.toNat r f) (h : sp < e) (h2 : b = true ↔ l[sp.toNat]? = some 47 ∧ l[sp.toNat + 1]? = some 42) (hb : b = true)
    (hf : FindIs l (sp + 2) e q) (hq : q < 0) : r = sp.toNat ∧ f = true := cut_end hP hS h (h2.mp hb) (hf.neg hq)
end Mine
end
/-! S2 -/
section
open PySem PySem.W PyProof.Rows PySem.Calls
namespace Mine
theorem off_S2 : True := by
  w_top off
  trivial
local macro_rules | `(tactic| walk_at "pad 0") => `(tactic| skip)
local macro_rules | `(tactic| walk_at "pad 1") => `(tactic| skip)
local macro_rules | `(tactic| walk_at "mine plain") => `(tactic| (refine wpAny_call ?_; k_dflt (refine' enterF ?k1 ?k2 ?k3 ?k4 ?k5 ?kA ?kF ?kK ?k6 ?k7 ?k8 ?k9 ?kB ?_ ?c2 ?c3 ?c4 ?c5; (case kA => exact rfl); (case kF => exact rfl); (case kK => assumption); (case k1 => k_asm); (case k2 => k_asm); (case k3 => k_asm); (case k4 => k_asm); (case k5 => k_asm); (case k6 => k_is); (case k7 => k_is); (case k8 => ktr_room); (case k9 => exact BindsTo.of_eq rfl); (case c5 => decide); (case kB => exact locs rfl); (case c2 => exact rfl); (case c3 => exact rfl); (case c4 => exact rfl); k_whole; intro g' L' h' FG' F' N' hR' B' X' T'; (try dsimp only); (try k_lift B'); (try k_fold))))

theorem in_blanks {prog : Program} {w : World} {A : Around} {E : Value → Shared → Prop} {s : Shared} {c : Nat} {t u : Tok} {Q : Value → Shared → Prop} (h : Q (.bool (decide (c ∈ blankCps))) s) : wpAny (model prog w) A (compareOp .In (.str ⟨#[c]⟩ u) (.str (Str.ofString " \t\r\n") t)) Q E s := by
  refine in_char ?_
  have e : (Str.ofString " \t\r\n").cps.toList = blankCps := by decide +kernel
  rw [e]
  exact h
theorem eq37 {prog : Program} {w : World} {A : Around} {E : Value → Shared → Prop} {s : Shared} {c : Nat} {t u : Tok} {Q : Value → Shared → Prop} (h : Q (.bool (decide (c = 37))) s) : wpAny (model prog w) A (compareOp .Eq (.str ⟨#[c]⟩ u) (.str (Str.ofString "%") t)) Q E s := by
  refine eq_str ?_
  have e : Str.ofString "%" = ⟨#[37]⟩ := by decide +kernel
  rw [e, eq_char]
  exact h
open Classical in
theorem eq_star {prog : Program} {w : World} {A : Around} {E : Value → Shared → Prop} {s : Shared} {x : Str} {i j : Int} {t u : Tok} {Q : Value → Shared → Prop} (h0 : 0 ≤ i) (h1 : i < x.length) (hj : j = i + 2)
    (h : ∀ b : Bool, (b = true ↔ x.cps.toList[i.toNat]? = some 47 ∧ x.cps.toList[i.toNat + 1]? = some 42) → Q (.bool b) s) : wpAny (model prog w) A (compareOp .Eq (.str (Txt.slice x (some i) (some j)) u) (.str (Str.ofString "/*") t)) Q E s := by
  subst hj
  refine eq_str (h _ ?_)
  have e : Str.ofString "/*" = ⟨#[47, 42]⟩ := by decide +kernel
  rw [e]
  exact slice_two x h0 h1
local macro_rules | `(tactic| walk_at "subscriptTail") => `(tactic| (k_here; (with_reducible show wpAny _ _ (subscriptTail _ _ (Value.str _ _) (Value.int _ _)) _ _ _); k_dflt (refine' item_char ?a ?b ?c ?_; (case a => omega); (case b => first | omega | l_fact); (case c => assumption)); intro c9 t9 k9 hc9))
local macro_rules | `(tactic| walk_at "compareOp In str str") => `(tactic| (k_here; (with_reducible show wpAny _ _ (compareOp _ (Value.str (Str.mk _) _) _) _ _ _); k_dflt (refine in_blanks ?_)))
local macro_rules | `(tactic| walk_at "compareOp Eq str str") => `(tactic| (k_here; (with_reducible show wpAny _ _ (compareOp _ (Value.str (Str.mk _) _) (Value.str (Str.ofString "%") _)) _ _ _); refine eq37 ?_))
local macro_rules | `(tactic| walk_at "compareOp Eq str str") => `(tactic| (k_here; (with_reducible show wpAny _ _ (compareOp _ (Value.str (Txt.slice _ _ _) _) _) _ _ _); (refine' eq_star ?a ?b ?c ?_; (case a => omega); (case b => first | omega | l_fact); (case c => first | rfl | omega)); intro b9 hb9))
abbrev scanD (w : World) (text : Str) (spot e : Int) (k1 k2 k3 k4 t1 t2 t3 t4 : Tok) : Obj :=
  dictOf [⟨PyData.keyHash w.params (Str.ofString "text"), .str (Str.ofString "text") k1, .str text t1⟩, ⟨PyData.keyHash w.params (Str.ofString "spot"), .str (Str.ofString "spot") k2, .int spot t2⟩,
    ⟨PyData.keyHash w.params (Str.ofString "end"), .str (Str.ofString "end") k3, .int e t3⟩, ⟨PyData.keyHash w.params (Str.ofString "depth"), .str (Str.ofString "depth") k4, .int 3 t4⟩] 4
set_option maxRecDepth 100000 in
set_option maxHeartbeats 8000000 in
theorem sign_ok {prog : Program} {w : World} {mean : ExcName → Option Value} {mg mb : Str → Option Value}
  {dp un : Nat} {gd : Option (List Code)} {cn : Str} {cs : Scope} {a : Addr} {ccd : Value} {cl : List (Str × Addr)} {outer : List Env} {A₀ : Around} {base h₀ : Heap} {L : Addr} {m : Str → Option Value} {s : Shared} {Q E : Value → Shared → Prop}
  {x dx : Addr} {rest : List (Addr × Obj)} {text : Str} {b e : Int} {k1 k2 k3 k4 t1 t2 t3 t4 : Tok}
  (B : Below A₀ base outer h₀) (F : Fr h₀ L s.heap m) (X : (hd.heap_1 w.params).In h₀)
  (NA : Apart h₀ L s.heap [(x, instObj 174 dx), (dx, scanD w text b e k1 k2 k3 k4 t1 t2 t3 t4)] rest)
  (T : Top viewQ (looseW viewQ [Str.ofString "ESCAPES"]) mean mg mb h₀) (hk : cs.kind = .function) (hdp : dp + 2 < recursionLimit) (hun : un + 20 < cLine)
  (hne : @Ne Nat x dx) (htx : text.length ≤ 1000) (hb : 0 ≤ b) (he : e ≤ text.length) (he0 : 0 ≤ e)
  (hret1 : b < e → ∀ c t h' tk', text.cps.toList[b.toNat]? = some c → Fr h₀ L h' m → News h₀ L h' [(x, instObj 174 dx), (dx, scanD w text b e k1 k2 k3 k4 t1 t2 t3 t4)] → News h₀ L h' rest → Q (.str ⟨#[c]⟩ t) { s with heap := h', toks := tk' })
  (hret2 : ¬ b < e → ∀ t h' tk', Fr h₀ L h' m → News h₀ L h' [(x, instObj 174 dx), (dx, scanD w text b e k1 k2 k3 k4 t1 t2 t3 t4)] → News h₀ L h' rest → Q (.str (Str.ofString "") t) { s with heap := h', toks := tk' }) :
  wpAny (model prog w) (ktrTop dp un gd cn cs L a ccd cl outer) (call (.ref 115) [.ref x]) Q E s := by
  have _k : hd.heap_1 = hd.heap_1 ∧ PySem.Challenge.rw_qd0009_01 = PySem.Challenge.rw_qd0009_01 := by
    k_fill
    exact ⟨rfl, rfl⟩
  clear _k
  walk_at "mine plain"
  repeat' (first | (k_unfold; (try dsimp only)) | (k_end; wrow_close) | walk1 | (dsimp only; walk1) | (leave1; walk_say "STEP leave1"; try dsimp only) | fail "no step")
  all_goals (rename_i kF kN kT kX NR9)
  · exact hret1 (by first | omega | l_fact) _ _ _ _ (by assumption) kF (news_sub kN (by lcg_sub)) NR9
  · exact hret2 (by first | omega | l_fact) _ _ _ kF (news_sub kN (by lcg_sub)) NR9
end Mine
end
/-! E2 -/
section
open PySem PySem.W PyProof.Rows PySem.Calls
set_option maxRecDepth 100000
namespace Mine
theorem off_E2 : True := by
  w_top off
  trivial
local macro_rules | `(tactic| walk_at "pad 0") => `(tactic| skip)
local macro_rules | `(tactic| walk_at "pad 1") => `(tactic| skip)
/-! the making of an exception of an own class whose bases are own classes too, with __init__ a def -/
section
variable {prog : Program} {w : World} {M : Model} {A : Around} {E : Value → Shared → Prop} {h : Heap} {g : Array GenState} {d : Drawn} {t : Nat} {os : OsState}
variable {nm q : Str} {C N : Addr} {bs bm bmB : List Value} {hdct : Bool} {sn : List Str} {sub : List Value} {ab : Bool} {col : Option Bool} {dd : Option Addr} {k0 k1 k2 k3 k5 : Option Value} {B newId initId : String}
/-- what the tail of the class's line must tell -/
structure LineOk (B : String) (bm : List Value) : Prop where
  has : (bm.contains (.type B)) = true
  attr : (bm.contains (.type "AttributeError")) = false
  name : (bm.contains (.type "NameError")) = false
theorem LineOk.cons (K : LineOk B bm) : ((Value.ref C :: bm).contains (.type B)) = true := by rw [List.contains_cons, K.has, Bool.or_true]
theorem new_checked (F : ExcBaseFacts B newId initId bmB) (K : LineOk B bm) {rest : List Value} {Q : Unit → Shared → Prop} (hC : h.get? C = some (excClassObj nm q C N bs bm hdct sn sub ab col dd k0 k1 k2 k3 k5 newId))
    (hq : Q () ⟨h, g, d, t, os⟩) : wpAny M A (checkBuiltinCall newId ⟨.ref C :: rest, []⟩) Q E ⟨h, g, d, t, os⟩ := by
  have hK := K.cons (C := C)
  have hs := F.noStar
  simp only [checkBuiltinCall, F.newKind, F.newSplit, F.newRow]
  repeat (first | refine wpAny_loadPart_at hC ?_ | (refine wpAny_isSubtype_exc hC ?_; rw [hK]) | refine wpAny_staticBase_exc hC ?_ | refine wpAny_madeBy_exc hC ?_ | simp only [bne_self_eq_false, Bool.false_eq_true, if_false] | wp_step)
  exact hq
/-- the new exception -/
abbrev excNew (C t : Addr) : Obj := { cls := .ref C, data := .fields #[.ref t, .none, .none, .none, .bool false, .none] }
theorem new_made (F : ExcBaseFacts B newId initId bmB) (K : LineOk B bm) {rest : List Value} {R : Result → Shared → Prop} (hC : h.get? C = some (excClassObj nm q C N bs bm hdct sn sub ab col dd k0 k1 k2 k3 k5 newId))
    (hq : R (.ok (.ret (.ref (h.objs.size + 1)))) ⟨(h.push { cls := .type "tuple", data := .seq rest.toArray }).push (excNew C h.objs.size), g, d, t, os⟩) (hrest : rest.length ≤ sizeLine := by size_fits) :
    codeAny (model prog w) A (.builtin newId ⟨.ref C :: rest, []⟩) R ⟨h, g, d, t, os⟩ := by
  have he := F.ends
  have h1 := K.cons (C := C)
  have h2 : (Value.ref C :: bm).contains (.type "AttributeError") = false := by rw [List.contains_cons, K.attr]; rfl
  have h3 : (Value.ref C :: bm).contains (.type "NameError") = false := by rw [List.contains_cons, K.name]; rfl
  refine codeAny_builtinAt F.entry ?_
  unfold Builtin.«BaseException.__new__»
  refine PySem.wpAt_bind ?_
  show PySem.wpAt _ _ _ (stack >>= _) _ _ _
  refine PySem.wpAt_bind (PySem.wpAt_stack fun p below => PySem.wpAt_of_wpAny ?_)
  wp_walk
  refine PySem.wpAt_of_wpAny ?_
  rw [F.owner]
  repeat (first | with_reducible refine wpAny_madeHere_exc F.canon hC ?_ | with_reducible refine wpAny_loadPart_at hC ?_ | (with_reducible refine wpAny_isSubtype_exc hC ?_; first | rw [h1] | rw [h2] | rw [h3]) | wp_step)
  show R _ _
  rw [Heap.size_push]
  exact hq
theorem made_called (F : ExcBaseFacts B newId initId bmB) (K : LineOk B bm) {rest : List Value} {fI : Addr} {oI : Obj} {Q : Fin → Shared → Prop}
    (hC : h.get? C = some (excClassObj nm q C N bs bm hdct sn sub ab col dd k0 k1 k2 k3 k5 newId)) (hi : Looks (model prog w) h (typeLookup (.ref C) "__init__") (some (.ref fI)))
    (hfI : h.get? fI = some oI) (hfc : oI.cls = .type "function")
    (hq : wpAny (model prog w) A (call (.ref fI) (.ref (h.objs.size + 1) :: rest)) (fun r s' => r = .none ∧ Q (.done (.ret (.ref (h.objs.size + 1)))) s') E ⟨(h.push { cls := .type "tuple", data := .seq rest.toArray }).push (excNew C h.objs.size), g, d, t, os⟩)
    (hrest : rest.length ≤ sizeLine := by size_fits) :
    wpAny (model prog w) A (Builtin.«type.__call__» ⟨.ref C :: rest, []⟩) Q E ⟨h, g, d, t, os⟩ := by
  repeat (first | with_reducible refine wpAny_loadPart_at hC ?_ | with_reducible refine wpAny_madeBy_exc hC ?_ | wp_step)
  refine codeAny_call_builtin_code (Code.quiet_builtin _ F.quiet) (new_checked F K hC ?_)
  refine new_made F K hC ?_ hrest
  show wpAny _ _ _ _ _ _
  have up : ∀ b o, h.get? b = some o → ((h.push { cls := .type "tuple", data := .seq rest.toArray }).push (excNew C h.objs.size)).get? b = some o := fun b o e => Heap.get?_push_of_some _ (Heap.get?_push_of_some _ e)
  have hC₁ := up _ _ hC
  have hget : ((h.push { cls := .type "tuple", data := .seq rest.toArray }).push (excNew C h.objs.size)).get? (h.objs.size + 1) = some (excNew C h.objs.size) := by heap_get
  have hcC : (Value.ref C :: bm).contains (.ref C) = true := by simp
  unfold isInstance
  repeat (first | with_reducible refine wpAny_loadPart_at hget ?_ | (with_reducible refine wpAny_isSubtype_exc hC₁ ?_; rw [hcC]) | wp_step)
  show wpAny _ _ (typeLookup (.ref C) _) _ _ _
  refine (hi.keeps up).here ?_
  refine wpAny_holding (wpAny_bind ?_)
  unfold bindSpecial
  refine wpAny_bind (wpAny_typeOf (T := "function") ⟨_, up _ _ hfI, hfc⟩ ?_)
  rw [if_pos (by decide)]
  refine wpAny_pure (wpAny_bind (wpAny_mono hq (fun r s' hr => ?_) fun _ _ x => x))
  obtain ⟨rfl, hQ⟩ := hr
  wp_walk
  exact hQ
theorem exc_called (F : ExcBaseFacts B newId initId bmB) (K : LineOk B bm) {rest : List Value} {fI : Addr} {oI : Obj} {Q : Value → Shared → Prop}
    (hC : h.get? C = some (excClassObj nm q C N bs bm hdct sn sub ab col dd k0 k1 k2 k3 k5 newId)) (hi : Looks (model prog w) h (typeLookup (.ref C) "__init__") (some (.ref fI)))
    (hfI : h.get? fI = some oI) (hfc : oI.cls = .type "function")
    (hq : wpAny (model prog w) (A.under (.builtin "type.__call__" ⟨.ref C :: rest, []⟩)) (call (.ref fI) (.ref (h.objs.size + 1) :: rest)) (fun r s' => r = .none ∧ Q (.ref (h.objs.size + 1)) s') E ⟨(h.push { cls := .type "tuple", data := .seq rest.toArray }).push (excNew C h.objs.size), g, d, t, os⟩)
    (hrest : rest.length ≤ sizeLine := by size_fits) :
    wpAny (model prog w) A (call (.ref C) rest) Q E ⟨h, g, d, t, os⟩ := by
  have f1 := tc_lookup
  have f2 := tc_bind (.ref C)
  have hT : (⟨h, g, d, t, os⟩ : Shared).TypeIs (.ref C) "type" := ⟨_, hC, rfl⟩
  refine wpAny_call (codeAny_of_tree ?_)
  show wpAny _ _ (callAny (.ref C) _) _ _ _
  repeat (any_goals (first | assumption | with_reducible refine wpAny_loadPart_at hC ?_ | wp_step))
  refine ⟨rfl, ?_⟩
  exact codeAny_call_builtin_at (Code.quiet_builtin _ (by decide +kernel)) entry_typeCall (wpAny_check_type_call_sub hC (made_called (hrest := hrest) F K hC hi hfI hfc hq))
end
end Mine
end
/-! E4 -/
section
open PySem PySem.W PyProof.Rows PySem.Calls
set_option maxRecDepth 100000
namespace Mine
theorem off_E4 : True := by
  w_top off
  trivial
theorem slot_wd : Slot "wrapper_descriptor" "__get__" "wrapper_descriptor.__get__" :=
  .of (owner := "wrapper_descriptor") (n := "__get__") (by rw [typeLookup_type, builtinLookup_eq_fast]; kernel_rfl) (by decide +kernel) (by decide +kernel) (by decide +kernel)
    (by first | exact .inl (by decide +kernel) | exact .inr (by decide +kernel)) (by rw [isSubtype_type]; kernel_rfl)
theorem entry_wd : entryFor table "wrapper_descriptor.__get__" = some Builtin.«wrapper_descriptor.__get__» := entryFor_of_tree (by kernel_rfl)
theorem args_wd (a b c : Value) : argsOk "wrapper_descriptor.__get__" ⟨[a, b, c], []⟩ := by unfold argsOk; kernel_rfl
theorem type_ei : typeOf (.builtin "Exception.__init__") = pure (.type "wrapper_descriptor") := by show builtinType _ = _; rw [builtinType_eq_fast]; kernel_rfl
section
variable {prog : Program} {w : World} {M : Model} {A : Around} {E : Value → Shared → Prop} {h : Heap} {g : Array GenState} {d : Drawn} {t : Nat} {os : OsState}
set_option maxHeartbeats 4000000 in
theorem super_gives {so D x C : Addr} {ox : Obj} {l₀ l : List Value} {K : Frag} {name : Str} {tk : Tok} {Q : Fin → Shared → Prop}
    (hso : h.get? so = some { cls := .type "super", dict := none, data := .fields #[.ref D, .ref x, .ref C], slots := #[] }) (hno : Looks (model prog w) h (opaqueClassAbove (.ref C)) none)
    (hC : Looks (model prog w) h (mroOf (.ref C)) l₀) (hl : (l₀.dropWhile (· != .ref D)).drop 1 = l) (X : K.In h)
    (hf : alongIn K name l = some (some (.builtin "Exception.__init__"))) (hx : h.get? x = some ox) (hxc : ox.cls = .ref C) (hin : Looks (model prog w) h (isSubtype (.ref C) (.type "Exception")) true) (hxC : x ≠ C) (hn : (name == ("__class__" : Str)) = false)
    (hq : Q (.done (.ret (.ref h.objs.size))) ⟨h.push { cls := .type "method-wrapper", data := .fields #[.builtin "Exception.__init__", .ref x] }, g, d, t, os⟩) :
    wpAny (model prog w) A (Builtin.«super.__getattribute__» ⟨[.ref so, .str name tk], []⟩) Q E ⟨h, g, d, t, os⟩ := by
  have hte := type_ei
  have hlk := slot_wd.lookup
  have hne : (Value.ref x == Value.ref C) = false := by simp [hxC]
  have hTb : (⟨h, g, d, t, os⟩ : Shared).TypeIs (.ref x) "x" → True := fun _ => trivial
  have hdt : ({ cls := .type "super", dict := none, data := .fields #[.ref D, .ref x, .ref C], slots := #[] } : Obj).data = .fields #[.ref D, .ref x, .ref C] := rfl
  have f0 : (#[.ref D, .ref x, .ref C] : Array Value)[0]? = some (.ref D) := rfl
  have f1 : (#[.ref D, .ref x, .ref C] : Array Value)[1]? = some (.ref x) := rfl
  have f2 : (#[.ref D, .ref x, .ref C] : Array Value)[2]? = some (.ref C) := rfl
  have hTy : (⟨h, g, d, t, os⟩ : Shared).TypeIs (.builtin "Exception.__init__") "wrapper_descriptor" := by first | exact type_ei | exact rfl
  unfold Builtin.«super.__getattribute__»
  repeat (first
    | (with_reducible refine wpAny_field hso hdt f0 ?_) | (with_reducible refine wpAny_field hso hdt f1 ?_) | (with_reducible refine wpAny_field hso hdt f2 ?_)
    | (with_reducible refine ks_wpAny_notOpaque hno ?_)
    | (with_reducible refine Looks.at hC ?_; rw [hl])
    | (refine ks_forIn_along X (fun _ _ => rfl) rfl ?_ hf)
    | (with_reducible refine wpAny_typeOf hTy ?_)
    | (with_reducible refine wpAny_call_entry slot_wd hTy entry_wd ?_ (args_wd _ _ _))
    | (with_reducible refine ⟨_, rfl, ?_⟩)
    | (simp only [hn, hne, Bool.or_false, Bool.false_eq_true, if_false])
    | wp_step
    | dsimp only)
  have ho : (".".intercalate ("Exception.__init__".cutAt '.').dropLast) = "Exception" := by decide +kernel
  rw [hxc, ho]
  refine Looks.at hin ?_
  repeat (first | (with_reducible refine ⟨_, rfl, ?_⟩) | wp_step | dsimp only)
  all_goals exact hq
set_option maxHeartbeats 4000000 in
theorem super_method {so D x C : Addr} {ox : Obj} {l₀ l : List Value} {K : Frag} {name : Str} {pl : Sem Bool} {Q : Value × List Value → Shared → Prop}
    (hso : h.get? so = some { cls := .type "super", dict := none, data := .fields #[.ref D, .ref x, .ref C], slots := #[] }) (hno : Looks (model prog w) h (opaqueClassAbove (.ref C)) none)
    (hC : Looks (model prog w) h (mroOf (.ref C)) l₀) (hl : (l₀.dropWhile (· != .ref D)).drop 1 = l) (X : K.In h)
    (hf : alongIn K name l = some (some (.builtin "Exception.__init__"))) (hx : h.get? x = some ox) (hxc : ox.cls = .ref C) (hin : Looks (model prog w) h (isSubtype (.ref C) (.type "Exception")) true) (hxC : x ≠ C) (hn : (name == ("__class__" : Str)) = false)
    (hq : Q (.ref h.objs.size, []) ⟨h.push { cls := .type "method-wrapper", data := .fields #[.builtin "Exception.__init__", .ref x] }, g, d, t + 1, os⟩) :
    wpAny (model prog w) A (getMethod (.ref so) name pl) Q E ⟨h, g, d, t, os⟩ := by
  have hlk := F.ks_slot_super_ga.lookup
  have hcan := F.ks_canon_super_ga
  have hT : ∀ t', (⟨h, g, d, t', os⟩ : Shared).TypeIs (.ref so) "super" := fun _ => ⟨_, hso, rfl⟩
  unfold getMethod
  refine wpAny_bind (wpAny_specialOf (hT _) hlk ?_)
  show wpAny _ _ (if (Manifest.canonical "super.__getattribute__" != "object.__getattribute__") = true then _ else _) _ _ _
  rw [if_pos hcan]
  unfold getAttr getAttrBy
  refine wpAny_bind (wpAny_bind (wpAny_mkText (wpAny_holding (wpAny_bind (wpAny_typeOf (hT _) (wpAny_bind (wpAny_of_eq hlk ?_)))))))
  show wpAny _ _ (getAttrByItsOwn (.ref so) (.str name t) (.type "super") (.builtin "super.__getattribute__") true false) _ _ _
  unfold getAttrByItsOwn hookBefore callGetattribute boundAndCalled
  refine wpAny_bind (wpAny_of_eq (show (if onTheHeap (.type "super") then typeLookup (.type "super") "__getattr__" else pure none) = pure none from rfl) ?_)
  refine wpAny_bind (wpAny_attempt (wpAny_holding ?_))
  show wpAny _ _ (bindSpecial (.builtin "super.__getattribute__") (.ref so) >>= _) _ _ _
  refine wpAny_bind (wpAny_of_eq (F.ks_slot_super_ga.bind _) ?_)
  refine wpAny_mono (Q := fun v s' => v = .ref h.objs.size ∧ s' = ⟨h.push { cls := .type "method-wrapper", data := .fields #[.builtin "Exception.__init__", .ref x] }, g, d, t + 1, os⟩) (E := fun _ _ => False)
    (wpAny_call_entry F.ks_slot_super_ga (hT _) F.ks_entry_super_ga (super_gives hso hno hC hl X hf hx hxc hin hxC hn ⟨_, rfl, rfl, rfl⟩) (F.ks_gaArgs_super _ _)) (fun v s' hv => ?_) fun _ _ z => z.elim
  obtain ⟨rfl, rfl⟩ := hv
  exact wpAny_pure (wpAny_pure hq)
end
end Mine
end
/-! E5 -/
section
open PySem PySem.W PyProof.Rows PySem.Calls
set_option maxRecDepth 100000
namespace Mine
theorem off_E5 : True := by
  w_top off
  trivial
local macro_rules | `(tactic| walk_at "pad 0") => `(tactic| skip)
local macro_rules | `(tactic| walk_at "pad 1") => `(tactic| skip)
local macro_rules | `(tactic| walk_at "pad 2") => `(tactic| skip)
section
variable {prog : Program} {w : World} {M : Model} {A : Around} {E : Value → Shared → Prop} {h : Heap} {g : Array GenState} {d : Drawn} {t : Nat} {os : OsState}
variable {nm q : Str} {C N : Addr} {bs bm bmB : List Value} {hdct : Bool} {sn : List Str} {sub : List Value} {ab : Bool} {col : Option Bool} {dd : Option Addr} {k0 k1 k2 k3 k5 : Option Value} {newId nid initId : String} {B : String}
set_option maxHeartbeats 2000000 in
theorem wrapper_init (F : ExcBaseFacts "Exception" "Exception.__new__" "Exception.__init__" bmB) (K : LineOk "Exception" bm) {mw e t0 : Addr} {v : Value} {Q : Value → Shared → Prop}
    (hC : h.get? C = some (excClassObj nm q C N bs bm hdct sn sub ab col dd k0 k1 k2 k3 k5 newId)) (hm : h.get? mw = some { cls := .type "method-wrapper", data := .fields #[.builtin "Exception.__init__", .ref e] }) (he : h.get? e = some (excNew C t0))
    (hq : Q .none ⟨(h.push { cls := .type "tuple", data := .seq #[v] }).update e (Obj.mapFields (·.setIfInBounds 0 (.ref h.objs.size))), g, d, t, os⟩) :
    wpAny (model prog w) A (call (.ref mw) [v]) Q E ⟨h, g, d, t, os⟩ := by
  refine wpAny_call (codeAny_of_tree ?_)
  show wpAny _ _ (callAny (.ref mw) _) _ _ _
  unfold callAny
  refine wpAny_bind (wpAny_load hm ?_)
  show wpAny _ _ (checkBoundCall "Exception.__init__" ⟨[.ref e, v], []⟩ >>= fun _ => again (.builtin "Exception.__init__" ⟨[.ref e, v], []⟩)) _ _ _
  have hK := K.cons (C := C)
  unfold checkBoundCall
  refine wpAny_bind ?_
  repeat (first | (with_reducible refine wpAny_loadPart_at he ?_) | with_reducible refine wpAny_loadPart_at hC ?_ | (with_reducible refine wpAny_isSubtype_exc hC ?_; rw [hK]) | wp_step)
  refine ⟨Code.quiet_builtin _ (by decide +kernel), codeAny_builtin F.initEntry ?_⟩
  wp_walk
  exact hq
end
end Mine
end
/-! E6 -/
section
open PySem PySem.W PyProof.Rows PySem.Calls PySem.Builtin PySem.Builtin.ObjectAttr
set_option maxRecDepth 100000
namespace Mine
theorem off_E6 : True := by
  w_top off
  trivial
noncomputable def excLine : List Value → Bool
  | .ref _ :: r => excLine r
  | l => l == [.type "Exception", .type "BaseException", .type "object"]
theorem refuse_exc (self : Value) : ∀ {l : List Value}, excLine l = true → refuseLoop self "__setattr__" l = pure () := by
  intro l
  induction l with
  | nil => intro e; cases e
  | cons v r ih =>
    intro e
    unfold excLine at e
    split at e
    · rename_i h; cases h; rw [refuseLoop_ref]; exact ih e
    · rw [beq_iff_eq.mp e]; exact PySem.F.store_Exception.passes self
theorem exc_has : ∀ {l : List Value}, excLine l = true → l.contains (.type "object") = true := by
  intro l
  induction l with
  | nil => intro e; cases e
  | cons v r ih =>
    intro e
    unfold excLine at e
    split at e
    · rename_i h; cases h; rw [List.contains_cons, ih e, Bool.or_true]
    · rw [beq_iff_eq.mp e]; decide +kernel
noncomputable def excOver (K : Frag) (C : Addr) : Bool := (clsIn K C).any fun cd => excLine cd.mro
section
variable {prog : Program} {w : World} {A A₀ : Around} {E : Value → Shared → Prop} {R : Result → Shared → Prop} {s : Shared} {K : Frag} {x C dx L : Addr} {h₀ : Heap} {m : Str → Option Value} {news news' : List (Addr × Obj)} {ox od : Obj} {es es' : List DictEntry} {n n' : Nat} {name : Str} {v : Value}
theorem esa_open {od : Option Obj} {tk : Tok} {r : Option Value} (X : K.In s.heap) (I : InstAt s.heap x ox C od) (hp : excOver K C = true) (ht : takerIn K C name = some r)
    (h : ∀ b, wpAny (model prog w) A.in1 (match r with | some a => setByDescriptor a (.ref x) v | none => storeInOwnDict (.ref x) (.ref C) (.str name tk) name v b)
      (fun fin s' => match fin with | .done f => R (.ok f) s' | .again c' => c'.quiet = true ∧ codeAny (model prog w) A c' R s') (fun e s' => R (.error e) s') s) :
    codeAny (model prog w) A (.call (.builtin "object.__setattr__") ⟨[.ref x, .str name tk, v], []⟩) R s := by
  have SF := PySem.F.store_object
  obtain ⟨cd, hc, ho⟩ := any_some hp
  have ne : cd.mro.isEmpty = false := by cases q : cd.mro with | nil => rw [q] at ho; cases ho | cons _ _ => rfl
  have sub : Looks (model prog w) s.heap (isInstance (.ref x) (.type "object")) true := I.type.andThen (looks_mroIn X (by unfold mroIn; rw [hc, Option.bind_some, if_neg (by rw [ne]; decide), exc_has ho]))
  refine codeAny_call_builtin SF.slot.plain SF.entry (@check_slot (model prog w) _ _ s "object.__setattr__" "object" "__setattr__" (.ref x) [.str name tk, v] [] _ SF.kind SF.split sub (SF.args (.ref x) (.str name tk) v) ?_)
  obtain ⟨attr, ha, hr⟩ := Option.bind_eq_some_iff.mp ht
  have hm : Looks (model prog w) s.heap (mroOf (.ref C)) cd.mro := (looks_clsIn X hc).andThen .now
  have L3 : Looks (model prog w) s.heap (storeTaker? attr) r := by
    cases attr with
    | none => cases hr; exact .now
    | some a =>
      obtain ⟨b, hb, rfl⟩ := Option.map_eq_some_iff.mp hr
      refine (looks_takesIn X hb).andThen ?_
      cases b <;> exact .now
  rw [osa_eq, refuse_eq]
  refine wpAny_bind (wpAny_bind (I.type.here (wpAny_bind (hm.here ?_))))
  rw [refuse_exc _ ho]
  refine wpAny_pure (wpAny_bind (I.type.here (wpAny_bind ((looks_findIn X ha).here (wpAny_bind (L3.here ?_))))))
  exact h _

/-- the first name laid on an exception of an own class: its dict is made -/
theorem exc_first {vs : Array Value} {sl : Array (Option Value)} {Q : Unit → Shared → Prop} (F : Fr h₀ L s.heap m) (X₀ : K.In h₀) (N : News h₀ L s.heap news) (hm : (x, (⟨.ref C, none, .fields vs, sl⟩ : Obj)) ∈ news)
    (hs : findIn K (.ref C) "__setattr__" = some (some (.builtin "object.__setattr__"))) (hp : excOver K C = true) (ht : takerIn K C name = some none) (hh : hasDictIn K C = true)
    (U : Upd x (⟨.ref C, none, .fields vs, sl⟩ : Obj) ⟨.ref C, some s.heap.objs.size, .fields vs, sl⟩ news news')
    (h : ∀ h', s.heap.objs.size < h'.objs.size → Fr h₀ L h' m → News h₀ L h' ((s.heap.objs.size, dictOf [⟨PyData.keyHash w.params name, .str name (s.toks + 1), v⟩] 1) :: news') → Q () { s with heap := h', toks := s.toks + 2 }) :
    wpAny (model prog w) A (setAttr (.ref x) name v) Q E s := by
  obtain ⟨pre, post, rfl, rfl, a, b⟩ := U.split
  have X := X₀.keeps F.keep
  have hx : s.heap.get? x = some (⟨.ref C, none, .fields vs, sl⟩ : Obj) := (N _ hm).1
  have hlt : x < s.heap.objs.size := Heap.lt_size hx
  have I : InstAt s.heap x (⟨.ref C, none, .fields vs, sl⟩ : Obj) C none := ⟨hx, rfl, rfl, trivial⟩
  refine set_plain X I hs (esa_open (s := { s with toks := s.toks + 1 }) X I hp ht fun bb => ?_)
  obtain ⟨cd, hc, hd'⟩ := any_some hh
  refine wpAny_bind (wpAny_pure (wpAny_bind (wpAny_bind (wpAny_loadPart hx (wpAny_bind (Looks.here (s := { s with toks := s.toks + 1 }) (looks_clsIn X hc) ?_))))))
  rw [hd']
  refine wpAny_bind (wpAny_alloc ?_)
  have F1 := F.push { cls := .type "dict", data := .dict #[] }
  have N1 := N.push F { cls := .type "dict", data := .dict #[] }
  have hx1 := Heap.get?_push_of_some { cls := .type "dict", data := .dict #[] } hx
  obtain ⟨F2, N2⟩ := news_upd (pre := (s.heap.objs.size, { cls := .type "dict", data := .dict #[] }) :: pre) (f := fun o => { cls := o.cls, dict := some s.heap.objs.size, data := o.data, slots := o.slots }) F1 N1 (d := x)
    (fun p hp => by rcases List.mem_cons.mp hp with rfl | hp; exact Nat.ne_of_gt hlt; exact a p hp) b rfl rfl
  refine wpAny_bind (wpAny_update hx1 (wpAny_bind (wpAny_pure ?_)))
  have ne1 : ∀ p ∈ pre ++ (x, (⟨.ref C, some s.heap.objs.size, .fields vs, sl⟩ : Obj)) :: post, p.1 ≠ s.heap.objs.size := by
    intro p hp
    rcases List.mem_append.mp hp with q | q
    · exact Nat.ne_of_lt (Heap.lt_size (N p (by simp [q])).1)
    · rcases List.mem_cons.mp q with rfl | q
      · exact Nat.ne_of_lt hlt
      · exact Nat.ne_of_lt (Heap.lt_size (N p (by simp [q])).1)
  obtain ⟨F3, N3⟩ := news_upd (pre := []) (f := Obj.putName name (PyData.keyHash w.params name) (.str name (s.toks + 1)) v) F2 N2 (by simp) ne1 (o' := dictOf [⟨PyData.keyHash w.params name, .str name (s.toks + 1), v⟩] 1)
    (by show Obj.putName _ _ _ _ (dictOf [] 0) = _; rw [putName_dict]; rfl) rfl
  have D : Heap.get? _ s.heap.objs.size = some { cls := .type "dict", data := .dict #[] } := (N2 (s.heap.objs.size, { cls := .type "dict", data := .dict #[] }) (by simp)).1
  have D' : Heap.get? _ s.heap.objs.size = some (dictOf [⟨PyData.keyHash w.params name, .str name (s.toks + 1), v⟩] 1) := (N3 (s.heap.objs.size, dictOf [⟨PyData.keyHash w.params name, .str name (s.toks + 1), v⟩] 1) (by simp)).1
  refine wpAny_pure (a := some s.heap.objs.size) (wpAny_bind (wpAny_pure (wpAny_bind ?_)))
  unfold nsSet
  refine wpAny_bind (wpAny_bind (wpAny_askSetting (wpAny_pure (wpAny_bind (wpAny_mkText (wpAny_bind (wpAny_loadPart D ?_)))))))
  dsimp only
  have c : (!((#[] : Array DictEntry).any (·.key.isStr name)) && (#[] : Array DictEntry).any (·.refKey)) = false := by simp
  rw [aRefKeyMayBeTheName_at, c]
  refine wpAny_updatePart D ?_
  refine wpAny_bind (wpAny_lookBehind D' (by exact pastItsLine_dict (by rw [List.size_toArray, sizeLine_eq, List.length_singleton]; omega)) ?_)
  exact wpAny_pure (h _ (Heap.lt_size D') F3 N3)

/-- a further name -/
theorem exc_next {vs : Array Value} {sl : Array (Option Value)} {Q : Unit → Shared → Prop} (F : Fr h₀ L s.heap m) (X₀ : K.In h₀) (N : News h₀ L s.heap news) (hm : (x, (⟨.ref C, some dx, .fields vs, sl⟩ : Obj)) ∈ news) (hm2 : (dx, dictOf es n) ∈ news)
    (hs : findIn K (.ref C) "__setattr__" = some (some (.builtin "object.__setattr__"))) (hp : excOver K C = true) (ht : takerIn K C name = some none) (hh : hasDictIn K C = true) (hl : (getL name es).isSome = true)
    (e : (putL name (PyData.keyHash w.params name) (.str name (s.toks + 1)) v es, putN name es n) = (es', n')) (U : Upd dx (dictOf es n) (dictOf es' n') news news') (hz : es'.length ≤ 1000)
    (h : ∀ h', Fr h₀ L h' m → News h₀ L h' news' → Q () { s with heap := h', toks := s.toks + 2 }) :
    wpAny (model prog w) A (setAttr (.ref x) name v) Q E s := by
  obtain ⟨pre, post, rfl, rfl, a, b⟩ := U.split
  obtain ⟨e1, e2⟩ := Prod.mk.inj e
  have X := X₀.keeps F.keep
  have hx : s.heap.get? x = some (⟨.ref C, some dx, .fields vs, sl⟩ : Obj) := (N _ hm).1
  have I : InstAt s.heap x (⟨.ref C, some dx, .fields vs, sl⟩ : Obj) C (some (dictOf es n)) := ⟨hx, rfl, rfl, (N _ hm2).1⟩
  refine set_plain X I hs (esa_open (s := { s with toks := s.toks + 1 }) X I hp ht fun bb => ?_)
  obtain ⟨cd, hc, hd'⟩ := any_some hh
  have eo : Obj.putName name (PyData.keyHash w.params name) (.str name (s.toks + 1)) v (dictOf es n) = dictOf es' n' := by rw [putName_dict, e1, e2]
  obtain ⟨U1, U2⟩ := news_upd (f := Obj.putName name (PyData.keyHash w.params name) (.str name (s.toks + 1)) v) F N a b eo rfl
  have D : s.heap.get? dx = some (dictOf es n) := (N (dx, dictOf es n) (by simp)).1
  have D' : Heap.get? _ dx = some (dictOf es' n') := (U2 (dx, dictOf es' n') (by simp)).1
  refine wpAny_bind (wpAny_pure (wpAny_bind (wpAny_bind (wpAny_loadPart hx (wpAny_bind (Looks.here (s := { s with toks := s.toks + 1 }) (looks_clsIn X hc) ?_))))))
  rw [hd']
  refine wpAny_pure (a := some dx) (wpAny_bind (wpAny_pure (wpAny_bind ?_)))
  unfold nsSet
  refine wpAny_bind (wpAny_bind (wpAny_askSetting (wpAny_pure (wpAny_bind (wpAny_mkText (wpAny_bind (wpAny_loadPart D ?_)))))))
  dsimp only [dictOf]
  have c : (!es.toArray.any (·.key.isStr name) && es.toArray.any (·.refKey)) = false := by
    rw [← Array.any_toList, ← Array.any_toList]
    unfold getL at hl
    split at hl
    · rename_i en he
      rw [List.any_eq_true.mpr ⟨en, List.mem_of_find?_eq_some he, List.find?_some he⟩]; rfl
    · split at hl
      · cases hl
      · rename_i z; rw [Bool.not_eq_true] at z; rw [z, Bool.and_false]
  rw [aRefKeyMayBeTheName_at, c]
  refine wpAny_updatePart D ?_
  refine wpAny_bind (wpAny_lookBehind D' (by exact pastItsLine_dict (by rw [List.size_toArray, sizeLine_eq]; omega)) ?_)
  exact wpAny_pure (h _ U1 U2)
end
end Mine
end
/-! E7 -/
section
open PySem PySem.W PyProof.Rows PySem.Calls
set_option maxRecDepth 100000
namespace Mine
theorem off_E7 : True := by
  w_top off
  trivial
abbrev mwObj (x : Addr) : Obj := { cls := .type "method-wrapper", data := .fields #[.builtin "Exception.__init__", .ref x] }
section
variable {prog : Program} {w : World} {A A₀ : Around} {E : Value → Shared → Prop} {s : Shared} {K : Frag} {x C D so dx L : Addr} {h₀ : Heap} {m : Str → Option Value} {news : List (Addr × Obj)} {ox od : Obj} {odx : Option Obj} {name : Str} {v : Value}
theorem super_news {pl : Sem Bool} {Q : Value × List Value → Shared → Prop} (F : Fr h₀ L s.heap m) (X₀ : K.In h₀) (N : News h₀ L s.heap news) (hso : (so, ks_superObj D x C) ∈ news) (I : InstAt s.heap x ox C odx) (ho : nsIn K cStatics "thirdparty.any" = some none)
    (hm : ks_superIn K C D name = some (some (.builtin "Exception.__init__"))) (hin : mroIn K C (.type "Exception") = some true) (hn : (name == ("__class__" : Str)) = false)
    (h : ∀ q h', Fr h₀ L h' m → News h₀ L h' ((q, mwObj x) :: news) → (∀ p ∈ news, p.1 < q) → Q (.ref q, []) { s with heap := h', toks := s.toks + 1 }) : wpAny (model prog w) A (getMethod (.ref so) name pl) Q E s := by
  have X : K.In s.heap := X₀.keeps F.keep
  obtain ⟨hh, g, d, t, os⟩ := s
  cases hc : clsIn K C with
  | none => unfold ks_superIn at hm; rw [hc] at hm; cases hm
  | some cd =>
    unfold ks_superIn at hm
    rw [hc] at hm
    refine super_method (N _ hso).1 (looks_opaque X ho) (l₀ := cd.mro) ?_ rfl X hm I.at_ I.cls (looks_mroIn X hin) (ks_ne X I hc) hn ?_
    · exact fun A Q E s k q => wpAny_bind ((looks_clsIn X hc) A _ E s k (wpAny_pure q))
    · obtain ⟨F', N', l'⟩ := ks_newsPush (s := ⟨hh, g, d, t, os⟩) (o := mwObj x) F N rfl (Heap.get?_push_at rfl rfl) (fun b o e => Heap.get?_push_of_some _ e)
      exact h _ _ F' N' l'
def MwAt (x q : Addr) (h : Heap) : Prop := h.get? q = some (mwObj x)
theorem mw_of {x q : Addr} {h : Heap} (N : News h₀ L h news) (hm : (q, mwObj x) ∈ news) : MwAt x q h := (N _ hm).1
theorem callWith_mw {M : Model} {env : Env} {pos : Pos} {q : Addr} {first : List Value} {e : Expr} {rest : List Expr} {Q : Value → Shared → Prop} (_N : News h₀ L s.heap news) (_hm : (q, mwObj x) ∈ news)
    (h : wpAny M A (spliced (backTo pos (starEach (e :: rest) env))) (fun vs s₁ => MwAt x q s₁.heap ∧ wpAny M A (call (.ref q) (first ++ vs)) Q E s₁) E s)
    (he : starEach (e :: rest) env = (false, eval e env) :: starEach rest env := by rfl) (hplain : (backTo pos (starEach rest env)).any (·.1) = false := by rfl) :
    wpAny M A (callWith pos (.ref q) first (backTo pos (starEach (e :: rest) env)) []) Q E s := by
  rw [he] at h ⊢
  refine callWith_of (P := MwAt x q) (by show ((false || (backTo pos (starEach rest env)).any (·.1)) || false) = false; rw [hplain]; rfl) (fun h ho => ⟨.machine, .inr (.inl rfl), ?_⟩) (evalArgs_plain h)
  exact (Looks.ld (part := none) ho).andThen .now
theorem wrapper_news {nm q : Str} {Nn : Addr} {bs bm bmB : List Value} {hdct : Bool} {sn : List Str} {sub : List Value} {ab : Bool} {col : Option Bool} {dd : Option Addr} {k0 k1 k2 k3 k5 : Option Value} {mw t0 : Addr} {news' : Addr → List (Addr × Obj)} {Q : Value → Shared → Prop}
    (F : Fr h₀ L s.heap m) (X₀ : K.In h₀) (N : News h₀ L s.heap news) (hm : (mw, mwObj x) ∈ news) (he : (x, excNew C t0) ∈ news)
    (FB : ExcBaseFacts "Exception" "Exception.__new__" "Exception.__init__" bmB) (LK : LineOk "Exception" bm)
    (hC : K.lookup C = some (excClassObj nm q C Nn bs bm hdct sn sub ab col dd k0 k1 k2 k3 k5 "Exception.__new__"))
    (U : ∀ q : Addr, (∀ p ∈ news, p.1 < q) → Upd x (excNew C t0) (excNew C q) news (news' q))
    (h : ∀ q h', Fr h₀ L h' m → News h₀ L h' ((q, { cls := .type "tuple", data := .seq #[v] }) :: news' q) → (∀ p ∈ news, p.1 < q) → Q .none { s with heap := h' }) :
    wpAny (model prog w) A (call (.ref mw) [v]) Q E s := by
  have X : K.In s.heap := X₀.keeps F.keep
  have hl : ∀ p ∈ news, p.1 < s.heap.objs.size := fun p hp => Heap.lt_size (N p hp).1
  obtain ⟨pre, post, e1, e2, a, b⟩ := (U s.heap.objs.size hl).split
  obtain ⟨hh, g, d, t, os⟩ := s
  dsimp only at *
  refine wrapper_init FB LK (X _ _ hC) (N _ hm).1 (N _ he).1 ?_
  have F1 := F.push { cls := .type "tuple", data := .seq #[v] }
  have N1 := N.push F { cls := .type "tuple", data := .seq #[v] }
  subst e1
  obtain ⟨F2, N2⟩ := news_upd (pre := (hh.objs.size, { cls := .type "tuple", data := .seq #[v] }) :: pre) (f := Obj.mapFields (·.setIfInBounds 0 (.ref hh.objs.size))) (o' := excNew C hh.objs.size) F1 N1
    (fun p hp => by rcases List.mem_cons.mp hp with rfl | hp; exact Nat.ne_of_gt (hl _ he); exact a p hp) b rfl rfl
  refine h hh.objs.size _ F2 ?_ hl
  rw [e2]
  exact N2
theorem first_news {vs : Array Value} {sl : Array (Option Value)} {Q : Unit → Shared → Prop} {news' : Addr → List (Addr × Obj)} (F : Fr h₀ L s.heap m) (X₀ : K.In h₀) (N : News h₀ L s.heap news) (hm : (x, (⟨.ref C, none, .fields vs, sl⟩ : Obj)) ∈ news)
    (hs : findIn K (.ref C) "__setattr__" = some (some (.builtin "object.__setattr__"))) (hp : excOver K C = true) (ht : takerIn K C name = some none) (hh : hasDictIn K C = true)
    (U : ∀ q : Addr, (∀ p ∈ news, p.1 < q) → Upd x (⟨.ref C, none, .fields vs, sl⟩ : Obj) ⟨.ref C, some q, .fields vs, sl⟩ news (news' q))
    (h : ∀ q h', Fr h₀ L h' m → News h₀ L h' ((q, dictOf [⟨PyData.keyHash w.params name, .str name (s.toks + 1), v⟩] 1) :: news' q) → (∀ p ∈ news, p.1 < q) → Q () { s with heap := h', toks := s.toks + 2 }) :
    wpAny (model prog w) A (setAttr (.ref x) name v) Q E s := by
  have hl : ∀ p ∈ news, p.1 < s.heap.objs.size := fun p hp => Heap.lt_size (N p hp).1
  exact exc_first F X₀ N hm hs hp ht hh (U _ hl) fun h' _ F' N' => h _ h' F' N' hl
end
end Mine
end
/-! E3 -/
section
open PySem PySem.W PyProof.Rows PySem.Calls
namespace Mine
theorem off_E3 : True := by
  w_top off
  trivial
local macro_rules | `(tactic| walk_at "pad 0") => `(tactic| skip)
section
variable {prog : Program} {w : World} {A₀ A : Around} {s : Shared} {base h₀ : Heap} {outer : List Env} {L : Addr} {m : Str → Option Value} {env : Env} {news rest : List (Addr × Obj)} {K : Frag}
  {R : Result → Shared → Prop} {name qual : Str} {params : Arguments} {body : List Stmt} {scope : Scope} {dV kV doc pm cdv ct oc : Value} {an od : Option Addr} {osl : Array (Option Value)} {f cc : Addr} {args : Args} {binds : List (Str × Value)}
  {p : Program} {loose : List Str} {mean : ExcName → Option Value} {mg mb : Str → Option Value}
theorem enterS (B : Below A₀ base outer h₀) (F : Fr h₀ L s.heap m) (X₀ : K.In h₀) (NA : Apart h₀ L s.heap news rest) (T : Top p loose mean mg mb h₀) (hA : A.frames = some (env :: outer)) (hf : env.frame = some L) (hke : env.scope.kind = .function)
    (ho : K.lookup f = some ⟨oc, od, .func (ksFn name qual params body scope dV kV doc pm an cdv ct cc), osl⟩) (hcd : codeIn K cdv qual = true) (hroom : A.depth < recursionLimit)
    (hbind : BindsTo s (ksFn name qual params body scope dV kV doc pm an cdv ct cc) args binds) (hloc : ∀ y ∈ binds, scope.names.lookup y.1 = some .local)
    (h : ∀ g L' h₁, Fr h₀ L g m → Fr g L' h₁ (fun y => binds.reverse.lookup y) → News g L' h₁ news → Rests g rest → Below A base (env :: outer) g → K.In g → Top p loose mean mg mb g → (∀ p ∈ news, p.1 < L') →
      PySem.wpAt (model prog w) (A.deeper (ksEnv qual scope L' f cdv cc)) (.func body (ksEnv qual scope L' f cdv cc)) (execs body (ksEnv qual scope L' f cdv cc))
        (fun fl s' => LeaveK h₀ L m g (fun r s' => News h₀ L s'.heap rest → R r s') (match fl with | .ret v => v | _ => .none) s')
        (fun e s' => wpAny (model prog w) (A.deeper (ksEnv qual scope L' f cdv cc)) (leaving (ksEnv qual scope L' f cdv cc) e) (fun _ s'' => R (.error e) s'') (fun e' s'' => R (.error e') s'') s')
        { s with heap := h₁, toks := s.toks + binds.length })
    (hcell : ∀ x ∈ scope.names, x.2 ≠ .cell) (hco : scope.isCoroutine = false) (hgen : scope.isGenerator = false) (hk : scope.kind = .function) : codeAny (model prog w) A (.call (.ref f) args) R s := by
  obtain ⟨N, NR, off⟩ := NA
  obtain ⟨FG, BG, st, lv⟩ := groundX (R := fun r s' => News h₀ L s'.heap rest → R r s') B F N hA hf hke
  have hg : Rests (hideAll s.heap (news.map (·.1))) rest := fun p hp => hideAll_get _ (NR p hp).1 (off p hp)
  have KI := X₀.keeps F.keep
  refine ks_codeAny_call_defAt (fd := ksFn name qual params body scope dV kV doc pm an cdv ct cc) (body := body) (binds := binds) hroom (KI _ _ ho) rfl (T.nolimit.keeps F.keep) (codeRec_of KI hcd) rfl hbind hcell hloc (fun h₁ hns hk₁ => ?_) hco hgen hk
  refine ks_wpAt_mono (h _ s.heap.objs.size h₁ FG ⟨hns, fun b o e => hk₁ b o (of_hideAll _ e), Nat.le_of_eq (hideAll_size _ _)⟩
    (fun p hp => ⟨hk₁ _ _ (N p hp).1, Nat.ne_of_lt (Heap.lt_size (N p hp).1), hideAll_none _ (List.mem_map_of_mem hp)⟩) hg BG (X₀.keeps st) (T.keeps st) (fun p hp => Heap.lt_size (N p hp).1)) (fun fl s' hl => ?_) fun _ _ y => y
  refine lv _ _ hl ?_
  obtain ⟨L', m', news', F', _, _⟩ := hl
  exact rests_back NR hg F'
end
theorem exc_inst {h₀ h : Heap} {L e C t : Addr} {news : List (Addr × Obj)} (N : News h₀ L h news) (hm : (e, excNew C t) ∈ news) : InstAt h e (excNew C t) C none := ⟨(N _ hm).1, rfl, rfl, trivial⟩
local macro_rules | `(tactic| walk_at "wpAt") => `(tactic| (ks_step "attributeBase Call"; k_here; k_dflt (refine ks_node (by k_asm) (by k_asm) (by k_asm) (by k_asm) (by k_is) (by rfl) (by rfl) (exc_inst (by k_asm) (by k_mem)) (by k_is) (by rfl) (by first | rfl | decide +kernel) (by k_is) (by k_is) (by k_is) (by k_is) (by decide) (by rfl) (by rfl) (by rfl) (by rfl) (by decide +kernel) (by first | boot_by_name | rfl | kernel_rfl) ?_; intro so' h' F' N' l1; (try k_lt l1))))
theorem exc_instD {h₀ h : Heap} {L e C dx : Addr} {news : List (Addr × Obj)} {vs : Array Value} {sl : Array (Option Value)} {od : Obj} (N : News h₀ L h news) (hm : (e, (⟨.ref C, some dx, .fields vs, sl⟩ : Obj)) ∈ news) (hd : (dx, od) ∈ news) :
    InstAt h e (⟨.ref C, some dx, .fields vs, sl⟩ : Obj) C (some od) := ⟨(N _ hm).1, rfl, rfl, (N _ hd).1⟩
theorem line88 : LineOk "Exception" [.ref 76, .ref 47, .type "Exception", .type "BaseException", .type "object"] := ⟨by decide +kernel, by decide +kernel, by decide +kernel⟩
local macro_rules | `(tactic| walk_at "getMethod ref") => `(tactic| (k_here; k_dflt (first
  | (refine' ks_method ?k1 ?k2 ?k3 ?k4 ?k5 ?k6 ?k7 ?k8 ?k9 ?_; (case k1 => k_asm); (case k2 => k_asm); (case k3 => k_asm); (case k4 => k_mem); (case k5 => exact exc_inst (by k_asm) (by k_mem)); (case k6 => k_is); (case k7 => ks_is); (case k8 => k_is); (case k9 => decide); intro q' h' F' N' l1; (try k_lt l1))
  | (refine' super_news ?k1 ?k2 ?k3 ?k4 ?k5 ?k6 ?k7 ?k8 ?k9 ?_; (case k1 => k_asm); (case k2 => k_asm); (case k3 => k_asm); (case k4 => k_mem); (case k5 => exact exc_inst (by k_asm) (by k_mem)); (case k6 => k_is); (case k7 => ks_is); (case k8 => k_is); (case k9 => decide); intro q' h' F' N' l1; (try k_lt l1)))))
local macro_rules | `(tactic| walk_at "setAttr ref") => `(tactic| (k_here; k_dflt (first
  | (refine' first_news ?k1 ?k2 ?k3 ?k4 ?k5 ?k6 ?k7 ?k8 ?k9 ?_; (case k1 => k_asm); (case k2 => k_asm); (case k3 => k_asm); (case k4 => k_mem); (case k5 => k_is); (case k6 => exact rfl); (case k7 => k_is); (case k8 => k_is); (case k9 => intro q' l1; (try k_lt l1); k_upd); intro q' h' F' N' l1; (try k_lt l1))
  | (refine' exc_next ?k1 ?k2 ?k3 ?k4 ?k5 ?k6 ?k7 ?k8 ?k9 ?k10 ?k11 ?k12 ?k13 ?_; (case k1 => k_asm); (case k2 => k_asm); (case k3 => k_asm); (case k4 => k_mem); (case k5 => k_mem); (case k6 => k_is); (case k7 => exact rfl); (case k8 => k_is); (case k9 => k_is); (case k10 => k_get); (case k11 => k_put); (case k12 => k_upd); (case k13 => exact Nat.le_of_ble_eq_true rfl); intro h' F' N'))))
local macro_rules | `(tactic| walk_at "callWith ref") => `(tactic| (k_here; k_dflt (refine' callWith_mw ?k1 ?k2 ?_; (case k1 => k_asm); (case k2 => k_mem))))
local macro_rules | `(tactic| walk_at "And") => `(tactic| ((with_reducible show MwAt _ _ _ ∧ _); k_dflt (refine ⟨mw_of (by k_asm) (by k_mem), ?_⟩); (try dsimp only [List.nil_append, List.cons_append])))
local macro_rules | `(tactic| walk_at "mine super") => `(tactic| (refine wpAny_call ?_; k_dflt (refine' enterS ?k1 ?k2 ?k3 ?k4 ?k5 ?kA ?kF ?kK ?k6 ?k7 ?k8 ?k9 ?kB ?_ ?c1 ?c2 ?c3 ?c4; (case kA => exact rfl); (case kF => exact rfl); (case kK => assumption); (case k1 => k_asm); (case k2 => k_asm); (case k3 => k_asm); (case k4 => k_asm); (case k5 => k_asm); (case k6 => k_is); (case k7 => k_is); (case k8 => ktr_room); (case k9 => exact BindsTo.of_eq rfl); (case kB => exact locs rfl); (case c1 => decide); (case c2 => exact rfl); (case c3 => exact rfl); (case c4 => exact rfl); intro g' L' h' FG' F' N' hR' B' X' T' l1; (try k_lt l1); (try dsimp only); (try k_lift B'))))
local macro_rules | `(tactic| walk_at "call ref") => `(tactic| (k_here; k_dflt (first | (refine' wrapper_news ?k1 ?k2 ?k3 ?k4 ?k5 PySem.F.excBase_Exception line88 ?k6 ?k9 ?_; (case k1 => k_asm); (case k2 => k_asm); (case k3 => k_asm); (case k4 => k_mem); (case k5 => k_mem); (case k6 => exact rfl); (case k9 => intro q' l1; (try k_lt l1); k_upd); intro q' h' F' N' l1; (try k_lt l1)) | (refine' call_meth ?k1 ?k2 ?_; (case k1 => k_asm); (case k2 => k_mem); (refine' ks_code_super ?k1 ?k2 ?k3 ?k4 ?k5 ?kA ?kF ?kK ?k6 ?k7 ?k8 ?k9 ?kB ?_ ?c1 ?c2 ?c3 ?c4; (case kA => exact rfl); (case kF => exact rfl); (case kK => exact rfl); (case k1 => k_asm); (case k2 => k_asm); (case k3 => k_asm); (case k4 => k_asm); (case k5 => k_asm); (case k6 => k_is); (case k7 => k_is); (case k8 => ktr_room); (case k9 => exact BindsTo.of_eq rfl); (case kB => exact locs rfl); (case c1 => decide); (case c2 => exact rfl); (case c3 => exact rfl); (case c4 => exact rfl); intro g' L' h' FG' F' N' B' X' T' l1; (try k_lt l1); (try dsimp only); (try k_lift B'))))))
/-- a made fault and its dict -/
abbrev faultObj (dX tN : Addr) : Obj := ⟨.ref 88, some dX, .fields #[.ref tN, .none, .none, .none, .bool false, .none], #[]⟩
abbrev faultDict (w : World) (sp : Int) (k1 k2 t1 t2 : Tok) : Obj := dictOf [⟨PyData.keyHash w.params "what", .str "what" k1, .str (Str.ofString "a remark is not closed") t1⟩, ⟨PyData.keyHash w.params "spot", .str "spot" k2, .int sp t2⟩] 2
set_option maxRecDepth 100000 in
set_option maxHeartbeats 8000000 in
theorem init_ok {w : World} {mean : ExcName → Option Value} {mg mb : Str → Option Value}
  {dp un : Nat} {gd : Option (List Code)} {cn : Str} {cs : Scope} {a : Addr} {ccd : Value} {cl : List (Str × Addr)} {outer : List Env} {A₀ : Around} {base h₀ : Heap} {L : Addr} {m : Str → Option Value} {s : Shared} {Q E : Value → Shared → Prop}
  {e t : Addr} {rest : List (Addr × Obj)} {tv : Array Value} {nt : Nat} {sp : Int} {t1 t2 : Tok}
  (B : Below A₀ base outer h₀) (F : Fr h₀ L s.heap m) (X : (hd.heap_1 w.params).In h₀)
  (NA : Apart h₀ L s.heap [(e, excNew 88 t), (t, { cls := .type "tuple", data := .seq tv nt })] rest)
  (T : Top viewQ (looseW viewQ [Str.ofString "ESCAPES"]) mean mg mb h₀) (hk : cs.kind = .function) (hdp : dp + 8 < recursionLimit) (hun : un + 80 < cLine)
  (hne : @Ne Nat t e)
  (hret : ∀ h' tk dX tN k1 k2, @LT.lt Nat _ e dX → Fr h₀ L h' m → News h₀ L h' [(dX, faultDict w sp k1 k2 t1 t2), (e, faultObj dX tN)] → News h₀ L h' rest → Q .none { s with heap := h', toks := tk }) :
  wpAny (model PySem.Challenge.pw_qd0009_01 w) ((ktrTop dp un gd cn cs L a ccd cl outer).under (.builtin "type.__call__" ⟨[.ref 88, .str (Str.ofString "a remark is not closed") t1, .int sp t2], []⟩)) (call (.ref 66) [.ref e, .str (Str.ofString "a remark is not closed") t1, .int sp t2]) Q E s := by
  have _k : hd.heap_1 = hd.heap_1 ∧ PySem.Challenge.rw_qd0009_01 = PySem.Challenge.rw_qd0009_01 := by
    k_fill
    exact ⟨rfl, rfl⟩
  clear _k
  walk_at "mine super"
  iterate 44 (first | (k_unfold; (try dsimp only)) | (k_end; wrow_close) | walk1 | (dsimp only; walk1) | (leave1; walk_say "STEP leave1"; try dsimp only) | fail "no step")
  rename_i kF kN kT kX NR9
  refine' hret _ _ _ _ _ _ ?lt kF (news_sub kN (List.forall_mem_cons.mpr ⟨?m1, List.forall_mem_cons.mpr ⟨?m2, List.forall_mem_nil _⟩⟩)) NR9
  (case m1 => k_mem)
  (case m2 => k_mem)
  (case lt => omega)
set_option maxRecDepth 100000 in
set_option maxHeartbeats 8000000 in
theorem exc_ok {w : World} {mean : ExcName → Option Value} {mg mb : Str → Option Value}
  {dp un : Nat} {gd : Option (List Code)} {cn : Str} {cs : Scope} {a : Addr} {ccd : Value} {cl : List (Str × Addr)} {outer : List Env} {A₀ : Around} {base h₀ : Heap} {L : Addr} {m : Str → Option Value} {s : Shared} {Q E : Value → Shared → Prop}
  {news : List (Addr × Obj)} {sp : Int} {t1 t2 : Tok}
  (B : Below A₀ base outer h₀) (F : Fr h₀ L s.heap m) (X : (hd.heap_1 w.params).In h₀) (N : News h₀ L s.heap news)
  (T : Top viewQ (looseW viewQ [Str.ofString "ESCAPES"]) mean mg mb h₀) (hk : cs.kind = .function) (hdp : dp + 8 < recursionLimit) (hun : un + 80 < cLine)
  (hret : ∀ e h' tk dX tN k1 k2, Fr h₀ L h' m → News h₀ L h' ((dX, faultDict w sp k1 k2 t1 t2) :: (e, faultObj dX tN) :: news) → (∀ p ∈ news, p.1 < e) → (∀ p ∈ news, p.1 < dX) → @LT.lt Nat _ e dX → Q (.ref e) { s with heap := h', toks := tk }) :
  wpAny (model PySem.Challenge.pw_qd0009_01 w) (ktrTop dp un gd cn cs L a ccd cl outer) (call (.ref 88) [.str (Str.ofString "a remark is not closed") t1, .int sp t2]) Q E s := by
  have XX : (hd.heap_1 w.params).In s.heap := X.keeps F.keep
  have hl : ∀ p ∈ news, p.1 < s.heap.objs.size := fun p hp => Heap.lt_size (N p hp).1
  obtain ⟨hh, g, d, t, os⟩ := s
  dsimp only at *
  have F1 := F.push { cls := .type "tuple", data := .seq #[.str (Str.ofString "a remark is not closed") t1, .int sp t2] }
  have N1 := N.push F { cls := .type "tuple", data := .seq #[.str (Str.ofString "a remark is not closed") t1, .int sp t2] }
  have F2 := F1.push (excNew 88 hh.objs.size)
  have N2 := N1.push F1 (excNew 88 hh.objs.size)
  have sz : (hh.push { cls := .type "tuple", data := .seq #[.str (Str.ofString "a remark is not closed") t1, .int sp t2] }).objs.size = hh.objs.size + 1 := by simp [Heap.push]
  rw [sz] at N2
  have i1 : findIn (hd.heap_1 w.params) (.ref 88) "__init__" = some (some (.ref 66)) := by exact rfl
  obtain ⟨oI, o1, o1c⟩ : ∃ o, (hd.heap_1 w.params).lookup 66 = some o ∧ o.cls = .type "function" := ⟨_, by exact rfl, rfl⟩
  refine' exc_called PySem.F.excBase_Exception line88 (XX _ _ ?o2) (looks_findIn XX i1) (XX _ _ o1) o1c ?_
  (case o2 => exact rfl)
  refine init_ok (rest := news) (t := hh.objs.size) (tv := #[.str (Str.ofString "a remark is not closed") t1, .int sp t2]) (nt := 0) B F2 X ⟨fun p hp => N2 p (by simp only [List.mem_cons, List.not_mem_nil, or_false] at hp; rcases hp with rfl | rfl <;> simp), fun p hp => N2 p (by simp [hp]), fun p hp hq => ?_⟩ T hk hdp hun (Nat.ne_of_lt (Nat.lt_succ_self _)) ?_
  · have := hl p hp
    simp only [List.map_cons, List.map_nil, List.mem_cons, List.not_mem_nil, or_false] at hq
    rcases hq with q | q <;> exact absurd q (Nat.ne_of_lt (by first | exact this | exact Nat.lt_succ_of_lt this))
  · intro h' tk dX tN k1 k2 lt F' N' NR'
    refine ⟨rfl, hret (hh.objs.size + 1) h' tk dX tN k1 k2 F' (fun p hp => ?_) (fun p hp => Nat.lt_succ_of_lt (hl p hp)) (fun p hp => Nat.lt_trans (Nat.lt_succ_of_lt (hl p hp)) lt) lt⟩
    rcases List.mem_cons.mp hp with rfl | hp
    · exact N' _ (by simp)
    · rcases List.mem_cons.mp hp with rfl | hp
      · exact N' _ (by simp)
      · exact NR' p hp
end Mine
end
/-! E8 -/
section
open PySem PySem.W PyProof.Rows PySem.Calls
set_option maxRecDepth 100000
namespace Mine
theorem off_E8 : True := by
  w_top off
  trivial
/-- a fault, thrown: its head of the trail is tb -/
abbrev excT (dX tN : Addr) (tb : Value) : Obj := ⟨.ref 88, some dX, .fields #[.ref tN, tb, .none, .none, .bool false, .none], #[]⟩
/-- an entry of the trail -/
def TbOb (oT : Obj) (x : Value) : Prop := ∃ ts, oT.data = .fields ts ∧ ts[3]? = some x
/-- all stays but sk; frames of l up to slots -/
def Went (l sk : List Addr) (h h' : Heap) : Prop := (∀ b o, b ∉ sk → h.get? b = some o → ∃ sl, h'.get? b = some { o with slots := sl }) ∧ ∀ b o, b ∉ sk → b ∉ l → h.get? b = some o → h'.get? b = some o
section
variable {M : Model} {A : Around} {E : Value → Shared → Prop} {s : Shared} {env : Env} {base : Heap} {outer : List Env} {L e dX tN : Addr} {Q : Unit → Shared → Prop}
theorem entry_went {tb head : Value} {hadNext : Bool} (hfr : A.frames = some (env :: outer)) (hl : s.heap.FunFrames base (env :: outer)) (hf : env.frame = some L) (he : s.heap.get? e = some (excT dX tN tb))
    (h : ∀ h' T oT, Went ((env :: outer).filterMap (·.frame)) [e] s.heap h' → h'.get? e = some (excT dX tN (.ref T)) → T ≠ e → s.heap.get? T = none → h'.get? T = some oT → TbOb oT (rawInt L) → Q () { s with heap := h' }) :
    wpAny M A (do let a ← frameOf env; let pl ← entryPlaceOf L hadNext; let b ← EntryCells.newEntry head a .none (rawInt L) .none pl; setField (.ref e) 1 b) Q E s := by
  have hene : e ∉ (env :: outer).filterMap (·.frame) := fun hm => by
    obtain ⟨_, o, ho, hnf⟩ := hl.mem hm
    rw [he] at ho; cases ho; exact hnf _ rfl
  refine wpAny_bind (wpAny_frameOf_fun hfr hl hf fun h₁ hs₁ => ?_)
  refine wpAny_bind (wpAny_entryPlaceOf fun pl hpl => ?_)
  unfold EntryCells.newEntry newFields
  refine wpAny_bind (wpAny_newObj_type ?_ (hpl.sizeOk5 _ _ _ _ _))
  have he₁ := (hs₁.2.1 e hene).trans he
  dsimp only
  have key : ∀ ob : Obj, ob.isFreed = false → TbOb ob (rawInt L) → wpAny M A (setField (.ref e) 1 (.ref h₁.objs.size)) Q E { s with heap := h₁.push ob } := by
    intro ob hfree hob
    have hne : h₁.objs.size ≠ e := Nat.ne_of_gt (Heap.lt_size he₁)
    have up : ∀ b o, b ≠ e → h₁.get? b = some o → ((h₁.push ob).update e (Obj.mapFields (·.setIfInBounds 1 (.ref h₁.objs.size)))).get? b = some o := fun b o hb ho =>
      (Heap.get?_update_other _ _ (Ne.symm hb)).trans (Heap.get?_push_of_some _ ho)
    refine wpAny_setField (Heap.get?_push_of_some _ he₁) rfl (by show 1 < 6; decide) (h _ h₁.objs.size ob ⟨fun b o hb ho => ?_, fun b o hb hb' ho => ?_⟩ ?_ hne ?_ ?_ hob)
    · obtain ⟨sl, hsl⟩ := hs₁.2.2 b o ho
      exact ⟨sl, up b _ (fun q => hb (by simp [q])) hsl⟩
    · exact up b o (fun q => hb (by simp [q])) ((hs₁.2.1 b hb').trans ho)
    · exact Heap.get?_update_self _ (Heap.get?_push_of_some _ he₁) rfl
    · refine Heap.get?_none_of_le ?_
      rw [hs₁.1]; exact Nat.le_refl _
    · exact (Heap.get?_update_other _ _ (Ne.symm hne)).trans (Heap.get?_push_size h₁ hfree)
  refine key _ rfl ⟨_, rfl, ?_⟩
  rcases hpl with rfl | ⟨_, _, _, _, _, _, _, rfl⟩ <;> simp
theorem land_fault {T : Addr} {oT : Obj} {x : Value} (he : s.heap.get? e = some (excT dX tN (.ref T))) (hTe : T ≠ e) (hT : s.heap.get? T = some oT) (ht : TbOb oT x)
    (h : ∀ h' oT', (∀ b o, b ≠ T → s.heap.get? b = some o → h'.get? b = some o) → h'.get? T = some oT' → TbOb oT' .none → Q () { s with heap := h' }) : wpAny M A (setFlight (.ref e) none) Q E s := by
  obtain ⟨ts, hd, h3⟩ := ht
  have hsz : 3 < ts.size := (Array.getElem?_eq_some_iff.mp h3).1
  unfold setFlight
  refine wpAny_bind (wpAny_field he rfl (x := .ref T) rfl ?_)
  rw [if_pos (show (Value.ref T != Value.none) = true from by simp)]
  refine wpAny_setField hT hd hsz (h _ _ (fun b o hb ho => (Heap.get?_update_other _ _ (Ne.symm hb)).trans ho) (Heap.get?_update_self _ hT (Obj.isFreed_of_fields (Obj.data_mapFields hd _))) ⟨_, Obj.data_mapFields hd _, by simp [hsz]⟩)
theorem leave_fault (hfr : A.frames = some (env :: outer)) (hl : s.heap.FunFrames base (env :: outer)) (hf : env.frame = some L) (he : s.heap.get? e = some (excT dX tN .none))
    (h : ∀ h' T oT, Went ((env :: outer).filterMap (·.frame)) [e] s.heap h' → h'.get? e = some (excT dX tN (.ref T)) → T ≠ e → s.heap.get? T = none → h'.get? T = some oT → TbOb oT .none → Q () { s with heap := h' }) :
    wpAny M A (leaving env (.ref e)) Q E s := by
  unfold leaving noteFrame
  simp only [hf]
  refine wpAny_bind (wpAny_bind (wpAny_field he rfl (x := .none) rfl ?_))
  rw [if_neg (by decide)]
  refine entry_went hfr hl hf he fun h' T oT w he' hTe hn hT ht => ?_
  refine land_fault he' hTe hT ht fun h'' oT' k hT' ht' => ?_
  have ne : ∀ b o, s.heap.get? b = some o → b ≠ T := fun b o ho q => by rw [q, hn] at ho; cases ho
  exact h _ T oT' ⟨fun b o hb ho => let ⟨sl, x⟩ := w.1 b o hb ho; ⟨sl, k _ _ (ne b o ho) x⟩, fun b o hb hb' ho => k _ _ (ne b o ho) (w.2 b o hb hb' ho)⟩ (k _ _ (Ne.symm hTe) he') hTe hn hT' ht'
theorem note_fault {T₀ : Addr} {oT₀ : Obj} (hfr : A.frames = some (env :: outer)) (hl : s.heap.FunFrames base (env :: outer)) (hf : env.frame = some L) (he : s.heap.get? e = some (excT dX tN (.ref T₀)))
    (hTe : T₀ ≠ e) (hT₀ : s.heap.get? T₀ = some oT₀) (ht₀ : TbOb oT₀ .none)
    (h : ∀ h' T oT, Went ((env :: outer).filterMap (·.frame)) [e, T₀] s.heap h' → h'.get? e = some (excT dX tN (.ref T)) → T ≠ e → s.heap.get? T = none → h'.get? T = some oT → TbOb oT (rawInt L) → Q () { s with heap := h' }) :
    wpAny M A (noteFrame (.ref e) env) Q E s := by
  obtain ⟨ts, hd, h3⟩ := ht₀
  unfold noteFrame
  simp only [hf]
  refine wpAny_bind (wpAny_field he rfl (x := .ref T₀) rfl ?_)
  rw [if_pos (show (Value.ref T₀ != Value.none) = true from by simp)]
  refine wpAny_bind (wpAny_field hT₀ hd h3 ?_)
  rw [if_neg (show ¬ ((Value.none == rawInt L) = true) from by simp [rawInt])]
  refine wpAny_bind (wpAny_setField hT₀ hd (Array.getElem?_eq_some_iff.mp h3).1 ?_)
  have other : ∀ b, b ≠ T₀ → (s.heap.update T₀ (Obj.mapFields (·.setIfInBounds 3 Value.none))).get? b = s.heap.get? b := fun b hb => Heap.get?_update_other _ _ (Ne.symm hb)
  have nf : ∀ b o, s.heap.get? b = some o → (∀ vs, o.data ≠ .fields vs) → b ≠ T₀ := fun b o hb hnf q => by
    rw [q, hT₀] at hb; cases hb; exact hnf ts hd
  refine entry_went hfr (hl.of_keeps fun b o hb hnf => ⟨o, (other b (nf b o hb hnf)).trans hb, rfl⟩) hf ((other e (Ne.symm hTe)).trans he) fun h' T oT w he' hTe' hn hT ht => ?_
  refine h h' T oT ⟨fun b o hb ho => w.1 b o (fun q => hb (by simp at q; simp [q])) ((other b fun q => hb (by simp [q])).trans ho), fun b o hb hb' ho => w.2 b o (fun q => hb (by simp at q; simp [q])) hb' ((other b fun q => hb (by simp [q])).trans ho)⟩ he' hTe' ?_ hT ht
  refine (Eq.trans ?_ hn)
  by_cases q : T = T₀
  · subst q
    rw [Heap.get?_update_self _ hT₀ (Obj.isFreed_of_fields (Obj.data_mapFields hd _))] at hn
    cases hn
  · exact (other T q).symm
end
section
variable {M : Model} {A A₀ : Around} {E : Value → Shared → Prop} {s : Shared} {env : Env} {base h₀ g h : Heap} {outer : List Env} {L L' a e dX tN : Addr} {m m' : Str → Option Value} {Q : Unit → Shared → Prop} {news rest : List (Addr × Obj)} {name : Str} {scope : Scope} {cd : Value} {fd : Obj}
/-- a fault leaves the frame it was thrown in -/
theorem leave_skip (hfrm : env.frame = some L) (B' : Below A h₀ [env] g) (FG : Fr h₀ L g m) (F' : Fr g L' s.heap m') (N' : News g L' s.heap ((dX, fd) :: (e, excT dX tN .none) :: news)) (hR : Rests g rest) (NR : News h₀ L h rest)
    (he : ∀ p ∈ news, p.1 ≠ e) (hx : dX ≠ e) (hk : scope.kind = .function)
    (hq : ∀ h' T oT, Fr h₀ L h' m → News h₀ L h' ((T, oT) :: (dX, fd) :: (e, excT dX tN (.ref T)) :: news) → News h₀ L h' rest → TbOb oT .none → T ≠ e → T ≠ dX → (∀ p ∈ news, p.1 ≠ T) → (∀ p ∈ rest, p.1 ≠ e ∧ p.1 ≠ T ∧ p.1 ≠ dX) → Q () { s with heap := h' }) :
    wpAny M (A.deeper (envOf name scope L' a cd)) (leaving (envOf name scope L' a cd) (.ref e)) Q E s := by
  have K := B'.push (name := name) (scope := scope) (a := a) (cd := cd) F' hk
  have fl : ((envOf name scope L' a cd :: [env]).filterMap (·.frame)) = [L', L] := by
    rw [List.filterMap_cons]
    show L' :: List.filterMap _ [env] = _
    rw [List.filterMap_cons, hfrm]; rfl
  refine leave_fault K.stack K.frames rfl (N' (e, excT dX tN .none) (by simp)).1 fun h' T oT w he' hTe hn hT ht => ?_
  rw [fl] at w
  obtain ⟨oL, hoL⟩ : ∃ o, g.get? L = some o := let ⟨o, _, _, ho, _⟩ := FG.ns; ⟨o, ho⟩
  have gL' : g.get? L' = none := by
    cases q : g.get? L' with
    | none => rfl
    | some o => exact absurd (Nat.lt_of_lt_of_le (Heap.lt_size q) F'.above) (Nat.lt_irrefl _)
  have h0L : h₀.get? L = none := by
    cases q : h₀.get? L with
    | none => rfl
    | some o => exact absurd (Nat.lt_of_lt_of_le (Heap.lt_size q) FG.above) (Nat.lt_irrefl _)
  have ge : g.get? e = none := (N' (e, excT dX tN .none) (by simp)).2.2
  have h0g : ∀ b, g.get? b = none → h₀.get? b = none := fun b hb => by
    cases q : h₀.get? b with
    | none => rfl
    | some o => rw [FG.keep b o q] at hb; cases hb
  have stay : h₀.StaysIn h' := fun b o hb => by
    have hg := FG.keep b o hb
    refine w.2 b o (fun q => ?_) (fun q => ?_) (F'.keep b o hg)
    · simp at q; rw [q, ge] at hg; cases hg
    · simp at q; rcases q with rfl | rfl
      · rw [gL'] at hg; cases hg
      · rw [h0L] at hb; cases hb
  have up : g.UpToSlots h' := fun b o hb _ => w.1 b o (fun q => by simp at q; rw [q, ge] at hb; cases hb) (F'.keep b o hb)
  have gets : ∀ p, p ∈ ((dX, fd) :: news) → h'.get? p.1 = some p.2 ∧ p.1 ≠ L ∧ h₀.get? p.1 = none := fun p hp => by
    have hin : p ∈ ((dX, fd) :: (e, excT dX tN .none) :: news) := by simp at hp ⊢; rcases hp with hp | hp <;> simp [hp]
    have hne : p.1 ≠ e := by
      rcases List.mem_cons.mp hp with rfl | hp
      · exact hx
      · exact he p hp
    obtain ⟨a1, a2, a3⟩ := N' p hin
    have hL : p.1 ≠ L := fun q => by rw [q, hoL] at a3; cases a3
    exact ⟨w.2 _ _ (by simp [hne]) (by simp [a2, hL]) a1, hL, h0g _ a3⟩
  have hold : ∀ b o, s.heap.get? b = some o → b ≠ T := fun b o ho q => by rw [q, hn] at ho; cases ho
  have eL : e ≠ L := fun q => by rw [q, hoL] at ge; cases ge
  have TL : T ≠ L := fun q => hold L _ (F'.keep _ _ hoL) q.symm
  refine hq h' T oT (FG.of_stays stay up) (fun p hp => ?_) (fun p hp => ?_) ht hTe ?_ (fun p hp => ?_) (fun p hp => ?_)
  · rcases List.mem_cons.mp hp with rfl | hp
    · refine ⟨hT, TL, ?_⟩
      cases q : h₀.get? T with
      | none => rfl
      | some o => exact absurd rfl (hold T o (F'.keep _ _ (FG.keep _ _ q)))
    · rcases List.mem_cons.mp hp with rfl | hp
      · exact gets _ (by simp)
      · rcases List.mem_cons.mp hp with rfl | hp
        · exact ⟨he', eL, h0g _ ge⟩
        · exact gets _ (by simp [hp])
  · have hg := hR p hp
    refine ⟨w.2 _ _ (fun q => ?_) (fun q => ?_) (F'.keep _ _ hg), (NR p hp).2⟩
    · simp at q; rw [q, ge] at hg; cases hg
    · simp at q; rcases q with q | q
      · rw [q, gL'] at hg; cases hg
      · exact (NR p hp).2.1 q
  · exact fun q => hold dX _ (N' (dX, fd) (by simp)).1 q.symm
  · exact hold _ _ (N' p (by simp [hp])).1
  · have hg := hR p hp
    refine ⟨fun q => ?_, hold _ _ (F'.keep _ _ hg), fun q => ?_⟩
    · rw [q, ge] at hg; cases hg
    · rw [q, (N' (dX, fd) (by simp)).2.2] at hg; cases hg
end
/-- the class TextFault stands -/
def Cls88 (h : Heap) : Prop := ∃ (nm q : Str) (N : Addr) (bs bm : List Value) (hdct : Bool) (sn : List Str) (sub : List Value) (ab : Bool) (col : Option Bool) (dd : Option Addr) (k0 k1 k2 k3 k5 : Option Value) (newId : String),
  bm.contains (.type "BaseException") = true ∧ h.get? 88 = some (excClassObj nm q 88 N bs bm hdct sn sub ab col dd k0 k1 k2 k3 k5 newId)
theorem has88 : ([Value.ref 76, .ref 47, .type "Exception", .type "BaseException", .type "object"] : List Value).contains (.type "BaseException") = true := by decide +kernel
theorem cls88 {w : World} {h : Heap} (X : (hd.heap_1 w.params).In h) : Cls88 h :=
  ⟨_, _, _, _, _, _, _, _, _, _, _, _, _, _, _, _, _, has88, X 88 _ rfl⟩
section
variable {M : Model} {A : Around} {E : Value → Shared → Prop} {s : Shared} {env : Env}
/-- a made fault is raised -/
theorem raise_fault {x : Sem Value} {Q : Flow → Shared → Prop} (hh : A.handled = none)
    (h : wpAny M A x (fun v s₁ => ∃ e dX tN, v = .ref e ∧ Cls88 s₁.heap ∧ s₁.heap.get? e = some (excT dX tN .none) ∧ E (.ref e) s₁) E s) :
    wpAny M A (raiseStmt env (some x) none) Q E s := by
  unfold raiseStmt
  refine wpAny_bind (wpAny_mono h (fun v s₁ h₁ => ?_) fun _ _ x => x)
  obtain ⟨e, dX, tN, rfl, ⟨nm, q, N, bs, bm, hdct, sn, sub, ab, col, dd, k0, k1, k2, k3, k5, newId, hbase, hC⟩, he, hE⟩ := h₁
  have hcB : (Value.ref 88 :: bm).contains (.type "BaseException") = true := by rw [List.contains_cons, hbase, Bool.or_true]
  obtain ⟨hp, g, d, tk, os⟩ := s₁
  repeat (first | with_reducible refine wpAny_loadPart_at he ?_ | with_reducible refine wpAny_loadPart_at hC ?_ | (with_reducible refine wpAny_isSubtype_exc hC ?_; rw [hcB]) | wp_step)
  exact wpAny_raiseNew_none hh hE
/-- what the raised value must tell -/
def RaiseD (E : Value → Shared → Prop) (v : Value) (s₁ : Shared) : Prop := ∃ e dX tN, v = .ref e ∧ Cls88 s₁.heap ∧ s₁.heap.get? e = some (excT dX tN .none) ∧ E (.ref e) s₁
theorem Raise_fault {x : Expr} {pos : Pos} {Q : Flow → Shared → Prop} (hh : A.handled = none)
    (h : wpAny M A (eval x env) (RaiseD E) E s) :
    wpAny M A (exec (.Raise (some x) none pos) env) Q E s := by
  show wpAny M A (do standAt pos; raiseStmt env (some (do let v ← eval x env; standAt pos; pure v)) none) Q E s
  refine wpAny_bind (wpAny_standAt (raise_fault hh ?_))
  exact wpAny_bind (wpAny_mono h (fun v s₁ h₁ => wpAny_bind (wpAny_standAt (wpAny_pure h₁))) fun _ _ x => x)
end
end Mine
end
/-! S3 -/
section
open PySem PySem.W PyProof.Rows PySem.Calls
namespace Mine
theorem off_S3 : True := by
  w_top off
  trivial
local macro_rules | `(tactic| walk_at "call builtin:str.find") => `(tactic| (k_here; k_dflt (refine' find_star ?a ?b ?c ?_; (case a => omega); (case b => assumption); (case c => assumption)); intro c9 t9 k9 hf9))
local macro_rules | `(tactic| walk_at "mine plain") => `(tactic| (refine wpAny_call ?_; k_dflt (refine' enterF ?k1 ?k2 ?k3 ?k4 ?k5 ?kA ?kF ?kK ?k6 ?k7 ?k8 ?k9 ?kB ?_ ?c2 ?c3 ?c4 ?c5; (case kA => exact rfl); (case kF => exact rfl); (case kK => assumption); (case k1 => k_asm); (case k2 => k_asm); (case k3 => k_asm); (case k4 => k_asm); (case k5 => k_asm); (case k6 => k_is); (case k7 => k_is); (case k8 => ktr_room); (case k9 => exact BindsTo.of_eq rfl); (case c5 => decide); (case kB => exact locs rfl); (case c2 => exact rfl); (case c3 => exact rfl); (case c4 => exact rfl); k_whole; intro g' L' h' FG' F' N' hR' B' X' T'; (try dsimp only); (try k_lift B'); (try k_fold))))
local macro_rules | `(tactic| walk_at "subscriptTail") => `(tactic| (k_here; (with_reducible show wpAny _ _ (subscriptTail _ _ (Value.str _ _) (Value.int _ _)) _ _ _); k_dflt (refine' item_char ?a ?b ?c ?_; (case a => omega); (case b => first | omega | l_fact); (case c => assumption)); intro c9 t9 k9 hc9))
local macro_rules | `(tactic| walk_at "compareOp In str str") => `(tactic| (k_here; (with_reducible show wpAny _ _ (compareOp _ (Value.str (Str.mk _) _) _) _ _ _); k_dflt (refine in_blanks ?_)))
local macro_rules | `(tactic| walk_at "compareOp Eq str str") => `(tactic| (k_here; (with_reducible show wpAny _ _ (compareOp _ (Value.str (Str.mk _) _) (Value.str (Str.ofString "%") _)) _ _ _); refine eq37 ?_))
local macro_rules | `(tactic| walk_at "compareOp Eq str str") => `(tactic| (k_here; (with_reducible show wpAny _ _ (compareOp _ (Value.str (Txt.slice _ _ _) _) _) _ _ _); (refine' eq_star ?a ?b ?c ?_; (case a => omega); (case b => first | omega | l_fact); (case c => first | rfl | omega)); intro b9 hb9))
local macro_rules | `(tactic| walk_at "call ref") => `(tactic| (k_here; (with_reducible show wpAny _ _ (call (Value.ref 115) _) _ _ _); focus ((k_dflt (refine' sign_ok ?B ?F ?X ?NA ?T ?k ?dp ?un ?ne ?tx ?b ?e ?e0 ?_ ?_; (case B => k_asm); (case F => k_asm); (case X => k_asm); (case NA => exact Apart.mk (news_sub (by k_asm) (by lcg_sub)) News.nil (fun _ h => nomatch h)); (case T => k_asm); (case k => first | exact rfl | assumption); (case dp => ktr_room); (case un => ktr_units); (case ne => k_ne); (case tx => assumption); (case b => first | assumption | omega); (case e => assumption); (case e0 => assumption))); rotate_left; (intro hlt9 t9 h' tk' F' N' NR'); (clear NR'); rotate_right; (intro hlt9 c9 t9 h' tk' hc9 F' N' NR'); (clear NR'))))
local macro_rules | `(tactic| walk_at "exec Raise some none") => `(tactic| (k_here; k_dflt (refine' Raise_fault ?hh ?_; (case hh => first | rfl | assumption))))
local macro_rules | `(tactic| walk_at "call ref") => `(tactic| (k_here; (with_reducible show wpAny _ _ (call (Value.ref 88) _) _ _ _); k_dflt (refine' exc_ok ?B ?F ?X ?N ?T ?k ?dp ?un ?_; (case B => k_asm); (case F => k_asm); (case X => k_asm); (case N => k_asm); (case T => k_asm); (case k => first | exact rfl | assumption); (case dp => ktr_room); (case un => ktr_units)); intro e9 h9 tk9 dX9 tN9 k91 k92 F9 N9 le9 ld9 lx9))
set_option maxRecDepth 100000 in
set_option maxHeartbeats 8000000 in
theorem skip_ok {w : World} {mean : ExcName → Option Value} {mg mb : Str → Option Value}
  {dp un : Nat} {gd : Option (List Code)} {cn : Str} {cs : Scope} {a : Addr} {ccd : Value} {cl : List (Str × Addr)} {A₀ : Around} {h₀ : Heap} {L : Addr} {m : Str → Option Value} {s : Shared} {Q E : Value → Shared → Prop}
  {x dx : Addr} {rest : List (Addr × Obj)} {text : Str} {b e : Int} {r : Nat} {f : Bool} {k1 k2 k3 k4 t1 t2 t3 t4 : Tok}
  (B : Below A₀ h₀ [] h₀) (F : Fr h₀ L s.heap m) (X : (hd.heap_1 w.params).In h₀)
  (NA : Apart h₀ L s.heap [(x, instObj 174 dx), (dx, scanD w text b e k1 k2 k3 k4 t1 t2 t3 t4)] rest)
  (T : Top viewQ (looseW viewQ [Str.ofString "ESCAPES"]) mean mg mb h₀) (hk : cs.kind = .function) (hdp : dp + 20 < recursionLimit) (hun : un + 200 < cLine)
  (hne : @Ne Nat x dx) (htx : text.length ≤ 1000) (hb : 0 ≤ b) (hsk : Skips text.cps.toList e.toNat b.toNat r f) (he : e ≤ text.length) (he0 : 0 ≤ e)
  (hret1 : ∀ t h' tk', f = false → ∀ (q : Int), q = r → 0 ≤ q → Fr h₀ L h' m → News h₀ L h' [(x, instObj 174 dx), (dx, scanD w text q e k1 k2 k3 k4 t1 t t3 t4)] → News h₀ L h' rest → Q .none { s with heap := h', toks := tk' })
  (hret2 : ∀ ex dX tN T oT k5 k6 t5 t6 t h' tk', f = true → ∀ (q : Int), q = r → 0 ≤ q → Fr h₀ L h' m → News h₀ L h' ((T, oT) :: (dX, faultDict w q k5 k6 t5 t6) :: (ex, excT dX tN (.ref T)) :: [(x, instObj 174 dx), (dx, scanD w text q e k1 k2 k3 k4 t1 t t3 t4)]) → News h₀ L h' rest →
    TbOb oT .none → @Ne Nat T ex → @Ne Nat T dX → @Ne Nat ex dX → @Ne Nat x ex → @Ne Nat x T → @Ne Nat x dX → @Ne Nat dx ex → @Ne Nat dx T → @Ne Nat dx dX → (∀ p ∈ rest, p.1 ≠ ex ∧ p.1 ≠ T ∧ p.1 ≠ dX) → E (.ref ex) { s with heap := h', toks := tk' }) :
  wpAny (model PySem.Challenge.pw_qd0009_01 w) (ktrTop dp un gd cn cs L a ccd cl []) (call (.ref 122) [.ref x]) Q E s := by
  have _k : hd.heap_1 = hd.heap_1 ∧ PySem.Challenge.rw_qd0009_01 = PySem.Challenge.rw_qd0009_01 := by
    k_fill
    exact ⟨rfl, rfl⟩
  clear _k
  walk_at "mine plain"
  iterate 2 (first | (k_unfold; (try dsimp only)) | (k_end; wrow_close) | walk1 | (dsimp only; walk1) | (leave1; walk_say "STEP leave1"; try dsimp only) | fail "no step")
  with_unfolding_all refine' ksw_while (σ := Int × Tok) (fun (c : Int × Tok) => [(x, instObj 174 dx), (dx, scanD w text c.1 e k1 k2 k3 k4 t1 c.2 t3 t4)]) (fun (_ : Int × Tok) => []) (fun (_ : Int × Tok) => True) [Str.ofString "close"] (fun (c : Int × Tok) => 0 ≤ c.1 ∧ Skips text.cps.toList e.toNat c.1.toNat r f) (fun (c : Int × Tok) => (e - c.1).toNat) (b, t2) ?wF ?wN ?wf ?wk ?wp ?wt
  case wF => k_asm
  case wN => k_asm
  case wf => trivial
  case wk => exact fun _ h => nomatch h
  case wp => exact ⟨hb, hsk⟩
  rintro ⟨sp, tsp⟩ u h9 tk9 _ ⟨hP, hS⟩ F' N'
  dsimp only at hP hS N' ⊢
  iterate 36 (first | (k_unfold; (try dsimp only)) | (k_end; wrow_close) | walk1 | (dsimp only; walk1) | (leave1; walk_say "STEP leave1"; try dsimp only) | fail "no step")
  rotate_left
  iterate 17 (first | (k_unfold; (try dsimp only)) | (k_end; wrow_close) | walk1 | (dsimp only; walk1) | (leave1; walk_say "STEP leave1"; try dsimp only) | fail "no step")
  with_unfolding_all refine' ksw_while (σ := Int × Tok) (fun (c : Int × Tok) => [(x, instObj 174 dx), (dx, scanD w text c.1 e k1 k2 k3 k4 t1 c.2 t3 t4)]) (fun (_ : Int × Tok) => []) (fun (_ : Int × Tok) => True) [] (fun (c : Int × Tok) => sp ≤ c.1 ∧ c.1 ≤ e ∧ ∀ i : Nat, sp.toNat ≤ i → i < c.1.toNat → text.cps.toList[i]? ≠ some 10) (fun (c : Int × Tok) => (e - c.1).toNat) (sp, tsp) ?vF ?vN ?vf ?vk ?vp ?vt
  case vF => k_asm
  case vN => k_asm
  case vf => trivial
  case vk => exact fun _ h => nomatch h
  case vp => exact ⟨Int.le_refl _, by first | omega | l_fact, fun i h1 h2 => absurd h2 (by dsimp only; omega)⟩
  rintro ⟨sq, tsq⟩ uq h8 tk8 _ ⟨hQ1, hQ2, hQ3⟩ F' N'
  dsimp only at hQ1 hQ2 hQ3 N' ⊢
  iterate 20 (first | (k_unfold; (try dsimp only)) | (k_end; wrow_close) | walk1 | (dsimp only; walk1) | (leave1; walk_say "STEP leave1"; try dsimp only) | fail "no step")
  · repeat' (first | (k_unfold; (try dsimp only)) | (k_end; wrow_close) | walk1 | (dsimp only; walk1) | (leave1; walk_say "STEP leave1"; try dsimp only) | fail "no step")
    have q := line_end (sq := sq) hP hS (by assumption) (by assumption) (by assumption) hQ1 hQ2 hQ3 (Or.inr (by
      rename (List.any _ _ = true) => ha
      rw [any_nl, decide_eq_true_eq] at ha
      subst ha
      assumption))
    exact ksw_end (sq, tsq) (by k_asm) (by k_asm) (by lcg_sub) trivial (fun _ h => nomatch h) (fun z _ hz => by
      show (if [Str.ofString "close"].contains z = true then u z else _) = _
      rw [hz]
      rfl) q.1 q.2
  · repeat' (first | (k_unfold; (try dsimp only)) | (k_end; wrow_close) | walk1 | (dsimp only; walk1) | (leave1; walk_say "STEP leave1"; try dsimp only) | fail "no step")
    rename (List.any _ _ = false) => ha
    rw [any_nl, decide_eq_false_iff_not] at ha
    have q := nl_step hQ1 hP hQ3 (by assumption) ha (by assumption)
    exact ksw_end (sq + 1, _) (by k_asm) (by k_asm) (by lcg_sub) trivial (fun _ h => nomatch h) (fun z _ _ => rfl) q.1 q.2
  · repeat' (first | (k_unfold; (try dsimp only)) | (k_end; wrow_close) | walk1 | (dsimp only; walk1) | (leave1; walk_say "STEP leave1"; try dsimp only) | fail "no step")
    have q := line_end (sq := sq) hP hS (by assumption) (by assumption) (by assumption) hQ1 hQ2 hQ3 (Or.inl (by assumption))
    exact ksw_end (sq, tsq) (by k_asm) (by k_asm) (by lcg_sub) trivial (fun _ h => nomatch h) (fun z _ hz => by
      show (if [Str.ofString "close"].contains z = true then u z else _) = _
      rw [hz]
      rfl) q.1 q.2
  · iterate 76 (first | (k_unfold; (try dsimp only)) | (k_end; wrow_close) | walk1 | (dsimp only; walk1) | (leave1; walk_say "STEP leave1"; try dsimp only) | fail "no step")
    · rename_i e9 h9 tk9 dX9 tN9 k91 k92 F9 N9 le9 ld9 lx9
      rename (_ ↔ _) => hb9
      rename (FindIs _ _ _ _) => hf9
      have q := cut_end2 hP hS (by assumption) hb9 (by assumption) hf9 (by assumption)
      refine ⟨e9, dX9, tN9, rfl, cls88 (Frag.In.keeps (by assumption) F9.keep), (N9 (e9, faultObj dX9 tN9) (by simp)).1, ?_⟩
      refine leave_skip (env := envX cn cs L a ccd cl) rfl (by assumption) (by assumption) F9 N9 (by assumption) NA.two (fun p hp => Nat.ne_of_lt (le9 p hp)) (Nat.ne_of_gt lx9) rfl ?_
      intro h' T oT F' N' NR' tb a1 a2 a3 a4
      refine hret2 e9 dX9 tN9 T oT k91 k92 _ _ _ h' tk9 q.2 sp (by omega) hP F' N' NR' tb a1 a2 (Nat.ne_of_lt lx9) (Nat.ne_of_lt (le9 _ (.head _))) (a3 _ (.head _)) (Nat.ne_of_lt (ld9 _ (.head _))) (Nat.ne_of_lt (le9 _ (.tail _ (.head _)))) (a3 _ (.tail _ (.head _))) (Nat.ne_of_lt (ld9 _ (.tail _ (.head _)))) a4
    · repeat' (first | (k_unfold; (try dsimp only)) | (k_end; wrow_close) | walk1 | (dsimp only; walk1) | (leave1; walk_say "STEP leave1"; try dsimp only) | fail "no step")
      rename (_ ↔ _) => hb9
      rename (FindIs _ _ _ _) => hf9
      have q := star_end2 hP hS (by assumption) hb9 (by assumption) hf9 (by assumption)
      refine ksw_end (_ + 2, _) (by k_asm) (by k_asm) (by lcg_sub) trivial (fun _ h => nomatch h) ?_ q.1 q.2
      intro z _ hz
      have hz' : ¬ z = Str.ofString "close" := by rintro rfl; revert hz; decide +kernel
      show (if z = Str.ofString "close" then _ else (if [Str.ofString "close"].contains z = true then u z else _)) = _
      rw [if_neg hz', hz]
      rfl
    · repeat' (first | (k_unfold; (try dsimp only)) | (k_end; wrow_close) | walk1 | (dsimp only; walk1) | (leave1; walk_say "STEP leave1"; try dsimp only) | fail "no step")
      rename_i kF kN kT kX NR9
      rename (_ ↔ _) => hb9
      have q := sign_end2 hP hS (by assumption) (by assumption) (by assumption) (by assumption) (by assumption) hb9 (by assumption)
      exact hret1 _ _ _ q.2 sp (by omega) hP kF kN NR9
  · repeat' (first | (k_unfold; (try dsimp only)) | (k_end; wrow_close) | walk1 | (dsimp only; walk1) | (leave1; walk_say "STEP leave1"; try dsimp only) | fail "no step")
    rename_i kF kN kT kX NR9
    have q := done_end hS (by assumption)
    exact hret1 _ _ _ q.2 sp (by omega) hP kF kN NR9
  · have q := blank_end hP hS (by assumption) (by assumption) (by assumption)
    exact ksw_end (sp + 1, _) (by k_asm) (by k_asm) (by lcg_sub) trivial (fun _ h => nomatch h) (fun z _ hz => by
      show (if [Str.ofString "close"].contains z = true then u z else _) = _
      rw [hz]
      rfl) q.1 q.2
end Mine
end
/-! LW -/
section
open PySem PySem.W PyProof.Rows PySem.Calls
set_option maxRecDepth 100000
namespace Mine
theorem off_LW : True := by
  w_top off
  trivial
section
variable {prog : Program} {w : World} {A : Around} {E : Value → Shared → Prop} {s : Shared} {env : Env} {h₀ : Heap} {x : Str} {body : List Stmt} {Q : Flow → Shared → Prop}
/-- a loop over range with a word of one's own -/
theorem rng_iter {r : Addr} {b₀ : Int} {t₀ u₀ v₀ : Tok} {n : Nat} {m₀ : Str → Option Value} {news : List (Addr × Obj)} (J : Nat → (Str → Option Value) → List (Addr × Obj) → Prop)
    (hh : A.handled = none) (hr : IsRange s.heap r 0 b₀ 1 t₀ u₀ v₀) (hsmall : Builtin.Range.small 0 b₀ 1 = true) (hsz : Builtin.Range.rangeSize 0 b₀ 1 = (n : Int)) (F : Fr h₀ env.locals s.heap m₀) (N : News h₀ env.locals s.heap news) (hj : J 0 m₀ news)
    (turn : ∀ (i : Nat) v m₁ nx h tk own, i < n → OwnOff own (nx.map (·.1)) → (∀ p ∈ own, p.2.cls = .type "range_iterator") → J i m₁ nx → Fr h₀ env.locals h (fun y => if y = x then some v else m₁ y) → News h₀ env.locals h (nx ++ own) →
      wpAny (model prog w) A (execs body env) (InvPostG h₀ env.locals (J (i + 1)) own { s with heap := h, toks := tk } Q) E { s with heap := h, toks := tk })
    (done : ∀ m₁ nx h tk, J n m₁ nx → Fr h₀ env.locals h m₁ → News h₀ env.locals h nx → Q .next { s with heap := h, toks := tk }) :
    wpAny (model prog w) A (pyIter (.ref r)) (fun it s₂ => LoopAtV prog w A h₀ env x body Q E it s₂) E s := by
  refine wpAny_pyIter_range hr hsmall ?_
  have W : Walks prog w A s.heap.objs.size [s.heap.objs.size] [s.heap.objs.size] n (fun i v => i < n ∧ ∃ t, v = .int (0 + i * 1) t)
      (fun i h => IsRangeIter h s.heap.objs.size (0 + (i : Nat) * 1) ((n : Int) - (i : Nat)) 1) := (Walks.range hh _ 0 1 n).bound
  refine ⟨_, _, _, n, _, _, m₀, news, J, rfl, W, ?_, ?_, ?_, (by show IsRangeIter _ _ _ _ _; rw [hsz]; simpa using Heap.get?_push_size _ rfl), F.push _, (fun p hp => ⟨Heap.get?_push_of_some _ (N p hp).1, (N p hp).2⟩), hj, ?_, ?_⟩
  · intro hm
    exact absurd F.ns.lt ((List.mem_singleton.mp hm) ▸ Nat.lt_irrefl _)
  · intro b hb
    rw [List.mem_singleton.mp hb]
    exact next_is_new F
  · intro p hp hI
    exact absurd (Heap.lt_size (N p hp).1) ((List.mem_singleton.mp hI) ▸ Nat.lt_irrefl _)
  · rintro i v m₁ news₁ s₁ own ⟨hh', tk', rfl⟩ hin hP hJ hoff hown hget hmem hst' F₁ N₁
    have hI0 : h₀.get? s.heap.objs.size = none := next_is_new F
    have hsep : OwnOff own (news₁.map (·.1)) := by
      intro p hp b hb e
      obtain ⟨q, hq, rfl⟩ := List.mem_map.mp hb
      exact hoff q hq (e ▸ hown p hp)
    have hoI := hst'
    have hcl : ∀ p ∈ own, p.2.cls = .type "range_iterator" := by
      intro p hp
      have h1 := hget p hp
      rw [List.mem_singleton.mp (hown p hp)] at h1
      have h2 : some p.2 = _ := h1.symm.trans hoI
      rw [Option.some.inj h2]
    have N₂ : News h₀ env.locals hh' (news₁ ++ own) := fun p hp => N₁ p ((List.mem_append.mp hp).elim (fun h => List.mem_append.mpr (.inr h)) fun h => List.mem_append.mpr (.inl h))
    refine wpAny_mono (turn i v m₁ news₁ hh' tk' own hin hsep hcl hJ F₁ N₂) (fun f s₂ p => ?_) fun _ _ e => e
    have fin : InvEndG h₀ env.locals (J (i + 1)) own { s with heap := hh', toks := tk' } s₂ → LoopStepU h₀ env.locals [s.heap.objs.size] own (J (i + 1)) { s with heap := hh', toks := tk' } .next s₂ := by
      rintro ⟨h', tk, m', news', nx, e, F', N', hn, ho, ha, hm⟩
      refine ⟨rfl, h', tk, m', nx, e, F', fun p hp => N' p ((List.mem_append.mp hp).elim (ho p) (hn p)), fun p hp hq => ?_, hm⟩
      exact ha _ (hmem _ (.head _) hI0 _ hoI) p.1 (List.mem_map.mpr ⟨p, hp, rfl⟩) (List.mem_singleton.mp hq).symm
    cases f with
    | ret v => exact .ret p
    | brk => exact .brk p
    | next => exact .next (fin p)
    | cont => exact .cont (fin p)
  · rintro h' tk m' news' F' N' _ hJ
    exact done m' news' h' tk hJ F' N'
/-- what a turn leaves -/
def TurnEnd (h₀ : Heap) (L : Addr) (J : (Str → Option Value) → List (Addr × Obj) → Prop) (own : List (Addr × Obj)) (s₁ : Shared) (f : Flow) (s₂ : Shared) : Prop := f = .next ∧ InvEndG h₀ L J own s₁ s₂
/-- a loop over a list of the ledger, any target -/
theorem lst_iterT {target : Expr} {l : Addr} {vs : List Value} {nn : Nat} {m₀ : Str → Option Value} {news : List (Addr × Obj)} (J : Nat → (Str → Option Value) → List (Addr × Obj) → Prop)
    (hh : A.handled = none) (hl : (l, listOf vs.toArray nn) ∈ news) (F : Fr h₀ env.locals s.heap m₀) (N : News h₀ env.locals s.heap news) (hj : J 0 m₀ news)
    (turn : ∀ i v m₁ nx s₁ own, vs[i]? = some v → OwnOff own (nx.map (·.1)) → (l, listOf vs.toArray nn) ∈ nx → J i m₁ nx → Fr h₀ env.locals s₁.heap m₁ → News h₀ env.locals s₁.heap (nx ++ own) →
      wpAny (model prog w) A (assign target env v) (fun _ s₃ => wpAny (model prog w) A (execs body env) (TurnEnd h₀ env.locals (fun m' nx => (l, listOf vs.toArray nn) ∈ nx ∧ J (i + 1) m' nx) own s₁) E s₃) E s₁)
    (done : ∀ m₁ nx h tk, J vs.length m₁ nx → Fr h₀ env.locals h m₁ → News h₀ env.locals h nx → Q .next { s with heap := h, toks := tk }) :
    wpAny (model prog w) A (pyIter (.ref l)) (fun it s₂ => LoopAtT prog w A h₀ env target body Q E it s₂) E s := by
  have hol : s.heap.get? l = some (listOf vs.toArray nn) := (N _ hl).1
  have hls : s.heap.IsList l vs.toArray := ⟨_, hol, rfl, nn, rfl⟩
  have hne : l ≠ s.heap.objs.size := Nat.ne_of_lt (Heap.lt_size hol)
  refine wpAny_pyIter_list hls ?_
  have W := Walks.list (prog := prog) (w := w) hh s.heap.objs.size l hne vs.toArray
  have hlen : vs.toArray.size = vs.length := by simp
  rw [hlen] at W
  refine ⟨_, _, _, vs.length, _, _, m₀, news, (fun i m nx => (l, listOf vs.toArray nn) ∈ nx ∧ J i m nx), rfl, W, ?_, ?_, ?_, ⟨⟨_, Heap.get?_push_size _ rfl, rfl, rfl⟩, hls.at fun o e => Heap.get?_push_of_some _ e⟩, F.push _, (fun p hp => ⟨Heap.get?_push_of_some _ (N p hp).1, (N p hp).2⟩), (fun i s' v Q' st hQ' => letGo_listiter st.1 hQ'), ⟨hl, hj⟩, ?_, ?_⟩
  · intro hm
    rcases List.mem_cons.mp hm with e | hm
    · exact absurd F.ns.lt (e ▸ Nat.lt_irrefl _)
    · exact (N _ hl).2.1 ((List.mem_singleton.mp hm).symm)
  · intro b hb
    rw [List.mem_singleton.mp hb]
    exact next_is_new F
  · intro p hp hI
    exact absurd (Heap.lt_size (N p hp).1) ((List.mem_singleton.mp hI) ▸ Nat.lt_irrefl _)
  · intro i v m₁ nx s₁ own hin hP hJ hoff hown hget hfp hst F₁ N₁
    obtain ⟨hl₁, hJ⟩ := hJ
    have hP' : vs[i]? = some v := by simpa using hP
    have hI0 : h₀.get? s.heap.objs.size = none := next_is_new F
    obtain ⟨⟨oI, hoI, _⟩, _⟩ := id hst
    have hIown : (s.heap.objs.size, oI) ∈ own.filter fun p => decide (p.1 = s.heap.objs.size) := List.mem_filter.mpr ⟨hfp _ (List.mem_cons.mpr (.inl rfl)) hI0 _ hoI, by simp⟩
    have hsep : OwnOff (own.filter fun p => decide (p.1 = s.heap.objs.size)) (nx.map (·.1)) := by
      intro p hp b hb e
      obtain ⟨q, hq, rfl⟩ := List.mem_map.mp hb
      have h1 : p.1 = s.heap.objs.size := by simpa using (List.mem_filter.mp hp).2
      exact hoff q hq (List.mem_singleton.mpr (e ▸ h1))
    have N₂ : News h₀ env.locals s₁.heap (nx ++ own.filter fun p => decide (p.1 = s.heap.objs.size)) := fun p hp => N₁ p ((List.mem_append.mp hp).elim (fun h => List.mem_append.mpr (.inr h)) fun h => List.mem_append.mpr (.inl ((List.mem_filter.mp h).1)))
    have hlo : s₁.heap.get? l = some (listOf vs.toArray nn) := (N₁ _ (List.mem_append.mpr (.inr hl₁))).1
    refine wpAny_mono (turn i v m₁ nx s₁ _ hP' hsep hl₁ hJ F₁ N₂) (fun _ s₃ p => wpAny_mono p (fun f s₂ p => ?_) fun _ _ e => e) fun _ _ e => e
    obtain ⟨rfl, h', tk, m', news', nx', e, F', N', hn, ho, ha, hm⟩ := p
    refine ⟨rfl, h', tk, m', nx', e, F', fun p hp => ?_, fun p hp hq => ?_, hm⟩
    · rcases List.mem_append.mp hp with h | h
      · by_cases hI : p.1 = s.heap.objs.size
        · exact N' p (ho p (List.mem_filter.mpr ⟨h, by simpa using hI⟩))
        · have h1 : p.1 = l := by
            rcases List.mem_cons.mp (hown p h) with h2 | h2
            · exact absurd h2 hI
            · exact List.mem_singleton.mp h2
          have h2 : s₁.heap.get? p.1 = some p.2 := hget p h
          rw [h1, hlo] at h2
          have h3 : p = (l, listOf vs.toArray nn) := Prod.ext h1 (Option.some.inj h2).symm
          rw [h3]
          exact N' _ (hn _ hm.1)
      · exact N' p (hn p h)
    · exact ha _ hIown p.1 (List.mem_map.mpr ⟨p, hp, rfl⟩) (List.mem_singleton.mp hq).symm
  · rintro h' tk m' news' F' N' _ ⟨_, hJ⟩
    exact done m' news' h' tk hJ F' N'
end
end Mine
end
/-! V1 -/
section
open PySem PySem.W PyProof.Rows PySem.Calls
namespace Mine
theorem off_V1 : True := by
  w_top off
  trivial
/-- the law's body and its names -/
def lawParts : List Stmt × Scope := match PySem.Challenge.pw_qd0009_01.main.body.getLast? with
  | some (.FunctionDef _ _ body _ _ _ scope _ _ _) => (body, scope)
  | _ => ([], { kind := .module, names := [], isGenerator := false, isCoroutine := false })
def lawRest : List Stmt := lawParts.1.tail
def lawScope : Scope := lawParts.2
abbrev lawEnv (L fa : Addr) (cd : Value) : Env := envOfC (Str.ofString "law") lawScope L fa cd
theorem fr_at {h₀ h : Heap} {L : Addr} {m : Str → Option Value} {x : Str} {v : Value} (F : Fr h₀ L h m) (hm : m x = some v) : Fr h₀ L h (fun y => if y = x then some v else m y) := by
  have e : (fun y => if y = x then some v else m y) = m := by
    funext y
    by_cases h : y = x
    · subst h; simp [hm]
    · simp [h]
  rw [e]; exact F
/-- what the stretches have built: text, starts, remarks -/
inductive Built : Nat → Str → List Nat → List (Nat × Nat) → Prop
  | nil : Built 0 (Str.ofString "") [] []
  | plain {n : Nat} {x p : Str} {ss : List Nat} {rs : List (Nat × Nat)} : Built n x ss rs → Plain p → Built (n + 1) (x ++ p) (ss ++ [x.length]) rs
  | star {n : Nat} {x p : Str} {ss : List Nat} {rs : List (Nat × Nat)} : Built n x ss rs → Star p → Built (n + 1) (x ++ p) (ss ++ [x.length]) (rs ++ [(x.length, x.length + p.length)])
theorem plain_length {p : Str} (h : Plain p) : p.length ≤ 14 := by
  rcases h with h | ⟨is, h1, h2, rfl⟩
  · have : ∀ x ∈ blanks, x.length ≤ 14 := by decide +kernel
    exact this p h
  · have := join_short lined_short h1 h2
    simp only [Str.length_append]
    have e1 : (Str.ofString "%").length = 1 := by decide +kernel
    have e2 : (Str.ofString "\n").length = 1 := by decide +kernel
    omega
theorem star_length {p : Str} (h : Star p) : p.length ≤ 14 := by
  obtain ⟨is, h1, h2, h⟩ := h
  have := join_short starred_short h1 h2
  have e1 : (Str.ofString "/*").length = 2 := by decide +kernel
  have e2 : (Str.ofString "*/").length = 2 := by decide +kernel
  have e3 : (Str.ofString "**/").length = 3 := by decide +kernel
  rcases h with rfl | rfl <;> simp only [Str.length_append] <;> omega
theorem Built.length {n : Nat} {x : Str} {ss : List Nat} {rs : List (Nat × Nat)} (h : Built n x ss rs) : x.length ≤ 14 * n ∧ ss.length = n ∧ rs.length ≤ n := by
  induction h with
  | nil => exact ⟨by decide +kernel, rfl, Nat.le_refl _⟩
  | plain _ hp ih => have := plain_length hp; simp only [Str.length_append, List.length_append, List.length_singleton]; omega
  | star _ hp ih => have := star_length hp; simp only [Str.length_append, List.length_append, List.length_singleton]; omega
/-- the told pairs stand in the ledger -/
noncomputable def PairsIn (tl : List (Addr × Obj)) : List Value → List (Nat × Nat) → Prop
  | [], [] => True
  | v :: vs, r :: rs => (∃ tA t1 t2, v = .ref tA ∧ (tA, pairOf r.1 r.2 t1 t2) ∈ tl) ∧ PairsIn tl vs rs
  | _, _ => False
noncomputable def IntsOf : List Value → List Nat → Prop
  | [], [] => True
  | v :: vs, n :: ns => (∃ t, v = .int n t) ∧ IntsOf vs ns
  | _, _ => False
theorem IntsOf.snoc {n : Nat} {t : Tok} : ∀ {vs : List Value} {ns : List Nat}, IntsOf vs ns → IntsOf (vs ++ [.int n t]) (ns ++ [n])
  | [], [], _ => ⟨⟨t, rfl⟩, trivial⟩
  | _ :: _, _ :: _, ⟨a, b⟩ => ⟨a, b.snoc⟩
theorem IntsOf.length : ∀ {vs : List Value} {ns : List Nat}, IntsOf vs ns → vs.length = ns.length
  | [], [], _ => rfl
  | _ :: _, _ :: _, ⟨_, b⟩ => by simp [b.length]
theorem PairsIn.more {tl tl' : List (Addr × Obj)} (hs : ∀ p ∈ tl, p ∈ tl') : ∀ {vs : List Value} {rs : List (Nat × Nat)}, PairsIn tl vs rs → PairsIn tl' vs rs
  | [], [], _ => trivial
  | _ :: _, _ :: _, ⟨⟨tA, t1, t2, e, h⟩, b⟩ => ⟨⟨tA, t1, t2, e, hs _ h⟩, b.more hs⟩
theorem PairsIn.snoc {tl : List (Addr × Obj)} {tA : Addr} {r : Nat × Nat} {t1 t2 : Tok} (hm : (tA, pairOf r.1 r.2 t1 t2) ∈ tl) : ∀ {vs : List Value} {rs : List (Nat × Nat)}, PairsIn tl vs rs → PairsIn tl (vs ++ [.ref tA]) (rs ++ [r])
  | [], [], _ => ⟨⟨tA, t1, t2, rfl, hm⟩, trivial⟩
  | _ :: _, _ :: _, ⟨a, b⟩ => ⟨a, b.snoc hm⟩
theorem PairsIn.length {tl : List (Addr × Obj)} : ∀ {vs : List Value} {rs : List (Nat × Nat)}, PairsIn tl vs rs → vs.length = rs.length
  | [], [], _ => rfl
  | _ :: _, _ :: _, ⟨_, b⟩ => by simp [b.length]
/-- the law's ledger after i stretches -/
structure Led (w : World) (d lC lS lR : Addr) (keep : List (Addr × Obj)) (i : Nat) (m : Str → Option Value) (nx : List (Addr × Obj)) (text : Str) (ss : List Nat) (rs : List (Nat × Nat)) (place : Int) (o : Obj) (vS vR : List Value) (nS nR : Nat) (tl : List (Addr × Obj)) : Prop where
  feed : m (Str.ofString "feed") = some (.ref d)
  eq : nx = (d, o) :: (lS, listOf vS.toArray nS) :: (lR, listOf vR.toArray nR) :: tl
  kept : ∀ p ∈ keep, p ∈ tl
  off : ∀ p ∈ tl, p.1 ≠ d ∧ p.1 ≠ lS ∧ p.1 ≠ lR
  dict : FeedIs PySem.Challenge.pw_qd0009_01 w lC lS lR place text o
  p0 : 0 ≤ place
  p1 : place ≤ 10 * i + 1
  built : Built i text ss rs
  nums : IntsOf vS ss
  prs : PairsIn tl vR rs
def LedAt (w : World) (d lC lS lR : Addr) (keep : List (Addr × Obj)) (i : Nat) (m : Str → Option Value) (nx : List (Addr × Obj)) : Prop := ∃ text ss rs place o vS vR nS nR tl, Led w d lC lS lR keep i m nx text ss rs place o vS vR nS nR tl
theorem law_dip {prog : Program} {w : World} {mean : ExcName → Option Value} {mg mb : Str → Option Value}
  {gd : Option (List Code)} {dp un : Nat} {cn : Str} {cs : Scope} {a : Addr} {ccd : Value} {cl : List (Str × Addr)} {outer : List Env} {A₀ : Around} {base h₀ : Heap} {L : Addr} {m : Str → Option Value} {s : Shared} {Q E : Value → Shared → Prop}
  {d lC lS lR : Addr} {o : Obj} {rest : List (Addr × Obj)} {ys : List Value} {cells : List Int} {place many : Int} {tm : Tok} {text : Str}
  (B : Below A₀ base outer h₀) (F : Fr h₀ L s.heap m) (X : (hd.heap_1 w.params).In h₀) (N : News h₀ L s.heap ((d, o) :: rest))
  (T : Top viewQ (looseW viewQ [Str.ofString "ESCAPES"]) mean mg mb h₀) (hk : cs.kind = .function) (hdp : dp + 1 < recursionLimit) (hun : un + 8 < cLine)
  (hoff : ∀ p ∈ rest, p.1 ≠ d) (hC : (lC, LCg.lst ys) ∈ rest) (hI : IntsAre ys cells) (hl : cells.length ≤ 60) (hp0 : 0 ≤ place) (hp1 : place ≤ 1000) (hm : 0 < many) (hm1 : many ≤ 10000) (hD : FeedIs prog w lC lS lR place text o)
  (hret : ∀ r t h' tk' o', 0 ≤ r → r < many → FeedIs prog w lC lS lR (place + 1) text o' → Fr h₀ L h' m → News h₀ L h' ((d, o') :: rest) → Q (.int r t) { s with heap := h', toks := tk' }) :
  wpAny (model prog w) (ktrTop dp un gd cn cs L a ccd cl outer) (call (.ref 188) [.ref d, .int many tm]) Q E s := by
  refine dip_ok B F X (upd_split (pre := []) N (by simp) hoff) T hk hdp hun (.inr ⟨LCg.lst ys, hC, rfl, _, rfl⟩) hI hp0 hp1 hm hm1 hl hD ?_
  intro r t h' tk' o' h1 h2 h3 F' N' NR'
  exact hret r t h' tk' o' h1 h2 h3 F' (upd_join (pre := []) N' NR')
end Mine
end
/-! V2 -/
section
open PySem PySem.W PyProof.Rows PySem.Calls
namespace Mine
theorem off_V2 : True := by
  w_top off
  trivial
local macro_rules | `(tactic| walk_at "pad 0") => `(tactic| skip)
local macro_rules | `(tactic| walk_at "pad 1") => `(tactic| skip)
local macro_rules | `(tactic| walk_at "pad 2") => `(tactic| skip)
local macro_rules | `(tactic| walk_at "call ref") => `(tactic| (k_here; (with_reducible show wpAny _ _ (call (Value.ref 188) _) _ _ _); k_dflt (refine' law_dip ?B ?F ?X ?N ?T ?k ?dp ?un ?off ?C ?I ?l ?p0 ?p1 ?m0 ?m1 ?D ?_; (case B => k_asm); (case F => k_asm); (case X => k_asm); (case N => k_asm); (case T => k_asm); (case k => first | exact rfl | assumption); (case dp => ktr_room); (case un => ktr_units); (case off => assumption); (case C => assumption); (case I => assumption); (case l => assumption); (case p0 => omega); (case p1 => omega); (case m0 => omega); (case m1 => omega); (case D => assumption)); intro r9 t9 h' tk' o' hr0 hr1 hD' F' N'))
def lawFor : Stmt := lawRest.headD (.Pass ⟨0, 0, 0, 0⟩)
set_option maxRecDepth 100000 in
set_option maxHeartbeats 8000000 in
theorem law_loop {w : World} {mean : ExcName → Option Value} {mg mb : Str → Option Value} {L fa : Addr} {cd : Value} {h₀ : Heap} {m : Str → Option Value} {s : Shared} {Q : Flow → Shared → Prop}
  {d lC lS lR : Addr} {o : Obj} {keep : List (Addr × Obj)} {ys : List Value} {cells : List Int}
  (B : Below callerA h₀ [] h₀) (F : Fr h₀ L s.heap m) (X : (hd.heap_1 w.params).In h₀) (hm : m (Str.ofString "feed") = some (.ref d))
  (T : Top viewQ (looseW viewQ [Str.ofString "ESCAPES"]) mean mg mb h₀)
  (N : News h₀ L s.heap ((d, o) :: (lS, listOf #[] 0) :: (lR, listOf #[] 0) :: keep)) (hoff : ∀ p ∈ keep, p.1 ≠ d ∧ p.1 ≠ lS ∧ p.1 ≠ lR)
  (hne1 : @Ne Nat lS d) (hne2 : @Ne Nat lR d) (hne3 : @Ne Nat lS lR)
  (hC : (lC, LCg.lst ys) ∈ keep) (hI : IntsAre ys cells) (hl : cells.length ≤ 60) (hD : FeedIs PySem.Challenge.pw_qd0009_01 w lC lS lR 0 (Str.ofString "") o)
  (hQ : ∀ n m' nx h' tk', n ≤ 5 → LedAt w d lC lS lR keep n m' nx → Fr h₀ L h' m' → News h₀ L h' nx → Q .next { s with heap := h', toks := tk' }) :
  wpAny (model PySem.Challenge.pw_qd0009_01 w) (callerA.deeper (lawEnv L fa cd)) (exec lawFor (lawEnv L fa cd)) Q (fun _ _ => False) s := by
  have _k : hd.heap_1 = hd.heap_1 ∧ PySem.Challenge.rw_qd0009_01 = PySem.Challenge.rw_qd0009_01 := by
    k_fill
    exact ⟨rfl, rfl⟩
  clear _k
  with_unfolding_all show wpAny _ (Around.deeper callerA (envOfC _ (Scope.mk _ _ _ _ _) _ _ _)) (exec (Stmt.For _ _ _ _ _) (envOfC _ (Scope.mk _ _ _ _ _) _ _ _)) _ _ _
  have F0 := fr_at F hm
  clear F
  have hoff1 : ∀ p ∈ ((lS, listOf #[] 0) :: (lR, listOf #[] 0) :: keep), p.1 ≠ d := fun p hp => by
    rcases List.mem_cons.mp hp with rfl | hp
    · exact hne1
    · rcases List.mem_cons.mp hp with rfl | hp
      · exact hne2
      · exact (hoff p hp).1
  have hC1 : (lC, LCg.lst ys) ∈ ((lS, listOf #[] 0) :: (lR, listOf #[] 0) :: keep) := by simp [hC]
  with_unfolding_all refine' For_invVF F0 ?k1 ?k2 ?_
  case k1 => exact rfl
  case k2 => exact rfl
  iterate 13 (first | (k_unfold; (try dsimp only)) | (k_end; wrow_close) | walk1 | (dsimp only; walk1) | (leave1; walk_say "STEP leave1"; try dsimp only) | fail "no step")
  with_unfolding_all refine' law_dip ?B ?F ?X ?N ?T ?k ?dp ?un ?off ?C ?I ?l ?p0 ?p1 ?m0 ?m1 ?D ?_
  case B => k_asm
  case F => k_asm
  case X => k_asm
  case N => k_asm
  case T => k_asm
  case k => rfl
  case dp => ktr_room
  case un => ktr_units
  case off => exact hoff1
  case C => exact hC1
  case I => exact hI
  case l => exact hl
  case D => exact hD
  any_goals omega
  intro r9 t9 h' tk' o' hr0 hr1 hD' F' N'
  iterate 1 (first | (k_unfold; (try dsimp only)) | (k_end; wrow_close) | walk1 | (dsimp only; walk1) | (leave1; walk_say "STEP leave1"; try dsimp only) | fail "no step")
  refine call_range_1 ?_
  have hn6 : r9.toNat ≤ 5 := by omega
  with_unfolding_all refine rng_iter (n := r9.toNat) (LedAt w d lC lS lR keep) rfl (IsRange.new _ _ _ _ _ _ _) (small_one (by omega) (by omega) (by omega) (by omega)) (by rw [rangeSize_nat]; congr 1; omega) (F'.push _) (N'.pushKeep _) ?_ ?_ ?_
  · exact ⟨_, _, _, _, o', [], [], 0, 0, keep, by simp, rfl, fun _ h => h, hoff, hD', by omega, by omega, .nil, trivial, trivial⟩
  · intro i v m₁ nx h tk own hi hoo hown ⟨text, ss, rs, place, o, vS, vR, nS, nR, tl, H⟩ F₁ N₁
    obtain ⟨H1, rfl, H3, H4, H5, H6, H7, H8, H9, H10⟩ := H
    have F₂ := fr_at (x := Str.ofString "feed") (v := .ref d) F₁ (by rw [if_neg (by decide +kernel)]; exact H1)
    clear F₁ F' N' hD' F0 N hD
    obtain ⟨b1, b2, b3⟩ := H8.length
    have c1 := H9.length
    have c2 := H10.length
    have hCt : (lC, LCg.lst ys) ∈ tl := H3 _ hC
    have hoo2 : ∀ p ∈ own, p.1 ≠ d ∧ p.1 ≠ lS ∧ p.1 ≠ lR := fun p hp => ⟨hoo p hp _ (by simp), hoo p hp _ (by simp), hoo p hp _ (by simp)⟩
    have hall : ∀ p ∈ tl ++ own, p.1 ≠ d ∧ p.1 ≠ lS ∧ p.1 ≠ lR := fun p hp => (List.mem_append.mp hp).elim (H4 p) (hoo2 p)
    have NA : Apart h₀ L h [(d, o), (lS, listOf vS.toArray nS), (lR, listOf vR.toArray nR)] (tl ++ own) := ⟨news_sub N₁ (by simp), news_sub N₁ (fun p hp => (List.mem_append.mp hp).elim (fun q => by simp [q]) fun q => by simp [q]), fun p hp hq => by
      obtain ⟨a1, a2, a3⟩ := hall p hp
      simp at hq
      rcases hq with q | q | q
      · exact a1 q
      · exact a2 q
      · exact a3 q⟩
    iterate 9 (first | (k_unfold; (try dsimp only)) | (k_end; wrow_close) | walk1 | (dsimp only; walk1) | (leave1; walk_say "STEP leave1"; try dsimp only) | fail "no step")
    with_unfolding_all refine' stretch_ok (rest := tl ++ own) (ys := ys) (cells := cells) (place := place) (text := text) ?B2 ?F2 ?X2 NA ?T2 ?k2 ?dp2 ?un2 ?C2 ?ne2 hne1 hne2 hne3 hI H6 ?p12 hl ?s12 ?s22 ?tx2 H5 ?_ ?_
    case B2 => k_asm
    case F2 => k_asm
    case X2 => k_asm
    case T2 => k_asm
    case k2 => rfl
    case dp2 => ktr_room
    case un2 => ktr_units
    case C2 => exact .inr ⟨LCg.lst ys, by simp [hCt], rfl, _, rfl⟩
    case ne2 => exact (H4 _ hCt).1
    case p12 => omega
    case s12 => simp; omega
    case s22 => simp; omega
    case tx2 => omega
    · intro p t h' tk' o' place' hD' hp h1 h2 F' N' NR'
      iterate 2 (first | (k_unfold; (try dsimp only)) | (k_end; wrow_close) | walk1 | (dsimp only; walk1) | (leave1; walk_say "STEP leave1"; try dsimp only) | fail "no step")
      rw [List.push_toArray] at N'
      refine InvEndG.intro (nx := (d, o') :: (lS, listOf (vS ++ [Value.int text.length t]).toArray (nS + 1)) :: (lR, listOf vR.toArray nR) :: tl) F' (N'.append NR') ⟨text ++ p, ss ++ [text.length], rs, place', o', vS ++ [.int text.length t], vR, nS + 1, nR, tl, ⟨by simp, rfl, H3, H4, hD', by omega, by omega, .plain H8 hp, H9.snoc, H10⟩⟩ ?_ ?_ ?_
      · intro q hq b hb
        simp only [List.map_cons, List.mem_cons] at hb
        exact hoo q hq b (by simpa using hb)
      · intro q hq
        simp only [List.mem_cons, List.mem_append, List.not_mem_nil, or_false] at hq ⊢
        rcases hq with h | h | h | h <;> simp [h]
      · intro q hq
        simp [hq]
    · intro p t t1 t2 h' tk' o' place' e tA hD' hp h1 h2 F' N' he n1 n2 n3 NR'
      iterate 2 (first | (k_unfold; (try dsimp only)) | (k_end; wrow_close) | walk1 | (dsimp only; walk1) | (leave1; walk_say "STEP leave1"; try dsimp only) | fail "no step")
      rw [List.push_toArray, List.push_toArray] at N'
      have he' : e = ((text.length + p.length : Nat) : Int) := by omega
      subst he'
      have hA := (N' (tA, pairOf text.length ((text.length + p.length : Nat) : Int) t1 t2) (by simp)).1
      refine InvEndG.intro (nx := (d, o') :: (lS, listOf (vS ++ [Value.int text.length t]).toArray (nS + 1)) :: (lR, listOf (vR ++ [Value.ref tA]).toArray (nR + 1)) :: (tA, pairOf text.length ((text.length + p.length : Nat) : Int) t1 t2) :: tl) F' (N'.append NR') ⟨text ++ p, ss ++ [text.length], rs ++ [(text.length, text.length + p.length)], place', o', vS ++ [.int text.length t], vR ++ [.ref tA], nS + 1, nR + 1, (tA, pairOf text.length ((text.length + p.length : Nat) : Int) t1 t2) :: tl, ⟨by simp, rfl, fun q hq => List.mem_cons_of_mem _ (H3 q hq), ?_, hD', by omega, by omega, .star H8 hp, H9.snoc, PairsIn.snoc (r := (text.length, text.length + p.length)) (tA := tA) (t1 := t1) (t2 := t2) (.head _) (H10.more fun q hq => List.mem_cons_of_mem _ hq)⟩⟩ ?_ ?_ ?_
      · intro q hq
        rcases List.mem_cons.mp hq with rfl | hq
        · exact ⟨n1, n2, n3⟩
        · exact H4 q hq
      · intro q hq b hb
        simp only [List.map_cons, List.mem_cons] at hb
        rcases hb with h | h | h | h | h
        · exact hoo q hq b (by simp [h])
        · exact hoo q hq b (by simp [h])
        · exact hoo q hq b (by simp [h])
        · subst h
          intro e
          have h1 := (NR' q (List.mem_append_right _ hq)).1
          rw [e, hA] at h1
          have h2 := hown q hq
          rw [← Option.some.inj h1] at h2
          exact absurd (show Value.type "tuple" = Value.type "range_iterator" from h2) (by decide)
        · exact hoo q hq b (by simp [h])
      · intro q hq
        simp only [List.mem_cons, List.mem_append, List.not_mem_nil, or_false] at hq ⊢
        rcases hq with h | h | h | h | h <;> simp [h]
      · intro q hq
        simp [hq]
  · intro m₁ nx h tk hJ F₁ N₁
    exact hQ _ m₁ nx h tk hn6 hJ F₁ N₁
end Mine
end
/-! V4 -/
section
open PySem PySem.W PyProof.Rows PySem.Calls PyProof.Rows.LCg PySem.Spec
set_option maxRecDepth 100000
set_option maxHeartbeats 4000000
namespace Mine
theorem off_V4 : True := by
  w_top off
  trivial
/-- a turn's end: the test's answer, the place's value; nothing written -/
def CutEnd (s : Shared) (h : Heap) (sp : Nat) (want ok : Bool) (y : Value) (s' : Shared) : Prop := ok = want ∧ (∃ tk, s' = { s with heap := h, toks := tk }) ∧ (ok = true → ∃ t, y = .int sp t)
section
variable {prog : Program} {w : World} {A : Around} {E : Value → Shared → Prop} {s : Shared} {h₀ : Heap} {L : Addr} {m : Str → Option Value} {env : Env}
theorem PairsIn.get {tl : List (Addr × Obj)} : ∀ {vs : List Value} {rs : List (Nat × Nat)}, PairsIn tl vs rs → ∀ {i : Nat} {v : Value}, vs[i]? = some v → ∃ r, rs[i]? = some r ∧ ∃ tA t1 t2, v = .ref tA ∧ (tA, pairOf r.1 r.2 t1 t2) ∈ tl
  | [], [], _, i, v, h => by simp at h
  | x :: vs, r :: rs, ⟨a, b⟩, 0, v, h => by
    simp only [List.getElem?_cons_zero, Option.some.injEq] at h
    subst h
    exact ⟨r, rfl, a⟩
  | x :: vs, r :: rs, ⟨a, b⟩, i + 1, v, h => by
    simp only [List.getElem?_cons_succ] at h ⊢
    exact b.get h
def cutWith (P : Nat × Nat → Bool) (rs : List (Nat × Nat)) : List Nat := (rs.filter P).map (·.1)
theorem cut_take {P : Nat × Nat → Bool} {rs : List (Nat × Nat)} {i : Nat} {r : Nat × Nat} (h : rs[i]? = some r) : cutWith P (rs.take (i + 1)) = if P r = true then cutWith P (rs.take i) ++ [r.1] else cutWith P (rs.take i) := by
  unfold cutWith
  rw [List.take_add_one, h, List.filter_append, List.map_append]
  by_cases hp : P r = true
  · simp [hp]
  · simp [hp]
theorem cut_block {elt iter ct : Expr} {x x₂ : Str} {px px₂ tp : Pos} {kk} {scope : Scope} {cl : List (Str × Addr)} {pos : Pos} {s₂ : Shared} {I lR : Addr} {vs : List Value} {rs : List (Nat × Nat)} {P : Nat × Nat → Bool} {news : List (Addr × Obj)} {RR : Value → Addr → Result → Shared → Prop}
    (hsz : vs.length ≤ 100) (hp : PairsIn news vs rs) {nR : Nat} (hmR : (lR, listOf vs.toArray nR) ∈ news) (hst : s₂.heap.IsListIter I lR 0) (hlI : lR ≠ I) (hlt : I < s₂.heap.objs.size)
    (hcell : ∀ y ∈ scope.names, y.2 ≠ .cell) (hkind : scope.kind = .function) (hx : scope.names.lookup x = some .local) (hx₂ : scope.names.lookup x₂ = some .local) (hxx : x ≠ x₂) (hh : A.handled = none)
    (F : Fr h₀ L s₂.heap m) (N : News h₀ L s₂.heap news) (hIL : L ≠ I) (hI₀ : h₀.get? I = none) (off : ∀ p ∈ news, p.1 ≠ I)
    (turn : ∀ (r : Nat × Nat) t1 t2 I oI C oC D ys m₂ h tk (E' : Value → Shared → Prop), NsObj oC m₂ → m₂ x = some (.int r.1 t1) → m₂ x₂ = some (.int r.2 t2) → Fr h₀ L h m → News h₀ L h ((I, oI) :: (C, oC) :: (D, lst ys) :: news) → Off3 I C D news → ((@Ne Nat I C) ∧ (@Ne Nat I D) ∧ (@Ne Nat C D)) →
      wpAny (model prog w) A (isTrue ct (compEnvC scope cl C env) (eval ct (compEnvC scope cl C env))) (fun okb s₃ => if okb = true then wpAny (model prog w) A (eval elt (compEnvC scope cl C env)) (CutEnd s₂ h r.1 (P r) true) E' s₃
        else CutEnd s₂ h r.1 (P r) false .none s₃) E' { s₂ with heap := h, toks := tk })
    (hRR : ∀ D C h tk m' ys, Fr h₀ L h m → News h₀ L h ((D, lst ys) :: news) → (∀ p ∈ news, p.1 < D) → h.Ns C m' → h₀.get? C = none → h₀.get? D = none → C ≠ L → D ≠ L → C ≠ D → (∀ p ∈ news, p.1 ≠ C) → IntsOf ys (cutWith P rs) → RR (.ref D) C (.ok .next) { s₂ with heap := h, toks := tk }) :
    wpAny (model prog w) A (newList []) (fun acc s₃ => wpAny (model prog w) A (newFunctionEnv scope env.globals cl [] env.qual none .none (some env)) (fun cenv s₄ =>
      codeAny (model prog w) A (.compStart (.ListComp elt [⟨.Tuple [.Name x px, .Name x₂ px₂] kk tp, iter, [ct], 0⟩] scope pos) 0 (.ref I) acc { cenv with scope := relabel scope env }) (RR acc cenv.locals) s₄) E s₃) E s₂ := by
  refine wpAny_newObj_type (wpAny_newFunctionEnv hcell (by intro y hy; simp at hy) (fun h₁ hns₁ hsb₁ => ?_) hkind)
  dsimp only at hns₁ hsb₁ ⊢
  generalize hH2 : s₂.heap.push { cls := .type "list", dict := none, data := .seq ([] : List Value).toArray } = H2 at hns₁ hsb₁ ⊢
  have hC : H2.objs.size = s₂.heap.objs.size + 1 := by rw [← hH2, Heap.size_push]
  have hDC : s₂.heap.objs.size ≠ H2.objs.size := by rw [hC]; exact Nat.ne_of_lt (Nat.lt_succ_self _)
  have below : ∀ b, b < s₂.heap.objs.size → b ≠ H2.objs.size ∧ b ≠ s₂.heap.objs.size := fun b hb => ⟨by rw [hC]; exact Nat.ne_of_lt (Nat.lt_succ_of_lt hb), Nat.ne_of_lt hb⟩
  have old : ∀ b o, s₂.heap.get? b = some o → h₁.get? b = some o := fun b o e => hsb₁.extBut b o (below b (Heap.lt_size e)).1 (Heap.get?_push_of_some _ (hH2 ▸ Heap.get?_push_of_some _ e))
  have hacc : h₁.get? s₂.heap.objs.size = some (lst []) := hsb₁.extBut _ _ hDC (Heap.get?_push_of_some _ (hH2 ▸ Heap.get?_push_size _ rfl))
  have fresh : ∀ a, s₂.heap.objs.size ≤ a → s₂.heap.get? a = none := fun a ha => by
    cases e : s₂.heap.get? a with
    | none => rfl
    | some o' => exact absurd (Heap.lt_size e) (Nat.not_lt.mpr ha)
  have fresh₀ : ∀ a, s₂.heap.objs.size ≤ a → h₀.get? a = none := fun a ha => by
    cases e : h₀.get? a with
    | none => rfl
    | some o' => have := F.keep a o' e; rw [fresh a ha] at this; cases this
  have hD₀ : h₀.get? s₂.heap.objs.size = none := fresh₀ _ (Nat.le_refl _)
  have hC₀ : h₀.get? H2.objs.size = none := fresh₀ _ (by rw [hC]; exact Nat.le_succ _)
  have hLlt : L < s₂.heap.objs.size := F.ns.lt
  have hDL : s₂.heap.objs.size ≠ L := Ne.symm (below L hLlt).2
  have hCL : H2.objs.size ≠ L := Ne.symm (below L hLlt).1
  have hCI : I ≠ H2.objs.size := (below I hlt).1
  have hDI : I ≠ s₂.heap.objs.size := (below I hlt).2
  have off3 : ∀ p ∈ news, p.1 ≠ I ∧ p.1 ≠ H2.objs.size ∧ p.1 ≠ s₂.heap.objs.size := fun p hp => ⟨off p hp, (below _ (Heap.lt_size (N p hp).1)).1, (below _ (Heap.lt_size (N p hp).1)).2⟩
  have W := Walks.list (prog := prog) (w := w) hh I lR hlI vs.toArray
  have hlen : vs.toArray.size = vs.length := by simp
  rw [hlen] at W
  have lst_at : ∀ h : Heap, News h₀ L h news → h.IsList lR vs.toArray := fun h Nh => ⟨_, (Nh _ hmR).1, rfl, nR, rfl⟩
  have loop : ∀ s₃ : Shared, s₃ = { s₂ with heap := h₁, toks := s₂.toks + ([] : List (Str × Value)).length } →
      codeAny (model prog w) A (.compLoop (.ListComp elt [⟨.Tuple [.Name x px, .Name x₂ px₂] kk tp, iter, [ct], 0⟩] scope pos) 0 (.ref I) (.ref s₂.heap.objs.size) (compEnvC scope cl H2.objs.size env))
        (RR (.ref s₂.heap.objs.size) H2.objs.size) s₃ := by
    rintro s₃ rfl
    refine kct_loop
      (fun k s' => ∃ h' tk i ys m', s' = { s₂ with heap := h', toks := tk } ∧ i ≤ vs.length ∧ k = vs.length + 1 - i ∧ ys.length ≤ i ∧ h'.IsListIter I lR i ∧ Fr h₀ L h' m ∧ h'.Ns H2.objs.size m' ∧ News h₀ L h' ((s₂.heap.objs.size, lst ys) :: news) ∧
        IntsOf ys (cutWith P (rs.take i))) ?_ (vs.length + 1)
      ⟨h₁, _, 0, [], _, rfl, Nat.zero_le _, rfl, Nat.le_refl _, (let ⟨o, e, r⟩ := hst; ⟨o, old _ _ e, r⟩), F.keeps old, hns₁, fun p hp => ?_, by simp [cutWith, IntsOf]⟩
    · rintro k s' ⟨h', tk, i, ys, m', rfl, hi, rfl, hyl, hit', F', hn', N', hI'⟩
      have Nn : News h₀ L h' news := fun p hp => N' p (List.mem_cons_of_mem _ hp)
      by_cases hlt : i < vs.length
      · refine W.item i _ _ _ hlt ⟨hit', lst_at _ Nn⟩ fun v h₂ tk₂ hPv hst₂ hk₂ => ?_
        obtain ⟨r, hr, tA, t1, t2, rfl, hmt⟩ := hp.get (i := i) (v := v) (by simpa using hPv)
        have N₂ : News h₀ L h₂ ((s₂.heap.objs.size, lst ys) :: news) := news_but N' hk₂ fun p hp => by
          rcases List.mem_cons.mp hp with rfl | hp
          · exact Ne.symm hDI
          · exact (off3 p hp).1
        have ht : IsTup h₂ tA #[.int r.1 t1, .int r.2 t2] := ⟨_, (N₂ _ (List.mem_cons_of_mem _ hmt)).1, rfl, 0, rfl⟩
        refine wpAny_letOwnedTupleGo_listiter hst₂.1 ?_
        refine assign_Tuple_tuple hh ht rfl rfl fun h₅ he => ?_
        have he' : ∀ b o, h₂.get? b = some o → h₅.get? b = some o := fun b o e => he b o (Nat.ne_of_lt (Heap.lt_size e)) e
        refine assignInOrder_cons (wpAny_assign_Name (wpAny_storeName_local (lookup_relabel_local hx) ((hn'.at' fun o e => hk₂ _ o (by simpa using Ne.symm hCI) e).at' fun o e => he' _ o e) (fun h₆ hn₆ hs₆ => ?_) (by simp [compEnvC, relabel, hkind])))
        refine assignInOrder_cons (wpAny_assign_Name (wpAny_storeName_local (lookup_relabel_local hx₂) hn₆ (fun h₃ hn₃ hs₃ => ?_) (by simp [compEnvC, relabel, hkind])))
        refine assignInOrder_nil ?_
        have old3 : ∀ b o, b ≠ H2.objs.size → h₂.get? b = some o → h₃.get? b = some o := fun b o hb e => hs₃.extBut b o hb (hs₆.extBut b o hb (he' b o e))
        obtain ⟨oI, hoI, rI⟩ := hst₂.1
        have heI := old3 _ _ hCI hoI
        obtain ⟨oC, heC, hoC⟩ := ns_obj hn₃
        have F₃ : Fr h₀ L h₃ m := (((fr_but F' hk₂ hIL hI₀).keeps he').change hs₆ hCL hC₀).change hs₃ hCL hC₀
        have N₃ : News h₀ L h₃ ((I, oI) :: (H2.objs.size, oC) :: (s₂.heap.objs.size, lst ys) :: news) := fun p hp => by
          rcases List.mem_cons.mp hp with rfl | hp
          · exact ⟨heI, Ne.symm hIL, hI₀⟩
          · rcases List.mem_cons.mp hp with rfl | hp
            · exact ⟨heC, hCL, hC₀⟩
            · have z := N₂ p hp
              refine ⟨old3 _ _ ?_ z.1, z.2⟩
              rcases List.mem_cons.mp hp with rfl | hp
              · exact hDC
              · exact (off3 p hp).2.1
        refine wpAny_mono (turn r t1 t2 I oI H2.objs.size oC s₂.heap.objs.size ys _ h₃ _ _ hoC (by simp [hxx]) (by simp) F₃ N₃ (Off3.of off3) ⟨hCI, hDI, Ne.symm hDC⟩) (fun okb s₄ h₄ => ?_) fun _ _ e => e
        have hcut := cut_take (P := P) hr
        cases okb with
        | false =>
          simp only [Bool.false_eq_true, if_false] at h₄ ⊢
          obtain ⟨hw, ⟨tk₄, rfl⟩, _⟩ := h₄
          rw [if_neg (by rw [← hw]; decide)] at hcut
          exact ⟨vs.length + 1 - (i + 1), by omega, h₃, tk₄, i + 1, ys, _, rfl, hlt, rfl, Nat.le_succ_of_le hyl, ⟨oI, heI, rI⟩, F₃, hn₃, fun p hp => N₃ p (List.mem_cons_of_mem _ (List.mem_cons_of_mem _ hp)), by rw [hcut]; exact hI'⟩
        | true =>
          simp only [if_true] at h₄ ⊢
          refine wpAny_mono h₄ (fun y s₅ h₅ => ?_) fun _ _ e => e
          obtain ⟨hw, ⟨tk₄, rfl⟩, hy⟩ := h₅
          obtain ⟨t, rfl⟩ := hy rfl
          rw [if_pos hw.symm] at hcut
          have zD := (N₃ (s₂.heap.objs.size, lst ys) (List.mem_cons_of_mem _ (List.mem_cons_of_mem _ List.mem_cons_self))).1
          refine append_at (hsz := by show ys.toArray.size ≤ sizeLine; rw [List.size_toArray, sizeLine_eq]; omega) zD fun h₅ hs₅ hD₅ => ?_
          refine ⟨vs.length + 1 - (i + 1), by omega, h₅, _, i + 1, ys ++ [.int r.1 t], _, rfl, hlt, rfl, by rw [List.length_append, List.length_singleton]; exact Nat.succ_le_succ hyl, ⟨oI, hs₅.extBut _ _ hDI heI, rI⟩, F₃.change hs₅ hDL hD₀,
            hn₃.sameBut hs₅ (Ne.symm hDC), fun p hp => ?_, by rw [hcut]; exact hI'.snoc⟩
          rcases List.mem_cons.mp hp with rfl | hp
          · exact ⟨hD₅.trans (congrArg some (lst_snoc ys _)), hDL, hD₀⟩
          · exact ⟨hs₅.extBut _ _ (off3 p hp).2.2 (N₃ p (List.mem_cons_of_mem _ (List.mem_cons_of_mem _ (List.mem_cons_of_mem _ hp)))).1, (N p hp).2⟩
      · obtain rfl : i = vs.length := Nat.le_antisymm hi (Nat.not_lt.mp hlt)
        refine W.done _ _ _ ⟨hit', lst_at _ Nn⟩ fun h₂ tk₂ hk₂ => ?_
        have e : rs.take vs.length = rs := List.take_of_length_le (by rw [hp.length]; exact Nat.le_refl _)
        rw [e] at hI'
        exact hRR _ _ h₂ tk₂ _ ys (fr_but F' hk₂ hIL hI₀) (news_but N' hk₂ fun p hp => by
          rcases List.mem_cons.mp hp with rfl | hp
          · exact Ne.symm hDI
          · exact (off3 p hp).1) (fun p hp => Heap.lt_size (N p hp).1) (hn'.at' fun o e => hk₂ _ o (by simpa using Ne.symm hCI) e) hC₀ hD₀ hCL hDL (Ne.symm hDC) (fun p hp => (off3 p hp).2.1) hI'
    · rcases List.mem_cons.mp hp with rfl | hp
      · exact ⟨hacc, hDL, hD₀⟩
      · exact ⟨old _ _ (N p hp).1, (N p hp).2⟩
  have hst₁ : h₁.IsListIter I lR 0 := let ⟨o, e, r⟩ := hst; ⟨o, old _ _ e, r⟩
  exact codeAny_compStart_list (loop _ rfl) (W.self 0 _ _ _ ⟨hst₁, lst_at _ fun p hp => ⟨old _ _ (N p hp).1, (N p hp).2⟩⟩ (loop _ rfl))
/-- the same, laid on a name -/
theorem cut_assign {elt iter ct : Expr} {x x₂ y : Str} {px px₂ tp py : Pos} {kk} {scope : Scope} {cl : List (Str × Addr)} {pos spos : Pos} {Q : Flow → Shared → Prop} {lR : Addr} {vs : List Value} {rs : List (Nat × Nat)} {P : Nat × Nat → Bool} {news : List (Addr × Obj)} {nR : Nat}
    (F₀ : Fr h₀ L s.heap m) (N₀ : News h₀ L s.heap news) (hLe : env.locals = L)
    (hsw : swapsWith (.ListComp elt [⟨.Tuple [.Name x px, .Name x₂ px₂] kk tp, iter, [ct], 0⟩] scope pos) (some (.Name y py)) spos.line env = pure true)
    (hh : A.handled = none) (hclos : closureFor scope env = pure cl) (hcell : ∀ z ∈ scope.names, z.2 ≠ .cell) (hkind : scope.kind = .function)
    (hnames : ∀ z ∈ scope.names, z.2 = .local → scope.names.lookup z.1 = some .local) (hx : scope.names.lookup x = some .local) (hx₂ : scope.names.lookup x₂ = some .local) (hxx : x ≠ x₂)
    (hy : env.kindOf y = some .local) (hpl : (env.scope.kind == .class || (env.scope.kind == .module && env.locals != env.globals)) = false)
    (hsz : vs.length ≤ 100) (hp : PairsIn news vs rs) (hmR : (lR, listOf vs.toArray nR) ∈ news)
    (h : wpAny (model prog w) A (eval iter env) (fun xv s₁ => xv = .ref lR ∧ Fr h₀ L s₁.heap m ∧ News h₀ L s₁.heap news ∧ (∃ h tk, s₁ = { s with heap := h, toks := tk })) E s)
    (turn : ∀ (r : Nat × Nat) t1 t2 I oI C oC D ys m₂ h tk (E' : Value → Shared → Prop), NsObj oC m₂ → m₂ x = some (.int r.1 t1) → m₂ x₂ = some (.int r.2 t2) → Fr h₀ L h m → News h₀ L h ((I, oI) :: (C, oC) :: (D, lst ys) :: news) → Off3 I C D news → ((@Ne Nat I C) ∧ (@Ne Nat I D) ∧ (@Ne Nat C D)) →
      wpAny (model prog w) A (isTrue ct (compEnvC scope cl C env) (eval ct (compEnvC scope cl C env))) (fun okb s₃ => if okb = true then wpAny (model prog w) A (eval elt (compEnvC scope cl C env)) (CutEnd s h r.1 (P r) true) E' s₃
        else CutEnd s h r.1 (P r) false .none s₃) E' { s with heap := h, toks := tk })
    (fin : ∀ D h tk ys, Fr h₀ L h (fun z => if z = y then some (.ref D) else m z) → News h₀ L h ((D, lst ys) :: news) → (∀ p ∈ news, p.1 < D) → IntsOf ys (cutWith P rs) → Q .next { s with heap := h, toks := tk })
    (hs : ∀ x, foldedSetIterable iter env x = pure x := by intro _; rfl) :
    wpAny (model prog w) A (exec (.Assign [.Name y py] (.ListComp elt [⟨.Tuple [.Name x px, .Name x₂ px₂] kk tp, iter, [ct], 0⟩] scope pos) spos) env) Q E s := by
  subst hLe
  rw [exec_Assign_Name_used _ _ _ _ hsw]
  refine wpAny_bind (wpAny_standAt (wpAny_bind ?_))
  show wpAny _ A (do let _ ← comprehension (.ListComp elt [⟨.Tuple [.Name x px, .Name x₂ px₂] kk tp, iter, [ct], 0⟩] scope pos) scope env _ (newList []) false (eval iter env) (some (assign (.Name y py) env))) _ _ s
  refine wpAny_bind (wpAny_mono (wpAny_comprehension_free (use := some (assign (.Name y py) env)) (Q := fun _ s' => Q .next s') rfl hs hclos hkind hnames
    (wpAny_mono h (fun xv s₁ h₁ => ?_) fun _ _ e => e)) (fun _ s' hq => wpAny_pure (wpAny_pure hq)) fun _ _ e => e)
  obtain ⟨rfl, F, N, g1, tk1, rfl⟩ := h₁
  have hl : Heap.IsList g1 lR vs.toArray := ⟨_, (N _ hmR).1, rfl, nR, rfl⟩
  have hlt : lR < g1.objs.size := Heap.lt_size (N _ hmR).1
  refine wpAny_pyIter_list hl ?_
  have up : ∀ b o, g1.get? b = some o → (g1.push { cls := .type "list_iterator", data := .fields #[.ref lR, .int 0 0] }).get? b = some o := fun b o e => Heap.get?_push_of_some _ e
  refine cut_block hsz hp hmR ⟨_, Heap.get?_push_size _ rfl, rfl, rfl⟩ (Nat.ne_of_lt hlt) (by rw [Heap.size_push]; exact Nat.lt_succ_self _) hcell hkind hx hx₂ hxx hh (F.keeps up) (N.grown up) (Nat.ne_of_lt F.ns.lt) (next_is_new F) (fun p hp => Nat.ne_of_lt (Heap.lt_size (N p hp).1)) turn ?_
  intro D C h tk m' ys F' N' o1 hn hC₀ hD₀ hCL hDL hCD offC hI
  show wpAny _ A (assign (.Name y py) env (.ref D)) _ _ _
  refine wpAny_assign_Name (wpAny_storeName_local hy F'.ns (fun h₂ hn₂ hs₂ => ?_) hpl)
  have F₂ := F'.set hn₂ hs₂
  refine ⟨m', hn.sameBut hs₂ hCL, fun h'' hs'' => fin D h'' _ ys (F₂.change hs'' hCL hC₀) (fun p hp => ?_) o1 hI⟩
  have z : h₂.get? p.1 = some p.2 := hs₂.extBut _ _ (N' p hp).2.1 (N' p hp).1
  refine ⟨hs''.extBut _ _ ?_ z, (N' p hp).2⟩
  rcases List.mem_cons.mp hp with rfl | hp
  · exact Ne.symm hCD
  · exact offC p hp
end
end Mine
end
/-! E9 -/
section
open PySem PySem.W PyProof.Rows PySem.Calls
set_option maxRecDepth 100000
namespace Mine
theorem off_E9 : True := by
  w_top off
  trivial
theorem fr_went {h₀ h h' : Heap} {L e T : Addr} {m : Str → Option Value} {l sk : List Addr} (F : Fr h₀ L h m) (w : Went l sk h h') (hl : ∀ b ∈ l, h₀.get? b = none) (hs : ∀ b ∈ sk, h₀.get? b = none) (hf : ∀ b ∈ sk, ∀ o, h.get? b = some o → ∃ vs, o.data = .fields vs) : Fr h₀ L h' m := by
  refine F.of_stays (fun b o hb => w.2 b o (fun q => ?_) (fun q => ?_) (F.keep b o hb)) fun b o hb hn => w.1 b o (fun q => ?_) hb
  · rw [hs b q] at hb; cases hb
  · rw [hl b q] at hb; cases hb
  · obtain ⟨vs, e⟩ := hf b q o hb
    exact hn vs e
section
variable {prog : Program} {w : World} {A₀ : Around} {s' : Shared} {h₀ : Heap} {L a e dX tN T₀ : Addr} {m : Str → Option Value} {cn : Str} {cs : Scope} {ccd : Value} {cl : List (Str × Addr)} {n : Str} {b₀ : Stmt} {suite : List Stmt} {pos np : Pos} {rest : List ExceptHandler} {Q : Flow → Shared → Prop}
  {others : List (Addr × Obj)} {oT₀ : Obj} {K : Frag} {p : Program} {loose : List Str} {mg mb : Str → Option Value}
theorem caught_fault (B : Below A₀ h₀ [] h₀) (F : Fr h₀ L s'.heap m) (X : K.In h₀) (TR : TopRead p loose mg mb h₀) (N : News h₀ L s'.heap ((T₀, oT₀) :: (e, excT dX tN (.ref T₀)) :: others)) (C : Cls88 s'.heap)
    (hT₀ : TbOb oT₀ .none) (hTe : T₀ ≠ e) (hoff : ∀ q ∈ others, q.1 ≠ e ∧ q.1 ≠ T₀) (ex : nsIn K mainGlobals (Str.ofString "TextFault") = some (some (.ref 88)))
    (k : ∀ h' T' tk, Fr h₀ L h' (fun y => if y = n then some (.ref e) else m y) → News h₀ L h' ((e, excT dX tN (.ref T')) :: others) →
      wpAny (model prog w) ((A₀.deeper (envX cn cs L a ccd cl)).mark (some (.ref e))) (execs (b₀ :: suite) (envX cn cs L a ccd cl))
        (fun f s₄ => wpAny (model prog w) (A₀.deeper (envX cn cs L a ccd cl)) (do bindName (envX cn cs L a ccd cl) n .none; unbindBehindTheSuite (envX cn cs L a ccd cl) n pos) (fun _ s₅ => Q f s₅) (fun _ _ => False) s₄)
        (fun _ _ => False) { s' with heap := h', toks := tk })
    (hk : cs.kind = .function) (hlo : (envX cn cs L a ccd cl).kindOf n = some .local) (hx : (envX cn cs L a ccd cl).kindOf (Str.ofString "TextFault") = some .globalImplicit) :
    wpAny (model prog w) (A₀.deeper (envX cn cs L a ccd cl)) (noteFrame (.ref e) (envX cn cs L a ccd cl))
      (fun _ s₂ => wpAny (model prog w) (A₀.deeper (envX cn cs L a ccd cl)) (setFlight (.ref e) none) (fun _ s₃ =>
        wpAny (model prog w) (A₀.deeper (envX cn cs L a ccd cl)) (handleBy (.ref e) (envX cn cs L a ccd cl) (.ExceptHandler (some (.Name (Str.ofString "TextFault") np)) (some n) (b₀ :: suite) pos :: rest)) Q (fun _ _ => False) s₃) (fun _ _ => False) s₂) (fun _ _ => False) s' := by
  have KB := pushX (env := envX cn cs L a ccd cl) B F rfl hk
  have gT := N (T₀, oT₀) (by simp)
  have ge := N (e, excT dX tN (.ref T₀)) (by simp)
  have h0L : h₀.get? L = none := by
    cases q : h₀.get? L with
    | none => rfl
    | some o => exact absurd (Nat.lt_of_lt_of_le (Heap.lt_size q) F.above) (Nat.lt_irrefl _)
  have fl : ([envX cn cs L a ccd cl].filterMap (·.frame)) = [L] := rfl
  have hfT : ∃ vs, oT₀.data = .fields vs := let ⟨ts, hd, _⟩ := hT₀; ⟨ts, hd⟩
  refine note_fault KB.stack KB.frames rfl ge.1 hTe gT.1 hT₀ fun h₁ T oT w₁ he₁ hTe₁ hn₁ hT₁ ht₁ => ?_
  rw [fl] at w₁
  have F₁ : Fr h₀ L h₁ m := fr_went (e := e) (T := T₀) F w₁ (by simp [h0L]) (fun b hb => by
    simp only [List.mem_cons, List.not_mem_nil, or_false] at hb
    rcases hb with rfl | rfl
    · exact ge.2.2
    · exact gT.2.2) fun b hb o ho => by
    simp only [List.mem_cons, List.not_mem_nil, or_false] at hb
    rcases hb with rfl | rfl
    · rw [ge.1] at ho; cases ho; exact ⟨_, rfl⟩
    · rw [gT.1] at ho; cases ho; exact hfT
  have hold : ∀ b o, s'.heap.get? b = some o → b ≠ T := fun b o ho q => by rw [q, hn₁] at ho; cases ho
  have hT0 : h₀.get? T = none := by
    cases q : h₀.get? T with
    | none => rfl
    | some o => exact absurd rfl (hold T o (F.keep _ _ q))
  have TL : T ≠ L := fun q => by
    obtain ⟨o, _, _, ho, _⟩ := F.ns
    exact hold L o ho q.symm
  have N₁ : News h₀ L h₁ others := fun q hq => by
    have g := N q (by simp [hq])
    exact ⟨w₁.2 _ _ (by simp [hoff q hq]) (by simp [g.2.1]) g.1, g.2⟩
  have C₁ : Cls88 h₁ := by
    obtain ⟨nm, q, Nn, bs, bm, hdct, sn, sub, ab, col, dd, k0, k1, k2, k3, k5, newId, hb, hC⟩ := C
    have ne88 : ∀ b o vs, s'.heap.get? b = some o → o.data = .fields vs → (88 : Addr) ≠ b := fun b o vs hb hd q => by
      rw [← q, hC] at hb
      rw [← Option.some.inj hb] at hd
      cases hd
    have neL : (88 : Addr) ≠ L := fun q => by
      obtain ⟨o, es, ep, ho, hd, _⟩ := F.ns
      rw [← q, hC] at ho
      rw [← Option.some.inj ho] at hd; cases hd
    obtain ⟨vT, hvT⟩ := hfT
    have n1 := ne88 e _ _ ge.1 rfl
    have n2 := ne88 T₀ _ _ gT.1 hvT
    exact ⟨nm, q, Nn, bs, bm, hdct, sn, sub, ab, col, dd, k0, k1, k2, k3, k5, newId, hb, w₁.2 88 _ (by simp [n1, n2]) (by simp [neL]) hC⟩
  refine land_fault he₁ hTe₁ hT₁ ht₁ fun h₂ oT₂ k₂ hT₂ ht₂ => ?_
  have later : ∀ (h h' : Heap), (∀ b o, b ≠ T → h.get? b = some o → h'.get? b = some o) → Fr h₀ L h m → News h₀ L h others → (∀ q ∈ others, q.1 ≠ T) → Cls88 h → (∃ vs o, h.get? T = some o ∧ o.data = .fields vs) → Fr h₀ L h' m ∧ News h₀ L h' others ∧ Cls88 h' := by
    intro h h' kk Fh Nh ho Ch hTf
    refine ⟨⟨Fh.ns.at' fun o e => kk _ o (Ne.symm TL) e, fun b o e => kk b o (fun q => by rw [q, hT0] at e; cases e) (Fh.keep b o e), Fh.above⟩, fun q hq => ⟨kk _ _ (ho q hq) (Nh q hq).1, (Nh q hq).2⟩, ?_⟩
    obtain ⟨nm, q, Nn, bs, bm, hdct, sn, sub, ab, col, dd, k0, k1, k2, k3, k5, newId, hb, hC⟩ := Ch
    refine ⟨nm, q, Nn, bs, bm, hdct, sn, sub, ab, col, dd, k0, k1, k2, k3, k5, newId, hb, kk _ _ (fun hq => ?_) hC⟩
    obtain ⟨vs, o, hT, hd⟩ := hTf
    rw [← hq, hC] at hT
    rw [← Option.some.inj hT] at hd; cases hd
  have oT' : ∀ q ∈ others, q.1 ≠ T := fun q hq => hold _ _ (N q (by simp [hq])).1
  have fT₁ : ∃ vs o, h₁.get? T = some o ∧ o.data = .fields vs := let ⟨ts, hd, _⟩ := ht₁; ⟨ts, oT, hT₁, hd⟩
  obtain ⟨F₂, N₂, C₂⟩ := later h₁ h₂ k₂ F₁ N₁ oT' C₁ fT₁
  have he₂ := k₂ _ _ (Ne.symm hTe₁) he₁
  have fT₂ : ∃ vs o, h₂.get? T = some o ∧ o.data = .fields vs := let ⟨ts, hd, _⟩ := ht₂; ⟨ts, oT₂, hT₂, hd⟩
  refine wpAny_handleBy_cons (codeAny_handlers_test (nameX_K F₂ X TR ex ?_ hk hx (by decide +kernel))) (by intro q; cases q)
  obtain ⟨nm, q, Nn, bs, bm, hdct, sn, sub, ab, col, dd, k0, k1, k2, k3, k5, newId, hb, hC⟩ := id C₂
  refine wpAny_excMatches_sub_self hC he₂ rfl hb (codeAny_handlers_suite_as ?_)
  refine land_fault (s := { s' with heap := h₂ }) he₂ hTe₁ hT₂ ht₂ fun h₃ oT₃ k₃ hT₃ ht₃ => ?_
  obtain ⟨F₃, N₃, C₃⟩ := later h₂ h₃ k₃ F₂ N₂ oT' C₂ fT₂
  have he₃ := k₃ _ _ (Ne.symm hTe₁) he₂
  refine storeX_L (news := (e, excT dX tN (.ref T)) :: others) F₃ (fun q hq => ?_) (fun h₄ F₄ N₄ => ?_) hk hlo
  · rcases List.mem_cons.mp hq with rfl | hq
    · exact ⟨he₃, ge.2⟩
    · exact N₃ q hq
  · exact wpAny_mono (k h₄ T _ F₄ N₄) (fun f s₄ hf => wpAny_mono hf (fun _ _ x => x) fun _ _ x => x.elim) fun _ _ x => x.elim
theorem goes_X {M : Model} {A : Around} {E : Value → Shared → Prop} {s : Shared} {news : List (Addr × Obj)} {Q : Unit → Shared → Prop} (F : Fr h₀ L s.heap m) (N : News h₀ L s.heap news)
    (h : ∀ h' v, Fr h₀ L h' (fun x => if x = n then v else m x) → News h₀ L h' news → Q () { s with heap := h', toks := s.toks + 1 })
    (hk : cs.kind = .function) (hlo : (envX cn cs L a ccd cl).kindOf n = some .local) :
    wpAny M A (do bindName (envX cn cs L a ccd cl) n .none; unbindBehindTheSuite (envX cn cs L a ccd cl) n pos) Q E s :=
  wpAny_nameGoes_keeps hlo F.ns (by show (cs.kind == .class || (cs.kind == .module && L != mainGlobals)) = false; rw [hk]; rfl) fun h' v hn hs => h h' v (F.set hn hs) (N.set hs)
end
end Mine
end
/-! E10 -/
section
open PySem PySem.W PyProof.Rows PySem.Calls PySem.Builtin PySem.Builtin.ObjectAttr
set_option maxRecDepth 100000
namespace Mine
theorem off_E10 : True := by
  w_top off
  trivial
section
variable {prog : Program} {w : World} {A A₀ : Around} {E : Value → Shared → Prop} {R : Result → Shared → Prop} {s : Shared} {K : Frag} {x C dx L : Addr} {h₀ : Heap} {m : Str → Option Value} {news : List (Addr × Obj)} {es : List DictEntry} {n : Nat} {name : Str} {v : Value} {vs : Array Value} {sl : Array (Option Value)}
/-- a name of an own exception's dict is read -/
theorem exc_get {expr : Bool} {Q : Value → Shared → Prop} (F : Fr h₀ L s.heap m) (X₀ : K.In h₀) (N : News h₀ L s.heap news) (hm : (x, (⟨.ref C, some dx, .fields vs, sl⟩ : Obj)) ∈ news) (hm2 : (dx, dictOf es n) ∈ news)
    (hga : findIn K (.ref C) "__getattribute__" = some (some (.builtin "BaseException.__getattribute__"))) (hgt : findIn K (.ref C) "__getattr__" = some none) (hmr : mroIn K C (.type "BaseException") = some true)
    (hh : hasDictIn K C = true) (ha : findIn K (.ref C) name = some none) (hl : getL name es = some (some v)) (hv : handedIn v = true) (h : Q v { s with toks := s.toks + 1 }) : wpAny (model prog w) A (getAttr (.ref x) name expr) Q E s := by
  have X : K.In s.heap := X₀.keeps F.keep
  have I : InstAt s.heap x (⟨.ref C, some dx, .fields vs, sl⟩ : Obj) C (some (dictOf es n)) := exc_instD N hm hm2
  have hf : findObj K C (some (dictOf es n)) name = some (.value v) := findObj_own hh ha rfl hl
  obtain ⟨hp, g, d, t, os⟩ := s
  have L0 := I.type (M := model prog w)
  have L1 := looks_findIn (M := model prog w) X hga
  have L2 := looks_findIn (M := model prog w) X hgt
  have L3 := looks_find (M := model prog w) X I hf
  have sub : Looks (model prog w) hp (isInstance (.ref x) (.type "BaseException")) true := L0.andThen (looks_mroIn X hmr)
  have f3 := PySem.F.attr_Exception.ga.bind (.ref x)
  have hx2 : (Value.builtin "BaseException.__getattribute__" == Value.builtin "object.__getattribute__") = false := by decide +kernel
  unfold getAttr getAttrBy
  refine wpAny_bind (wpAny_mkText (wpAny_holding (wpAny_bind (L0.at (wpAny_bind (L1.at ?_))))))
  dsimp only
  rw [hx2, Bool.and_false, if_neg (by decide)]
  unfold getAttrByItsOwn hookBefore
  rw [if_pos (show onTheHeap (Value.ref C) = true from rfl)]
  refine wpAny_bind (L2.at ?_)
  unfold callGetattribute boundAndCalled
  rw [show (expr && onTheHeap (Value.builtin "BaseException.__getattribute__")) = false from by cases expr <;> rfl, if_neg (by decide), f3]
  have fin : codeAny (model prog w) A (.call (.builtin "BaseException.__getattribute__") ⟨[.ref x, .str name t], []⟩) (fun r s' => r = .ok (.ret v) ∧ s' = ⟨hp, g, d, t + 1, os⟩) ⟨hp, g, d, t + 1, os⟩ := by
    refine codeAny_call_builtin PySem.F.attr_Exception.ga.plain PySem.F.entry_bexc_ga (@check_slot (model prog w) _ _ ⟨hp, g, d, t + 1, os⟩ "BaseException.__getattribute__" "BaseException" "__getattribute__" (.ref x) [.str name t] [] _ (by decide +kernel) (by decide +kernel) sub (PySem.F.args_bexc_ga _ _) ?_)
    unfold Builtin.«object.__getattribute__»
    refine wpAny_bind (wpAny_pure (wpAny_bind (wpAny_pure (wpAny_bind (Looks.here (s := ⟨hp, g, d, t + 1, os⟩) L0 (wpAny_bind (Looks.here (s := ⟨hp, g, d, t + 1, os⟩) L3 ?_)))))))
    exact wpAny_pure ⟨rfl, rfl⟩
  have hcall : wpAny (model prog w) A (call (.builtin "BaseException.__getattribute__") [.ref x, .str name t]) (fun r s' => r = v ∧ s' = ⟨hp, g, d, t + 1, os⟩) (fun _ _ => False) ⟨hp, g, d, t + 1, os⟩ := by
    refine wpAny_call (codeAny_mono fin fun r s' hr => ?_)
    obtain ⟨rfl, rfl⟩ := hr
    exact ⟨rfl, rfl⟩
  refine wpAny_bind (wpAny_attempt (wpAny_holding (wpAny_bind (wpAny_pure ?_))))
  refine wpAny_mono hcall (fun r s' hr => ?_) fun _ _ z => z.elim
  obtain ⟨rfl, rfl⟩ := hr
  show wpAny _ _ (handedOut _) _ _ _
  rw [handedOut_of hv]
  exact wpAny_pure h
end
end Mine
end
/-! S4 -/
section
open PySem PySem.W PyProof.Rows PySem.Calls
set_option maxRecDepth 100000
namespace Mine
theorem off_S4 : True := by
  w_top off
  trivial
theorem Skips.again {l : List Nat} {e s r : Nat} {f : Bool} (h : Skips l e s r f) : Skips l e r r f := by
  induction h with
  | done h => exact .done h
  | blank _ _ _ _ ih => exact ih
  | line _ _ _ _ _ _ _ ih => exact ih
  | star _ _ _ _ _ _ _ _ ih => exact ih
  | cut h1 h2 h3 h4 => exact .cut h1 h2 h3 h4
  | sign h1 h2 h3 h4 h5 => exact .sign h1 h2 h3 h4 h5
theorem skip_use {w : World} {mean : ExcName → Option Value} {mg mb : Str → Option Value}
  {dp un : Nat} {gd : Option (List Code)} {cn : Str} {cs : Scope} {a : Addr} {ccd : Value} {cl : List (Str × Addr)} {A₀ : Around} {h₀ : Heap} {L : Addr} {m : Str → Option Value} {s : Shared} {Q E : Value → Shared → Prop}
  {x dx : Addr} {news : List (Addr × Obj)} {g : Obj → List (Addr × Obj)} {text : Str} {b e : Int} {r : Nat} {f : Bool} {k1 k2 k3 k4 t1 t2 t3 t4 : Tok}
  (B : Below A₀ h₀ [] h₀) (F : Fr h₀ L s.heap m) (X : (hd.heap_1 w.params).In h₀) (N : News h₀ L s.heap news) (hmx : (x, instObj 174 dx) ∈ news) (U : UpdF dx (scanD w text b e k1 k2 k3 k4 t1 t2 t3 t4) news g)
  (T : Top viewQ (looseW viewQ [Str.ofString "ESCAPES"]) mean mg mb h₀) (hk : cs.kind = .function) (hdp : dp + 20 < recursionLimit) (hun : un + 200 < cLine)
  (hne : @Ne Nat x dx) (htx : text.length ≤ 1000) (hb : 0 ≤ b) (hsk : Skips text.cps.toList e.toNat b.toNat r f) (he : e ≤ text.length) (he0 : 0 ≤ e)
  (hret1 : ∀ t h' tk', f = false → Fr h₀ L h' m → News h₀ L h' (g (scanD w text r e k1 k2 k3 k4 t1 t t3 t4)) → Q .none { s with heap := h', toks := tk' })
  (hret2 : ∀ ex dX tN T oT k5 k6 t5 t6 t h' tk', f = true → Fr h₀ L h' m → News h₀ L h' ((T, oT) :: (ex, excT dX tN (.ref T)) :: (dX, faultDict w r k5 k6 t5 t6) :: g (scanD w text r e k1 k2 k3 k4 t1 t t3 t4)) →
    TbOb oT .none → @Ne Nat T ex → (∀ p ∈ (dX, faultDict w r k5 k6 t5 t6) :: g (scanD w text r e k1 k2 k3 k4 t1 t t3 t4), p.1 ≠ ex ∧ p.1 ≠ T) → (∀ p ∈ g (scanD w text r e k1 k2 k3 k4 t1 t t3 t4), p.1 ≠ dX) → E (.ref ex) { s with heap := h', toks := tk' }) :
  wpAny (model PySem.Challenge.pw_qd0009_01 w) (ktrTop dp un gd cn cs L a ccd cl []) (call (.ref 122) [.ref x]) Q E s := by
  obtain ⟨pre, post, rfl, hg, ha, hbb⟩ := U.split
  have hdx := N (dx, scanD w text b e k1 k2 k3 k4 t1 t2 t3 t4) (by simp)
  have hfx : ∀ p ∈ pre ++ post, p.1 = x → p = (x, instObj 174 dx) := fun p hp hq => by
    have h1 := (N p (by rcases List.mem_append.mp hp with h | h <;> simp [h])).1
    have h2 := (N _ hmx).1
    rw [hq, h2] at h1
    exact Prod.ext hq (Option.some.inj h1).symm
  have hin : (x, instObj 174 dx) ∈ pre ++ post := by
    simp only [List.mem_append, List.mem_cons, Prod.mk.injEq] at hmx ⊢
    rcases hmx with h | h | h
    · exact .inl h
    · exact absurd h.1 hne
    · exact .inr h
  have join : ∀ {h' : Heap} {od : Obj}, News h₀ L h' [(x, instObj 174 dx), (dx, od)] → News h₀ L h' ((pre ++ post).filter fun p => decide (p.1 ≠ x)) → News h₀ L h' (g od) := by
    intro h' od N1 N2
    rw [hg]
    intro p hp
    have : p = (dx, od) ∨ p ∈ pre ++ post := by
      simp only [List.mem_append, List.mem_cons] at hp ⊢
      rcases hp with h | h | h
      · exact .inr (.inl h)
      · exact .inl h
      · exact .inr (.inr h)
    rcases this with rfl | h
    · exact N1 _ (by simp)
    · by_cases hq : p.1 = x
      · rw [hfx p h hq]; exact N1 _ (by simp)
      · exact N2 p (List.mem_filter.mpr ⟨h, by simpa using hq⟩)
  refine skip_ok (k1 := k1) (k2 := k2) (k3 := k3) (k4 := k4) (t1 := t1) (t2 := t2) (t3 := t3) (t4 := t4) (rest := (pre ++ post).filter fun p => decide (p.1 ≠ x)) B F X ⟨fun p hp => ?_, fun p hp => ?_, fun p hp hq => ?_⟩ T hk hdp hun hne htx hb hsk he he0 ?_ ?_
  · simp only [List.mem_cons, List.not_mem_nil, or_false] at hp
    rcases hp with rfl | rfl
    · exact N _ hmx
    · exact hdx
  · have h := (List.mem_filter.mp hp).1
    exact N p (by rcases List.mem_append.mp h with h | h <;> simp [h])
  · obtain ⟨h, h2⟩ := List.mem_filter.mp hp
    simp only [List.map_cons, List.map_nil, List.mem_cons, List.not_mem_nil, or_false] at hq
    rcases hq with q | q
    · exact absurd q (by simpa using h2)
    · rcases List.mem_append.mp h with h | h
      · exact ha p h q
      · exact hbb p h q
  · intro t h' tk' hf q hq hq0 F' N' NR'
    subst hq
    exact hret1 t h' tk' hf F' (join N' NR')
  · intro ex dX tN TT oT k5 k6 t5 t6 t h' tk' hf q hq hq0 F' N' NR' tb a1 a2 a3 a4 a5 a6 a7 a8 a9 a10
    subst hq
    have NG := join (od := scanD w text r e k1 k2 k3 k4 t1 t t3 t4) (fun p hp => N' p (by
      simp only [List.mem_cons, List.not_mem_nil, or_false] at hp ⊢
      rcases hp with h | h
      · exact .inr (.inr (.inr (.inl h)))
      · exact .inr (.inr (.inr (.inr h))))) NR'
    have mem : ∀ p ∈ g (scanD w text r e k1 k2 k3 k4 t1 t t3 t4), p.1 = x ∨ p.1 = dx ∨ p ∈ (pre ++ post).filter fun p => decide (p.1 ≠ x) := by
      intro p hp
      rw [hg] at hp
      by_cases hq : p.1 = x
      · exact .inl hq
      · simp only [List.mem_append, List.mem_cons] at hp
        rcases hp with h | h | h
        · exact .inr (.inr (List.mem_filter.mpr ⟨List.mem_append_left _ h, by simpa using hq⟩))
        · exact .inr (.inl (by rw [h]))
        · exact .inr (.inr (List.mem_filter.mpr ⟨List.mem_append_right _ h, by simpa using hq⟩))
    refine hret2 ex dX tN TT oT k5 k6 t5 t6 t h' tk' hf F' (fun p hp => ?_) tb a1 (fun p hp => ?_) fun p hp => ?_
    · rcases List.mem_cons.mp hp with rfl | hp
      · exact N' _ (by simp)
      · rcases List.mem_cons.mp hp with rfl | hp
        · exact N' _ (by simp)
        · rcases List.mem_cons.mp hp with rfl | hp
          · exact N' _ (by simp)
          · exact NG p hp
    · rcases List.mem_cons.mp hp with rfl | hp
      · exact ⟨Ne.symm a3, Ne.symm a2⟩
      · rcases mem p hp with h | h | h
        · rw [h]; exact ⟨a4, a5⟩
        · rw [h]; exact ⟨a7, a8⟩
        · exact ⟨(a10 p h).1, (a10 p h).2.1⟩
    · rcases mem p hp with h | h | h
      · rw [h]; exact a6
      · rw [h]; exact a9
      · exact (a10 p h).2.2
end Mine
end
/-! V6 -/
section
open PySem PySem.W PyProof.Rows PySem.Calls
namespace Mine
theorem off_V6 : True := by
  w_top off
  trivial
local macro_rules | `(tactic| walk_at "pad 0") => `(tactic| skip)
def passB (b e : Nat) (r : Nat × Nat) : Bool := decide (b ≤ r.1) && decide (r.1 < e) && decide (e < r.2)
def cutOf (b e : Nat) (rs : List (Nat × Nat)) : List Nat := cutWith (passB b e) rs
def dueOf (b e stop : Nat) (rs : List (Nat × Nat)) : Nat := match cutOf b e rs with
  | [] => max b (min stop e)
  | c :: _ => c
def isCutOf (b e : Nat) (rs : List (Nat × Nat)) : Bool := match cutOf b e rs with
  | [] => false
  | _ :: _ => true
def lawForB : Stmt := (lawRest.drop 6).headD (.Pass ⟨0, 0, 0, 0⟩)
def lawTurn : List Stmt := match lawForB with
  | .For _ _ body _ _ => body.drop 2
  | _ => []
theorem IntsOf.are : ∀ {vs : List Value} {ns : List Nat}, IntsOf vs ns → IntsAre vs (@List.map Nat Int (fun n => (n : Int)) ns)
  | [], [], _ => .nil
  | _ :: _, n :: ns, ⟨⟨t, e⟩, b⟩ => e ▸ .cons (n : Int) t b.are
section
variable {prog : Program} {w : World} {A : Around} {E : Value → Shared → Prop} {s : Shared} {Q : Value → Shared → Prop}
theorem eq_same {a : Int} {t u : Tok} (h : Q (.bool true) s) : wpAny (model prog w) A (compareOp .Eq (.int a t) (.int a u)) Q E s := eq_int (by rw [beq_self_eq_true]; exact h)
theorem ne_same {a : Int} {t u : Tok} (h : Q (.bool false) s) : wpAny (model prog w) A (compareOp .NotEq (.int a t) (.int a u)) Q E s := ne_int (by rw [bne_self_eq_false]; exact h)
theorem eq_cons {a b : Addr} {vs : List Value} {n : Int} {ns : List Int} (hl : s.heap.IsList a vs.toArray) (hi : IntsAre vs (n :: ns)) (hl' : s.heap.IsList b ([] : List Value).toArray) (hu : A.units + 64 < cLine) (h : Q (.bool false) s) :
    wpAny (model prog w) A (compareOp .Eq (.ref a) (.ref b)) Q E s := eq_intsK hl hi hl' .nil hu (by rw [show decide (n :: ns = []) = false from by simp]; exact h)
theorem ne_cons {a b : Addr} {vs : List Value} {n : Int} {ns : List Int} (hl : s.heap.IsList a vs.toArray) (hi : IntsAre vs (n :: ns)) (hl' : s.heap.IsList b ([] : List Value).toArray) (hu : A.units + 64 < cLine) (h : Q (.bool true) s) :
    wpAny (model prog w) A (compareOp .NotEq (.ref a) (.ref b)) Q E s := ne_intsK hl hi hl' .nil hu (by rw [show decide (n :: ns = []) = false from by simp]; exact h)
end
theorem due_val (b e stop : Nat) : (if (if (e : Int) < (stop : Int) then (e : Int) else (stop : Int)) > (b : Int) then (if (e : Int) < (stop : Int) then (e : Int) else (stop : Int)) else (b : Int)) = ((max b (min stop e) : Nat) : Int) := by
  by_cases h1 : (e : Int) < (stop : Int)
  · simp only [h1, if_true]
    split <;> omega
  · simp only [h1, if_false]
    split <;> omega
local macro_rules | `(tactic| k_all) => `(tactic| assumption)
local macro_rules | `(tactic| k_mem) => `(tactic| assumption)
local macro_rules | `(tactic| walk_at "call ref") => `(tactic| (k_here; (with_reducible show wpAny _ _ (call (Value.ref 122) _) _ _ _); with_unfolding_all (refine' skip_use ?B ?F ?X ?N ?mx ?U ?T ?k ?dp ?un ?ne ?tx ?b ?sk ?e ?e0 ?_ ?_; (case B => k_asm); (case F => k_asm); (case X => k_asm); (case N => k_asm); (case mx => k_mem); (case U => k_updF); (case T => k_asm); (case k => exact rfl); (case dp => ktr_room); (case un => ktr_units); (case ne => k_ne); (case tx => assumption); (case b => omega); (case sk => assumption); (case e => omega); (case e0 => omega)); (rotate_left; (intro ex9 dX9 tN9 T9 oT9 k95 k96 t95 t96 t9 h9 tk9 hf9 F9 N9 tb9 n91 n92 n93; (try (exact absurd hf9 (by decide))); (try dsimp only at N9 n92 n93)); rotate_right; (intro t9 h9 tk9 hf9 F9 N9; (try (exact absurd hf9 (by decide))); (try dsimp only at N9)))))
local macro_rules | `(tactic| walk_at "noteFrame ref") => `(tactic| (k_here; with_unfolding_all (refine' caught_fault ?B ?F ?X ?TR ?N ?C ?tb ?ne ?off ?ex ?_ ?hk ?hlo ?hx; (case B => k_asm); (case F => k_asm); (case X => k_asm); (case TR => k_asm); (case N => k_asm); (case C => exact cls88 (Frag.In.keeps (by k_asm) (Fr.keep (by k_asm)))); (case tb => assumption); (case ne => assumption); (case off => assumption); (case ex => k_is); (case hk => rfl); (case hlo => rfl); (case hx => rfl)); intro h9 T9 tk9 F9 N9))
local macro_rules | `(tactic| walk_at "getAttr ref") => `(tactic| (k_here; k_dflt (refine' exc_get ?k1 ?k2 ?k3 ?k4 ?k5 ?k6 ?k7 ?k8 ?k9 ?kA ?kB ?kC ?_; (case k1 => k_asm); (case k2 => k_asm); (case k3 => k_asm); (case k4 => k_mem); (case k5 => k_mem); (case k6 => k_is); (case k7 => k_is); (case k8 => k_is); (case k9 => k_is); (case kA => k_is); (case kB => k_get); (case kC => k_handed); k_whole)))
local macro_rules | `(tactic| walk_at "bind") => `(tactic| (k_here; with_unfolding_all (refine' goes_X ?F ?N ?_ ?hk ?hl; (case F => k_asm); (case N => k_asm); (case hk => rfl); (case hl => rfl)); intro h9 v9 F9 N9))
local macro_rules | `(tactic| walk_at "compareOp Eq int int") => `(tactic| (k_here; with_reducible refine eq_same ?_))
local macro_rules | `(tactic| walk_at "compareOp NotEq int int") => `(tactic| (k_here; with_reducible refine ne_same ?_))
local macro_rules | `(tactic| walk_at "compareOp Eq ref ref") => `(tactic| (k_here; with_unfolding_all (refine' eq_cons ?k1 ?k2 ?k3 ?k4 ?_; (case k1 => is_list); (case k2 => assumption); (case k3 => is_list); (case k4 => units_room))))
local macro_rules | `(tactic| walk_at "compareOp NotEq ref ref") => `(tactic| (k_here; with_unfolding_all (refine' ne_cons ?k1 ?k2 ?k3 ?k4 ?_; (case k1 => is_list); (case k2 => assumption); (case k3 => is_list); (case k4 => units_room))))
local macro_rules | `(tactic| walk_at "exec Try") => `(tactic| (k_here; refine wpAny_Try_except ?_))
def lapBody : List Stmt := match lawTurn with
  | _ :: .For _ _ body _ _ :: _ => body
  | _ => []
set_option maxRecDepth 100000 in
set_option maxHeartbeats 2000000 in
theorem law_lap {w : World} {mean : ExcName → Option Value} {mg mb : Str → Option Value} {L fa : Addr} {cd : Value} {h₀ : Heap} {m : Str → Option Value} {s : Shared} {Q : Flow → Shared → Prop}
  {D x dx : Addr} {oE oB : Obj} {rest : List (Addr × Obj)} {cs : List Value} {spot e r : Nat} {f : Bool} {text : Str} {td k1 k2 k3 k4 t1 t2 t3 t4 : Tok} {v : Value}
  (B : Below callerA h₀ [] h₀) (X : (hd.heap_1 w.params).In h₀) (T : Top viewQ (looseW viewQ [Str.ofString "ESCAPES"]) mean mg mb h₀)
  (F : Fr h₀ L s.heap (fun y => if y = Str.ofString "lap" then some v else m y)) (hm1 : m (Str.ofString "cut") = some (.ref D)) (hm2 : m (Str.ofString "scanner") = some (.ref x)) (hm3 : m (Str.ofString "due") = some (.int r td))
  (N : News h₀ L s.heap ((D, LCg.lst cs) :: (x, instObj 174 dx) :: (dx, scanD w text spot e k1 k2 k3 k4 t1 t2 t3 t4) :: (L + 1 + 1, oB) :: (L + 1, oE) :: rest))
  (hO1 : @LT.lt Nat _ (L + 1 + 1) dx) (hO2 : @LT.lt Nat _ dx x) (hO3 : @LT.lt Nat _ x D)
  (hoff1 : ∀ p ∈ rest, p.1 ≠ x) (hoff2 : ∀ p ∈ rest, p.1 ≠ dx) (hoff3 : ∀ p ∈ rest, p.1 ≠ D)
  (htx : text.length ≤ 1000) (he : e ≤ text.length)
  (hcs : (cs = [] ∧ f = false) ∨ (∃ c ns, IntsAre cs (c :: ns)) ∧ f = true) (hP : Skips text.cps.toList e spot r f)
  (hQ : ∀ m' h' tk t2', (∀ z, z ≠ Str.ofString "lap" → z ≠ Str.ofString "is_cut" → z ≠ Str.ofString "fault" → m' z = m z) → Fr h₀ L h' m' →
    News h₀ L h' ((D, LCg.lst cs) :: (x, instObj 174 dx) :: (dx, scanD w text r e k1 k2 k3 k4 t1 t2' t3 t4) :: (L + 1 + 1, oB) :: (L + 1, oE) :: rest) → Q .next { s with heap := h', toks := tk }) :
  wpAny (model PySem.Challenge.pw_qd0009_01 w) (callerA.deeper (lawEnv L fa cd)) (execs lapBody (lawEnv L fa cd)) Q (fun _ _ => False) s := by
  have _k : hd.heap_1 = hd.heap_1 ∧ PySem.Challenge.rw_qd0009_01 = PySem.Challenge.rw_qd0009_01 := by
    k_fill
    exact ⟨rfl, rfl⟩
  clear _k
  with_unfolding_all show wpAny _ (Around.deeper callerA (envOfC _ (Scope.mk _ _ _ _ _) _ _ _)) (execs (_ :: _) (envOfC _ (Scope.mk _ _ _ _ _) _ _ _)) _ _ _
  have F₂ := fr_at (fr_at (fr_at F (x := Str.ofString "due") (v := .int r td) (by rw [if_neg (by decide +kernel)]; exact hm3)) (x := Str.ofString "scanner") (v := .ref x) (by rw [if_neg (by decide +kernel), if_neg (by decide +kernel)]; exact hm2)) (x := Str.ofString "cut") (v := .ref D) (by rw [if_neg (by decide +kernel), if_neg (by decide +kernel), if_neg (by decide +kernel)]; exact hm1)
  clear F
  rcases hcs with ⟨rfl, rfl⟩ | ⟨⟨c, ns, hIA⟩, rfl⟩
  all_goals (repeat' (first | (k_unfold; (try dsimp only)) | (k_end; wrow_close) | walk1 | (dsimp only; walk1) | (leave1; walk_say "STEP leave1"; try dsimp only) | fail "no step"))
  all_goals
    rename Fr h₀ L _ _ => kF
    rename News h₀ L _ _ => kN
    (try dsimp only at kN)
    refine' hQ _ _ _ _ ?g1 kF (news_sub kN (List.forall_mem_cons.mpr ⟨?ga, List.forall_mem_cons.mpr ⟨?gb, List.forall_mem_cons.mpr ⟨?gc, List.forall_mem_cons.mpr ⟨?gd, List.forall_mem_cons.mpr ⟨?ge, ?gr⟩⟩⟩⟩⟩))
    case ga => k_mem
    case gb => k_mem
    case gc => k_mem
    case gd => k_mem
    case ge => k_mem
    case gr =>
      intro p hp
      simp [hp]
    case g1 =>
      intro z h1 h2 h3
      (try dsimp only)
      simp only [h1, h2, h3, if_false]
      split
      · rename_i hz
        rw [hz, hm1]
      · split
        · rename_i hz
          rw [hz, hm2]
        · split
          · rename_i hz
            rw [hz, hm3]
          · rfl
end Mine
end
/-! V7 -/
section
open PySem PySem.W PyProof.Rows PySem.Calls
namespace Mine
theorem off_V7 : True := by
  w_top off
  trivial
local macro_rules | `(tactic| walk_at "pad 0") => `(tactic| skip)
local macro_rules | `(tactic| walk_at "pad 1") => `(tactic| skip)
local macro_rules | `(tactic| walk_at "pad 2") => `(tactic| skip)
local macro_rules | `(tactic| walk_at "pad 3") => `(tactic| skip)
local macro_rules | `(tactic| walk_at "pad 4") => `(tactic| skip)
local macro_rules | `(tactic| walk_at "pad 5") => `(tactic| skip)
local macro_rules | `(tactic| k_all) => `(tactic| assumption)
local macro_rules | `(tactic| k_mem) => `(tactic| assumption)
local macro_rules | `(tactic| walk_at "compareOp Eq int int") => `(tactic| (k_here; with_reducible refine eq_same ?_))
local macro_rules | `(tactic| walk_at "compareOp NotEq int int") => `(tactic| (k_here; with_reducible refine ne_same ?_))
local macro_rules | `(tactic| walk_at "compareOp Eq ref ref") => `(tactic| (k_here; with_unfolding_all (refine' eq_cons ?k1 ?k2 ?k3 ?k4 ?_; (case k1 => is_list); (case k2 => assumption); (case k3 => is_list); (case k4 => units_room))))
local macro_rules | `(tactic| walk_at "compareOp NotEq ref ref") => `(tactic| (k_here; with_unfolding_all (refine' ne_cons ?k1 ?k2 ?k3 ?k4 ?_; (case k1 => is_list); (case k2 => assumption); (case k3 => is_list); (case k4 => units_room))))
theorem ne_tup3 {prog : Program} {w : World} {A : Around} {E : Value → Shared → Prop} {s : Shared} {Q : Value → Shared → Prop} {a b : Addr} {x : Str} {i j : Int} {t1 t2 t3 t4 t5 t6 : Tok}
    (ha : IsTup s.heap a #[.str x t1, .int i t2, .int j t3]) (hb : IsTup s.heap b #[.str x t4, .int i t5, .int j t6]) (hok : PyData.strOk x = true) (hu : A.units + 64 < cLine) (h : Q (.bool false) s) :
    wpAny (model prog w) A (compareOp .NotEq (.ref a) (.ref b)) Q E s := by
  have sh : SeqAt.shaped (.tuple [.str x, .int i, .int j]) = true := by
    simp [SeqAt.shaped, PyData.canLay0, PyData.canLayAll0, PyData.depth, PyData.depthAll, hok]
  obtain ⟨o, ho, hc, n, hd⟩ := ha
  obtain ⟨o', ho', hc', n', hd'⟩ := hb
  refine ne_dataH_same (da := .tuple [.str x, .int i, .int j]) (db := .tuple [.str x, .int i, .int j]) (Reads.tuple ho hc hd (.cons (.str _ _) (.cons (.int _ _) (.cons (.int _ _) .nil)))) (Reads.tuple ho' hc' hd' (.cons (.str _ _) (.cons (.int _ _) (.cons (.int _ _) .nil)))) sh sh hu (by simp [SeqAt.noMix, SeqAt.noMixAll]) ?_
  rw [show PySem.Spec.same (.tuple [.str x, .int i, .int j]) (.tuple [.str x, .int i, .int j]) = true from by simp [PySem.Spec.same, PySem.Spec.sameAll]]
  exact h
local macro_rules | `(tactic| walk_at "compareOp NotEq ref ref") => `(tactic| (k_here; with_unfolding_all (refine' ne_tup3 ?k1 ?k2 ?k3 ?k4 ?_; (case k3 => assumption); (case k1 => exact News.isTup (by k_asm) (by k_mem)); (case k2 => exact News.isTup (by k_asm) (by k_mem)); (case k4 => units_room))))
set_option maxRecDepth 100000 in
set_option maxHeartbeats 2000000 in
theorem law_laps {w : World} {mean : ExcName → Option Value} {mg mb : Str → Option Value} {L fa : Addr} {cd : Value} {h₀ : Heap} {m : Str → Option Value} {s : Shared} {Q : Flow → Shared → Prop}
  {d D x dx : Addr} {oE oB : Obj} {rest : List (Addr × Obj)} {cs : List Value} {stop b e : Nat} {text : Str} {tt ts te tb k1 k2 k3 k4 t1 t2 t3 t4 : Tok} {rs : List (Nat × Nat)}
  (B : Below callerA h₀ [] h₀) (X : (hd.heap_1 w.params).In h₀) (T : Top viewQ (looseW viewQ [Str.ofString "ESCAPES"]) mean mg mb h₀)
  (F : Fr h₀ L s.heap (fun y => if y = Str.ofString "cut" then some (.ref D) else if y = Str.ofString "scanner" then some (.ref x) else if y = Str.ofString "feed" then some (.ref d) else if y = Str.ofString "text" then some (.str text tt) else if y = Str.ofString "stop" then some (.int stop ts) else m y))
  (N : News h₀ L s.heap ((D, LCg.lst cs) :: (x, instObj 174 dx) :: (dx, scanD w text b e k1 k2 k3 k4 t1 t2 t3 t4) :: (L + 1 + 1, oB) :: (L + 1, oE) :: rest))
  (hO1 : @LT.lt Nat _ (L + 1 + 1) dx) (hO2 : @LT.lt Nat _ dx x) (hO3 : @LT.lt Nat _ x D)
  (hoff1 : ∀ p ∈ rest, p.1 ≠ x) (hoff2 : ∀ p ∈ rest, p.1 ≠ dx) (hoff3 : ∀ p ∈ rest, p.1 ≠ D)
  (hoE : oE.data = .cell (some (.int e te))) (hoB : oB.data = .cell (some (.int b tb)))
  (htx : text.length ≤ 1000) (he : e ≤ text.length) (hb : b ≤ text.length) (hstop : stop ≤ text.length) (hok : PyData.strOk text = true)
  (hI : IntsOf cs (cutOf b e rs)) (hP : Skips text.cps.toList e b (dueOf b e stop rs) (isCutOf b e rs))
  (hQ : ∀ m' h' tk, m' (Str.ofString "feed") = some (.ref d) → m' (Str.ofString "text") = some (.str text tt) → m' (Str.ofString "stop") = some (.int stop ts) → Fr h₀ L h' m' → News h₀ L h' ((L + 1 + 1, oB) :: (L + 1, oE) :: rest) → Q .next { s with heap := h', toks := tk }) :
  wpAny (model PySem.Challenge.pw_qd0009_01 w) (callerA.deeper (lawEnv L fa cd)) (execs lawTurn (lawEnv L fa cd)) Q (fun _ _ => False) s := by
  have _k : hd.heap_1 = hd.heap_1 ∧ PySem.Challenge.rw_qd0009_01 = PySem.Challenge.rw_qd0009_01 := by
    k_fill
    exact ⟨rfl, rfl⟩
  clear _k
  with_unfolding_all show wpAny _ (Around.deeper callerA (envOfC _ (Scope.mk _ _ _ _ _) _ _ _)) (execs (_ :: _) (envOfC _ (Scope.mk _ _ _ _ _) _ _ _)) _ _ _
  have hP2 := hP.again
  obtain ⟨f, hf⟩ : ∃ f, f = isCutOf b e rs := ⟨_, rfl⟩
  obtain ⟨r, hr⟩ : ∃ r, r = dueOf b e stop rs := ⟨_, rfl⟩
  rw [← hf, ← hr] at hP hP2
  have hcs : (cs = [] ∧ f = false) ∨ (∃ c ns, IntsAre cs (c :: ns)) ∧ f = true := by
    subst hf
    unfold isCutOf
    cases hc : cutOf b e rs with
    | nil =>
      rw [hc] at hI
      cases cs with
      | nil => exact .inl ⟨rfl, rfl⟩
      | cons _ _ => exact hI.elim
    | cons c cs' =>
      rw [hc] at hI
      have := hI.are
      simp only [List.map_cons] at this
      exact .inr ⟨⟨_, _, this⟩, rfl⟩
  refine wpAny_execs_cons ?_
  refine wpAny_mono (Q := fun fl s' => fl = .next ∧ ∃ h' tk td, s' = { s with heap := h', toks := tk } ∧ Fr h₀ L h' (fun y => if y = Str.ofString "due" then some (.int r td) else if y = Str.ofString "cut" then some (.ref D) else if y = Str.ofString "scanner" then some (.ref x) else if y = Str.ofString "feed" then some (.ref d) else if y = Str.ofString "text" then some (.str text tt) else if y = Str.ofString "stop" then some (.int stop ts) else m y) ∧
    News h₀ L h' ((D, LCg.lst cs) :: (x, instObj 174 dx) :: (dx, scanD w text b e k1 k2 k3 k4 t1 t2 t3 t4) :: (L + 1 + 1, oB) :: (L + 1, oE) :: rest)) ?_ ?_ (fun _ _ x => x)
  · unfold dueOf at hr
    cases hc : cutOf b e rs with
    | nil =>
      rw [hc] at hI hr
      dsimp only at hr
      cases cs with
      | cons v vs => exact hI.elim
      | nil =>
        iterate 27 (first | (k_unfold; (try dsimp only)) | (k_end; wrow_close) | walk1 | (dsimp only; walk1) | (leave1; walk_say "STEP leave1"; try dsimp only) | fail "no step")
        dsimp only
        rw [due_val, ← hr]
        iterate 1 (first | (k_unfold; (try dsimp only)) | (k_end; wrow_close) | walk1 | (dsimp only; walk1) | (leave1; walk_say "STEP leave1"; try dsimp only) | fail "no step")
        rename News h₀ L _ _ => kN
        exact ⟨trivial, _, _, _, rfl, by assumption, news_sub kN fun p hp => List.mem_cons_of_mem _ hp⟩
    | cons c cs' =>
      rw [hc] at hI hr
      dsimp only at hr
      obtain rfl : c = r := hr.symm
      cases cs with
      | nil => exact hI.elim
      | cons v vs =>
        have hIA := hI.are
        simp only [List.map_cons] at hIA
        obtain ⟨⟨tc, rfl⟩, hI2⟩ := hI
        iterate 14 (first | (k_unfold; (try dsimp only)) | (k_end; wrow_close) | walk1 | (dsimp only; walk1) | (leave1; walk_say "STEP leave1"; try dsimp only) | fail "no step")
        with_unfolding_all show wpAny _ _ (storeName _ _ (Value.int ((c : Nat) : Int) _)) _ _ _
        iterate 1 (first | (k_unfold; (try dsimp only)) | (k_end; wrow_close) | walk1 | (dsimp only; walk1) | (leave1; walk_say "STEP leave1"; try dsimp only) | fail "no step")
        rename News h₀ L _ _ => kN
        exact ⟨trivial, _, _, _, rfl, by assumption, news_sub kN fun p hp => List.mem_cons_of_mem _ hp⟩
  · rintro fl s' ⟨rfl, h', tk, td, rfl, F', N'⟩
    clear F N
    dsimp only
    refine wpAny_execs_cons ?_
    with_unfolding_all refine' For_invVF F' ?k1 ?k2 ?_
    case k1 => exact rfl
    case k2 => exact rfl
    iterate 6 (first | (k_unfold; (try dsimp only)) | (k_end; wrow_close) | walk1 | (dsimp only; walk1) | (leave1; walk_say "STEP leave1"; try dsimp only) | fail "no step")
    refine call_range_1 ?_
    obtain ⟨M, hM⟩ : ∃ M : Str → Option Value, M = (fun y => if y = Str.ofString "due" then some (.int r td) else if y = Str.ofString "cut" then some (.ref D) else if y = Str.ofString "scanner" then some (.ref x) else if y = Str.ofString "feed" then some (.ref d) else if y = Str.ofString "text" then some (.str text tt) else if y = Str.ofString "stop" then some (.int stop ts) else m y) := ⟨_, rfl⟩
    have M1 : M (Str.ofString "due") = some (.int r td) := by rw [hM]; exact if_pos rfl
    have M2 : M (Str.ofString "cut") = some (.ref D) := by rw [hM]; dsimp only; rw [if_neg (by decide +kernel), if_pos rfl]
    have M3 : M (Str.ofString "scanner") = some (.ref x) := by rw [hM]; dsimp only; rw [if_neg (by decide +kernel), if_neg (by decide +kernel), if_pos rfl]
    have M4 : M (Str.ofString "feed") = some (.ref d) := by rw [hM]; dsimp only; rw [if_neg (by decide +kernel), if_neg (by decide +kernel), if_neg (by decide +kernel), if_pos rfl]
    have M5 : M (Str.ofString "text") = some (.str text tt) := by rw [hM]; dsimp only; rw [if_neg (by decide +kernel), if_neg (by decide +kernel), if_neg (by decide +kernel), if_neg (by decide +kernel), if_pos rfl]
    have M6 : M (Str.ofString "stop") = some (.int stop ts) := by rw [hM]; dsimp only; rw [if_neg (by decide +kernel), if_neg (by decide +kernel), if_neg (by decide +kernel), if_neg (by decide +kernel), if_neg (by decide +kernel), if_pos rfl]
    rw [← hM] at F'
    clear hM
    with_unfolding_all refine rng_iter (n := 2) (fun i m' nx => (∀ z, z ≠ Str.ofString "lap" → z ≠ Str.ofString "is_cut" → z ≠ Str.ofString "fault" → m' z = M z) ∧ ∃ (sp : Nat) (t2' : Tok), Skips text.cps.toList e sp r f ∧ nx = ((D, LCg.lst cs) :: (x, instObj 174 dx) :: (dx, scanD w text sp e k1 k2 k3 k4 t1 t2' t3 t4) :: (L + 1 + 1, oB) :: (L + 1, oE) :: rest)) rfl (IsRange.new _ _ _ _ _ _ _) (small_one (by omega) (by omega) (by omega) (by omega)) (by rw [rangeSize_nat]; rfl) (F'.push _) (N'.pushKeep _) ?_ ?_ ?_
    · exact ⟨fun _ _ _ _ => rfl, b, t2, hP, rfl⟩
    · rintro i v m₁ nx h tk own hi hoo hown ⟨hm, sp, t2', hsk, rfl⟩ F₁ N₁
      have ow : ∀ p ∈ own, p.1 ≠ D ∧ p.1 ≠ x ∧ p.1 ≠ dx := fun p hp => ⟨hoo p hp _ (by simp), hoo p hp _ (by simp), hoo p hp _ (by simp)⟩
      refine law_lap (rest := rest ++ own) (cs := cs) B X T F₁ (m := m₁) (by rw [hm _ (by decide +kernel) (by decide +kernel) (by decide +kernel)]; exact M2) (by rw [hm _ (by decide +kernel) (by decide +kernel) (by decide +kernel)]; exact M3) (by rw [hm _ (by decide +kernel) (by decide +kernel) (by decide +kernel)]; exact M1) N₁ hO1 hO2 hO3 (fun p hp => (List.mem_append.mp hp).elim (hoff1 p) fun q => (ow p q).2.1) (fun p hp => (List.mem_append.mp hp).elim (hoff2 p) fun q => (ow p q).2.2) (fun p hp => (List.mem_append.mp hp).elim (hoff3 p) fun q => (ow p q).1) htx he hcs hsk ?_
      intro m' h' tk' t2'' hm' F'' N''
      refine InvEndG.intro (nx := (D, LCg.lst cs) :: (x, instObj 174 dx) :: (dx, scanD w text r e k1 k2 k3 k4 t1 t2'' t3 t4) :: (L + 1 + 1, oB) :: (L + 1, oE) :: rest) F'' N'' ⟨fun z z1 z2 z3 => (hm' z z1 z2 z3).trans (hm z z1 z2 z3), r, t2'', hP2, rfl⟩ hoo (fun p hp => ?_) (fun p hp => ?_)
      · simp only [List.mem_cons, List.mem_append] at hp ⊢
        rcases hp with h | h | h | h | h | h <;> simp [h]
      · simp [hp]
    · rintro m₁ nx h tk ⟨hm, sp, t2', hsk, rfl⟩ F₁ N₁
      have M4' := (hm (Str.ofString "feed") (by decide +kernel) (by decide +kernel) (by decide +kernel)).trans M4
      have M5' := (hm (Str.ofString "text") (by decide +kernel) (by decide +kernel) (by decide +kernel)).trans M5
      have M6' := (hm (Str.ofString "stop") (by decide +kernel) (by decide +kernel) (by decide +kernel)).trans M6
      have M3' := (hm (Str.ofString "scanner") (by decide +kernel) (by decide +kernel) (by decide +kernel)).trans M3
      have F₂ := fr_at (fr_at F₁ M5') (x := Str.ofString "scanner") (v := .ref x) (by rw [if_neg (by decide +kernel)]; exact M3')
      clear F' N' F₁
      dsimp only
      repeat' (first | (k_unfold; (try dsimp only)) | (k_end; wrow_close) | walk1 | (dsimp only; walk1) | (leave1; walk_say "STEP leave1"; try dsimp only) | fail "no step")
      rename News h₀ L _ _ => kN
      refine hQ _ _ _ ?ga ?gb ?gc (by assumption) (news_sub kN fun p hp => ?gd)
      case gd =>
        simp only [List.mem_cons] at hp ⊢
        rcases hp with h | h | h <;> simp [h]
      case ga =>
        (try dsimp only)
        rw [if_neg (by decide +kernel), if_neg (by decide +kernel)]
        exact M4'
      case gb =>
        (try dsimp only)
        rw [if_neg (by decide +kernel), if_pos rfl]
      case gc =>
        (try dsimp only)
        rw [if_neg (by decide +kernel), if_neg (by decide +kernel)]
        exact M6'
end Mine
end
/-! V5 -/
section
open PySem PySem.W PyProof.Rows PySem.Calls
namespace Mine
theorem off_V5 : True := by
  w_top off
  trivial
local macro_rules | `(tactic| walk_at "pad 0") => `(tactic| skip)
local macro_rules | `(tactic| walk_at "pad 1") => `(tactic| skip)
local macro_rules | `(tactic| walk_at "pad 2") => `(tactic| skip)
local macro_rules | `(tactic| walk_at "pad 3") => `(tactic| skip)
local macro_rules | `(tactic| walk_at "pad 4") => `(tactic| skip)
local macro_rules | `(tactic| walk_at "pad 5") => `(tactic| skip)
local macro_rules | `(tactic| walk_at "pad 6") => `(tactic| skip)
local macro_rules | `(tactic| walk_at "pad 7") => `(tactic| skip)
local macro_rules | `(tactic| walk_at "pad 8") => `(tactic| skip)
local macro_rules | `(tactic| walk_at "pad 9") => `(tactic| skip)
local macro_rules | `(tactic| walk_at "pad 10") => `(tactic| skip)
theorem IntsOf.get : ∀ {vs : List Value} {ns : List Nat}, IntsOf vs ns → ∀ {i : Nat} {v : Value}, vs[i]? = some v → ∃ n t, ns[i]? = some n ∧ v = .int n t
  | [], [], _, i, v, h => by simp at h
  | x :: vs, r :: rs, ⟨⟨t, a⟩, b⟩, 0, v, h => by
    simp only [List.getElem?_cons_zero, Option.some.injEq] at h
    subst h
    exact ⟨r, t, rfl, a⟩
  | x :: vs, r :: rs, ⟨a, b⟩, i + 1, v, h => by
    simp only [List.getElem?_cons_succ] at h ⊢
    exact b.get h
local macro_rules | `(tactic| k_all) => `(tactic| assumption)
local macro_rules | `(tactic| k_mem) => `(tactic| assumption)
local macro_rules | `(tactic| walk_at "testChain") => `(tactic| (k_here; k_dflt (first | refine test_last ?_ | refine test_link ?_)))
theorem offs_of {D : Addr} {l : List (Addr × Obj)} (h : LCg.Off1 D l) : ∀ p ∈ l, p.1 ≠ D := by
  induction l with
  | nil => exact fun _ hp => nomatch hp
  | cons q r ih =>
    intro p hp
    rcases List.mem_cons.mp hp with rfl | hp
    · exact h.1
    · exact ih h.2 p hp
theorem alls_of {D : Addr} {l : List (Addr × Obj)} (h : AllLt D l) : ∀ p ∈ l, p.1 < D := by
  induction l with
  | nil => exact fun _ hp => nomatch hp
  | cons q r ih =>
    intro p hp
    rcases List.mem_cons.mp hp with rfl | hp
    · exact h.1
    · exact ih h.2 p hp
theorem pass_true {b e : Nat} {r : Nat × Nat} (h1 : (b : Int) ≤ (r.1 : Int)) (h2 : (r.1 : Int) < (e : Int)) (h3 : (e : Int) < (r.2 : Int)) : true = passB b e r := by
  symm
  simp only [passB, Bool.and_eq_true, decide_eq_true_eq]
  omega
theorem pass_false {b e : Nat} {r : Nat × Nat} (h : ¬ (b : Int) ≤ (r.1 : Int) ∨ ¬ (r.1 : Int) < (e : Int) ∨ ¬ (e : Int) < (r.2 : Int)) : false = passB b e r := by
  symm
  rw [Bool.eq_false_iff]
  intro hp
  simp only [passB, Bool.and_eq_true, decide_eq_true_eq] at hp
  omega
set_option maxRecDepth 100000 in
set_option maxHeartbeats 1000000 in
theorem law_begin {w : World} {mean : ExcName → Option Value} {mg mb : Str → Option Value} {L fa : Addr} {cd : Value} {h₀ : Heap} {m : Str → Option Value} {s : Shared} {Q : Flow → Shared → Prop}
  {d lC lS lR : Addr} {o oE oB : Obj} {tl : List (Addr × Obj)} {vS vR : List Value} {nS nR stop e : Nat} {place : Int} {text text0 : Str} {tt ts te : Tok} {v₀ : Option Value} {ss : List Nat} {rs : List (Nat × Nat)}
  (B : Below callerA h₀ [] h₀) (F : Fr h₀ L s.heap m) (hm1 : m (Str.ofString "feed") = some (.ref d)) (hm2 : m (Str.ofString "text") = some (.str text tt)) (hm3 : m (Str.ofString "stop") = some (.int stop ts))
  (X : (hd.heap_1 w.params).In h₀) (T : Top viewQ (looseW viewQ [Str.ofString "ESCAPES"]) mean mg mb h₀)
  (N : News h₀ L s.heap ((L + 1 + 1, oB) :: (d, o) :: (lS, listOf vS.toArray nS) :: (lR, listOf vR.toArray nR) :: (L + 1, oE) :: tl))
  (hO2 : @LT.lt Nat _ (L + 1 + 1) d) (hO3 : @LT.lt Nat _ d lS) (hO4 : @LT.lt Nat _ lS lR)
  (hoff5 : ∀ p ∈ tl, p.1 ≠ L + 1 + 1) (hoE : oE.data = .cell (some (.int e te))) (hoB : oB.data = .cell v₀)
  (hD : FeedIs PySem.Challenge.pw_qd0009_01 w lC lS lR place text0 o)
  (hz1 : vS.length ≤ 100) (hz2 : vR.length ≤ 100) (hsS : IntsOf vS ss) (hsR : PairsIn tl vR rs) (htx : text.length ≤ 1000) (he : e ≤ text.length) (hstop : stop ≤ text.length) (hok : PyData.strOk text = true) (hbs : ∀ b ∈ ss, b ≤ text.length)
  (hP : ∀ b ∈ ss, Skips text.cps.toList e b (dueOf b e stop rs) (isCutOf b e rs))
  (hQ : ∀ m' h' tk, Fr h₀ L h' m' → Q .next { s with heap := h', toks := tk }) :
  wpAny (model PySem.Challenge.pw_qd0009_01 w) (callerA.deeper (lawEnv L fa cd)) (exec lawForB (lawEnv L fa cd)) Q (fun _ _ => False) s := by
  have _k : hd.heap_1 = hd.heap_1 ∧ PySem.Challenge.rw_qd0009_01 = PySem.Challenge.rw_qd0009_01 := by
    k_fill
    exact ⟨rfl, rfl⟩
  clear _k
  with_unfolding_all show wpAny _ (Around.deeper callerA (envOfC _ (Scope.mk _ _ _ _ _) _ _ _)) (exec (Stmt.For _ _ _ _ _) (envOfC _ (Scope.mk _ _ _ _ _) _ _ _)) _ _ _
  have F0 := fr_at F hm1
  with_unfolding_all refine For_invTF F0 ?_ (by intro _; rfl)
  obtain ⟨t3, t4, hU⟩ := hD
  iterate 4 (first | (k_unfold; (try dsimp only)) | (k_end; wrow_close) | walk1 | (dsimp only; walk1) | (leave1; walk_say "STEP leave1"; try dsimp only) | fail "no step")
  dsimp only
  with_unfolding_all refine lst_iterT (l := lS) (vs := vS) (nn := nS) (fun i m nx => m (Str.ofString "feed") = some (.ref d) ∧ m (Str.ofString "text") = some (.str text tt) ∧ m (Str.ofString "stop") = some (.int stop ts) ∧ ∃ oB v₀, oB.data = .cell v₀ ∧ nx = ((L + 1 + 1, oB) :: (d, o) :: (lS, listOf vS.toArray nS) :: (lR, listOf vR.toArray nR) :: (L + 1, oE) :: tl)) rfl (.tail _ (.tail _ (.head _))) F0 N ?_ ?_ ?_
  · exact ⟨by simp, by rw [if_neg (by decide +kernel)]; exact hm2, by rw [if_neg (by decide +kernel)]; exact hm3, oB, v₀, hoB, rfl⟩
  · intro i v m₁ nx s₁ own hv hoo _ ⟨j1, j2, j3, oB', v', j4, j5⟩ F₁ N₁
    subst j5
    clear F F0 N hm1 hm2 hm3
    have F₂ := fr_at (fr_at (fr_at F₁ j3) (x := Str.ofString "text") (v := .str text tt) (by rw [if_neg (by decide +kernel)]; exact j2)) (x := Str.ofString "feed") (v := .ref d) (by rw [if_neg (by decide +kernel), if_neg (by decide +kernel)]; exact j1)
    clear F₁
    have hown : ∀ p ∈ own, p.1 ≠ L + 1 + 1 := fun p hp => hoo p hp _ (by simp)
    obtain ⟨tl2, htl2⟩ : ∃ tl2, tl2 = tl ++ own := ⟨_, rfl⟩
    have hR2 : PairsIn tl2 vR rs := htl2 ▸ hsR.more fun p hp => List.mem_append_left _ hp
    have hoff6 : ∀ p ∈ tl2, p.1 ≠ L + 1 + 1 := fun p hp => by
      rw [htl2] at hp
      exact (List.mem_append.mp hp).elim (hoff5 p) (hown p)
    simp only [List.cons_append] at N₁
    rw [← htl2] at N₁
    obtain ⟨b, tb, hb, rfl⟩ := hsS.get hv
    have hsk := hP b (List.mem_of_getElem? hb)
    iterate 45 (first | (k_unfold; (try dsimp only)) | (k_end; wrow_close) | walk1 | (dsimp only; walk1) | (leave1; walk_say "STEP leave1"; try dsimp only) | fail "no step")
    rename News h₀ L _ _ => kN
    rename Fr h₀ L _ _ => kF
    dsimp only at kN
    have kP : PairsIn tl2 vR rs := hR2
    with_unfolding_all refine' cut_assign (lR := lR) (vs := vR) (rs := rs) (P := passB b e) (nR := nR) ?cF ?cNN ?c1 ?c2 ?c3 ?c4 ?c5 ?c6 ?c7 ?c8 ?c9 ?cA ?cB ?cC hz2 (hR2.more ?cm) ?cn ?cev ?cturn ?cfin ?chs
    case cF => exact kF
    case cNN => exact kN
    case chs => intro _; rfl
    case c1 => rfl
    case c2 => rfl
    case c3 => rfl
    case c4 => rfl
    case c5 => decide
    case c6 => rfl
    case c7 => decide
    case c8 => rfl
    case c9 => rfl
    case cA => decide
    case cB => rfl
    case cC => rfl
    case cev =>
      iterate 4 (first | (k_unfold; (try dsimp only)) | (k_end; wrow_close) | walk1 | (dsimp only; walk1) | (leave1; walk_say "STEP leave1"; try dsimp only) | fail "no step")
      exact ⟨rfl, kF, kN, _, _, rfl⟩
    case cturn =>
      intro r t1 t2 I oI C oC D ys m₂ h tk E' hNs hx1 hx2 F' N' o3 ne
      repeat' (first | (k_unfold; (try dsimp only)) | (k_end; wrow_close) | walk1 | (dsimp only; walk1) | (leave1; walk_say "STEP leave1"; try dsimp only) | fail "no step")
      · exact ⟨pass_true (by assumption) (by assumption) (by assumption), ⟨_, rfl⟩, fun _ => ⟨_, rfl⟩⟩
      · exact ⟨pass_false (.inr (.inr (by assumption))), ⟨_, rfl⟩, fun h => nomatch h⟩
      · exact ⟨pass_false (.inr (.inl (by assumption))), ⟨_, rfl⟩, fun h => nomatch h⟩
      · exact ⟨pass_false (.inl (by assumption)), ⟨_, rfl⟩, fun h => nomatch h⟩
    case cfin =>
      intro D h tk ys F' N' o1 hI
      dsimp only
      rename (_ ∧ _ ∧ _ ∧ _ ∧ _ ∧ AllLt _ _) => l1
      rename (@LT.lt Nat _ _ _) => l2
      have al := alls_of l1.2.2.2.2.2
      refine' law_laps (d := d) (oE := oE) (rest := (d, o) :: (lS, listOf vS.toArray nS) :: (lR, listOf vR.toArray nR) :: tl2) (stop := stop) (b := b) (e := e) (rs := rs) B X T F' (news_sub N' ?na) l1.1 l2 (o1 _ (.head _)) ?nb ?nc ?nd hoE (by assumption) htx he (hbs b (List.mem_of_getElem? hb)) hstop hok hI hsk ?nq
      case na =>
        refine' List.forall_mem_cons.mpr ⟨?a1, List.forall_mem_cons.mpr ⟨?a2, List.forall_mem_cons.mpr ⟨?a3, List.forall_mem_cons.mpr ⟨?a4, List.forall_mem_cons.mpr ⟨?a5, List.forall_mem_cons.mpr ⟨?a6, List.forall_mem_cons.mpr ⟨?a7, List.forall_mem_cons.mpr ⟨?a8, ?a9⟩⟩⟩⟩⟩⟩⟩⟩
        case a9 =>
          intro p hp
          simp [hp]
        all_goals k_mem
      case nb =>
        intro p hp
        simp only [List.mem_cons] at hp
        rcases hp with rfl | rfl | rfl | h
        · exact Nat.ne_of_lt (Nat.lt_trans l1.2.1 l2)
        · exact Nat.ne_of_lt (Nat.lt_trans l1.2.2.1 l2)
        · exact Nat.ne_of_lt (Nat.lt_trans l1.2.2.2.1 l2)
        · exact Nat.ne_of_lt (Nat.lt_trans (al p h) l2)
      case nc =>
        intro p hp
        simp only [List.mem_cons] at hp
        rcases hp with rfl | rfl | rfl | h
        · exact Nat.ne_of_lt l1.2.1
        · exact Nat.ne_of_lt l1.2.2.1
        · exact Nat.ne_of_lt l1.2.2.2.1
        · exact Nat.ne_of_lt (al p h)
      case nd =>
        intro p hp
        refine Nat.ne_of_lt (o1 p ?_)
        simp only [List.mem_cons] at hp ⊢
        rcases hp with h | h | h | h <;> simp [h]
      case nq =>
        intro m' h' tk' j1 j2 j3 F'' N''
        refine ⟨rfl, ?_⟩
        refine' InvEndG.intro (nx := (L + 1 + 1, ?ob) :: (d, o) :: (lS, listOf vS.toArray nS) :: (lR, listOf vR.toArray nR) :: (L + 1, oE) :: tl) F'' N'' ⟨?b1, j1, j2, j3, ?ob, some (.int b tb), ?b2, rfl⟩ ?b3 (List.forall_mem_cons.mpr ⟨?b4, ?b5⟩) ?b6
        case b4 => exact .head _
        case b2 => assumption
        case b1 => simp
        case b3 =>
          intro p hp q hq
          exact hoo p hp q (by simpa using hq)
        case b5 =>
          intro p hp
          rw [htl2]
          simp only [List.mem_cons, List.mem_append] at hp ⊢
          rcases hp with h | h | h | h | h <;> simp [h]
        case b6 =>
          intro p hp
          rw [htl2]
          simp [hp]
    case cm =>
      intro p hp
      simp [hp]
    case cn => simp
  · intro m₁ nx h tk _ F' _
    exact hQ m₁ h tk F'
end Mine
end
/-! P0 -/
section
open PySem PySem.W PyProof.Rows PySem.Calls
namespace Mine
theorem off_P0 : True := by
  w_top off
  trivial
def menu4 : List Str := [" ", "%b\n", "/**/ x", ""]
/-- what the law lays behind the stretches -/
inductive Tail (x : Str) (rs : List (Nat × Nat)) : Str → Nat → List (Nat × Nat) → Prop
  | sign {g t : Str} {n : Nat} : g ∈ signs → t ∈ menu4 → n = x.length → Tail x rs (x ++ g ++ t) n rs
  | bare {n : Nat} : n = x.length → Tail x rs x n rs
  | lined {is : List Str} {n : Nat} : is.length ≤ 3 → (∀ i ∈ is, i ∈ lined) → n = (x ++ (Str.ofString "%" ++ Txt.join (Str.ofString "") is)).length → Tail x rs (x ++ (Str.ofString "%" ++ Txt.join (Str.ofString "") is)) n rs
  | starred {is : List Str} {n : Nat} : is.length ≤ 3 → (∀ i ∈ is, i ∈ starred) → n = (x ++ (Str.ofString "/*" ++ Txt.join (Str.ofString "") is)).length →
      Tail x rs (x ++ (Str.ofString "/*" ++ Txt.join (Str.ofString "") is)) n (rs ++ [(x.length, (x ++ (Str.ofString "/*" ++ Txt.join (Str.ofString "") is)).length + 1)])
end Mine
end
/-! P1 -/
section
open PySem PySem.W PyProof.Rows PySem.Calls
namespace Mine
theorem off_P1 : True := by
  w_top off
  trivial
/-! texts as lists of signs -/
abbrev cl (x : Str) : List Nat := x.cps.toList
theorem cl_append (x y : Str) : cl (x ++ y) = cl x ++ cl y := by
  have : (x ++ y).cps = x.cps ++ y.cps := rfl
  show ((x ++ y).cps).toList = _
  rw [this, Array.toList_append]
theorem cl_len (x : Str) : (cl x).length = x.length := cps_size x
theorem cl_fold (g : Array Nat) (hg : g.toList = []) : ∀ (r : List Str) (a : Array Nat), (r.foldl (fun acc p => acc ++ g ++ p.cps) a).toList = a.toList ++ (r.map cl).flatten
  | [], a => by simp
  | x :: r, a => by
    rw [List.foldl_cons, cl_fold g hg r]
    simp [Array.toList_append, hg]
theorem cl_join (is : List Str) : cl (Txt.join (Str.ofString "") is) = (is.map cl).flatten := by
  cases is with
  | nil => decide +kernel
  | cons x r =>
    have h := cl_fold (Str.ofString "").cps (by decide +kernel) r x.cps
    show Array.toList (List.foldl _ _ _) = _
    rw [List.map_cons, List.flatten_cons]
    exact h
theorem at_r (pre r : List Nat) (k : Nat) : (pre ++ r)[pre.length + k]? = r[k]? := by
  rw [List.getElem?_append_right (by omega)]
  congr 1
  omega
section
variable {l : List Nat} {e R : Nat} {F : Bool}
theorem blanks_pass : ∀ {q pre z : List Nat}, (∀ c ∈ q, c ∈ blankCps) → l = pre ++ (q ++ z) → pre.length + q.length ≤ e → Skips l e (pre.length + q.length) R F → Skips l e pre.length R F
  | [], pre, z, _, _, _, h => h
  | c :: q, pre, z, hq, hl, he, h => by
    have h1 : l[pre.length]? = some c := by
      have := at_r pre (c :: q ++ z) 0
      rw [← hl] at this
      simpa using this
    refine .blank (by simp at he; omega) h1 (hq c (by simp)) ?_
    have ih := blanks_pass (q := q) (pre := pre ++ [c]) (z := z) (fun d hd => hq d (by simp [hd])) (by rw [hl]; simp) (by simp at he ⊢; omega) (by
      have e1 : (pre ++ [c]).length + q.length = pre.length + (c :: q).length := by simp; omega
      rw [e1]; exact h)
    simpa using ih
theorem blanks_part : ∀ {q pre z : List Nat}, (∀ c ∈ q, c ∈ blankCps) → l = pre ++ (q ++ z) → pre.length ≤ e → e ≤ pre.length + q.length → Skips l e pre.length e false
  | [], pre, z, _, _, h1, h2 => by
    have : pre.length = e := by simp at h2; omega
    rw [this]
    exact .done (Nat.le_refl _)
  | c :: q, pre, z, hq, hl, h1, h2 => by
    by_cases hlt : pre.length = e
    · rw [hlt]; exact .done (Nat.le_refl _)
    · have h3 : l[pre.length]? = some c := by
        have := at_r pre (c :: q ++ z) 0
        rw [← hl] at this
        simpa using this
      refine .blank (by omega) h3 (hq c (by simp)) ?_
      have ih := blanks_part (q := q) (pre := pre ++ [c]) (z := z) (fun d hd => hq d (by simp [hd])) (by rw [hl]; simp) (by simp; omega) (by simp at h2 ⊢; omega)
      simpa using ih
/-- a remark to the line's end, passed -/
theorem line_pass {pre body z : List Nat} (hb : ∀ c ∈ body, c ≠ 10) (hl : l = pre ++ ((37 :: body ++ [10]) ++ z)) (he : pre.length + (body.length + 2) ≤ e) (h : Skips l e (pre.length + (body.length + 2)) R F) : Skips l e pre.length R F := by
  have g : ∀ k, l[pre.length + k]? = ((37 :: body ++ [10]) ++ z)[k]? := fun k => by rw [hl]; exact at_r _ _ _
  have g0 : l[pre.length]? = some 37 := by simpa using g 0
  have gn : l[pre.length + (body.length + 1)]? = some 10 := by
    rw [g]
    simp
  refine .line (n := pre.length + (body.length + 1)) (by omega) g0 (by omega) (by omega) (fun i h1 h2 hi => ?_) (.inr gn) (.blank (by omega) gn (by decide) ?_)
  · obtain ⟨k, rfl⟩ : ∃ k, i = pre.length + k := ⟨i - pre.length, by omega⟩
    rw [g] at hi
    have hk : k < (37 :: body).length := by simp; omega
    rw [List.append_assoc, List.getElem?_append_left hk] at hi
    have hm := List.mem_of_getElem? hi
    rcases List.mem_cons.mp hm with h | h
    · cases h
    · exact hb 10 h rfl
  · have : pre.length + (body.length + 1) + 1 = pre.length + (body.length + 2) := by omega
    rw [this]; exact h
theorem line_part {pre body z : List Nat} (hb : ∀ c ∈ body, c ≠ 10) (hl : l = pre ++ ((37 :: body) ++ z)) (h1 : pre.length < e) (h2 : e ≤ pre.length + (body.length + 1)) : Skips l e pre.length e false := by
  have g : ∀ k, l[pre.length + k]? = ((37 :: body) ++ z)[k]? := fun k => by rw [hl]; exact at_r _ _ _
  have g0 : l[pre.length]? = some 37 := by simpa using g 0
  refine .line (n := e) h1 g0 h1 (Nat.le_refl _) (fun i h3 h4 hi => ?_) (.inl rfl) (.done (Nat.le_refl _))
  obtain ⟨k, rfl⟩ : ∃ k, i = pre.length + k := ⟨i - pre.length, by omega⟩
  rw [g] at hi
  have hk : k < (37 :: body).length := by simp; omega
  rw [List.getElem?_append_left hk] at hi
  have hm := List.mem_of_getElem? hi
  rcases List.mem_cons.mp hm with h | h
  · cases h
  · exact hb 10 h rfl
/-- no end of a remark starts in j -/
def NoEnd (j : List Nat) : Prop := ∀ i : Nat, j[i]? = some 42 → ∃ c, j[i + 1]? = some c ∧ c ≠ 47
theorem star_pass {pre j z : List Nat} (hj : ∀ i : Nat, i < j.length → (j ++ [42])[i]? = some 42 → (j ++ [42])[i + 1]? ≠ some 47) (hl : l = pre ++ ((47 :: 42 :: j ++ [42, 47]) ++ z)) (he : pre.length + (j.length + 4) ≤ e) (h : Skips l e (pre.length + (j.length + 4)) R F) : Skips l e pre.length R F := by
  have g : ∀ k, l[pre.length + k]? = ((47 :: 42 :: j ++ [42, 47]) ++ z)[k]? := fun k => by rw [hl]; exact at_r _ _ _
  have g0 : l[pre.length]? = some 47 := by simpa using g 0
  have g1 : l[pre.length + 1]? = some 42 := by simpa using g 1
  have gc : l[pre.length + (j.length + 2)]? = some 42 := by rw [g]; simp
  have gd : l[pre.length + (j.length + 3)]? = some 47 := by rw [g]; simp
  refine .star (c := pre.length + (j.length + 2)) (by omega) g0 g1 (by omega) (by omega) ⟨gc, gd⟩ (fun i h1 h2 ha => ?_) h
  obtain ⟨k, rfl⟩ : ∃ k, i = pre.length + (k + 2) := ⟨i - pre.length - 2, by omega⟩
  obtain ⟨a1, a2⟩ := ha
  have e1 : ((47 :: 42 :: j ++ [42, 47]) ++ z) = 47 :: 42 :: ((j ++ [42]) ++ (47 :: z)) := by simp
  rw [g, e1] at a1
  rw [show pre.length + (k + 2) + 1 = pre.length + (k + 1 + 2) by omega, g, e1] at a2
  simp only [List.getElem?_cons_succ] at a1 a2
  rw [List.getElem?_append_left (by simp; omega)] at a1 a2
  exact hj k (by omega) a1 a2
theorem star_cut {pre j z : List Nat} (hj : ∀ i : Nat, pre.length + (i + 4) ≤ e → (j ++ z)[i]? = some 42 → (j ++ z)[i + 1]? ≠ some 47) (hl : l = pre ++ (47 :: 42 :: (j ++ z))) (he : pre.length < e) : Skips l e pre.length pre.length true := by
  have g : ∀ k, l[pre.length + k]? = (47 :: 42 :: (j ++ z))[k]? := fun k => by rw [hl]; exact at_r _ _ _
  have g0 : l[pre.length]? = some 47 := by simpa using g 0
  have g1 : l[pre.length + 1]? = some 42 := by simpa using g 1
  refine .cut he g0 g1 fun i h1 h2 ha => ?_
  obtain ⟨k, rfl⟩ : ∃ k, i = pre.length + (k + 2) := ⟨i - pre.length - 2, by omega⟩
  obtain ⟨a1, a2⟩ := ha
  rw [g] at a1
  rw [show pre.length + (k + 2) + 1 = pre.length + (k + 1 + 2) by omega, g] at a2
  simp only [List.getElem?_cons_succ] at a1 a2
  exact hj k (by omega) a1 a2
end
end Mine
end
/-! P2 -/
section
open PySem PySem.W PyProof.Rows PySem.Calls
namespace Mine
theorem off_P2 : True := by
  w_top off
  trivial
/-- each star is followed by a sign that is no slash -/
def Good (j : List Nat) : Prop := ∀ i : Nat, j[i]? = some 42 → ∃ c, j[i + 1]? = some c ∧ c ≠ 47
theorem Good.append {a b : List Nat} (ha : Good a) (hb : Good b) : Good (a ++ b) := by
  intro i h
  by_cases hi : i < a.length
  · rw [List.getElem?_append_left hi] at h
    obtain ⟨c, hc, hn⟩ := ha i h
    have hlt := (List.getElem?_eq_some_iff.mp hc).1
    exact ⟨c, by rw [List.getElem?_append_left hlt]; exact hc, hn⟩
  · rw [List.getElem?_append_right (by omega)] at h
    obtain ⟨c, hc, hn⟩ := hb _ h
    refine ⟨c, ?_, hn⟩
    rw [List.getElem?_append_right (by omega), show i + 1 - a.length = i - a.length + 1 by omega]
    exact hc
noncomputable def goodB : List Nat → Bool
  | [] => true
  | [c] => c != 42
  | c :: d :: r => (c != 42 || d != 47) && goodB (d :: r)
theorem good_of : ∀ {j : List Nat}, goodB j = true → Good j
  | [], _, i, h => by simp at h
  | [c], e, i, h => by
    cases i with
    | zero => simp at h; subst h; cases e
    | succ i => simp at h
  | c :: d :: r, e, i, h => by
    unfold goodB at e
    rw [Bool.and_eq_true] at e
    cases i with
    | zero =>
      simp only [List.getElem?_cons_zero, Option.some.injEq] at h
      subst h
      refine ⟨d, by simp, fun hd => ?_⟩
      subst hd
      simp at e
    | succ i =>
      simp only [List.getElem?_cons_succ] at h ⊢
      exact good_of e.2 i h
theorem good_flat {is : List Str} (h : ∀ i ∈ is, i ∈ starred) : Good (is.map cl).flatten := by
  have k : ∀ i ∈ starred, goodB (cl i) = true := by decide +kernel
  induction is with
  | nil => intro i h; simp at h
  | cons x r ih =>
    rw [List.map_cons, List.flatten_cons]
    exact (good_of (k x (h x (by simp)))).append (ih fun i hi => h i (by simp [hi]))
theorem lined_flat {is : List Str} (h : ∀ i ∈ is, i ∈ lined) : ∀ c ∈ (is.map cl).flatten, c ≠ 10 := by
  have k : ∀ i ∈ lined, ∀ c ∈ cl i, c ≠ 10 := by decide +kernel
  intro c hc
  rw [List.mem_flatten] at hc
  obtain ⟨l, hl, hc⟩ := hc
  obtain ⟨i, hi, rfl⟩ := List.mem_map.mp hl
  exact k i (h i hi) c hc
/-- what a piece does: passed whole, or cut within -/
def Passes (q : List Nat) : Prop := ∀ (l pre z : List Nat) (e R : Nat) (F : Bool), l = pre ++ (q ++ z) → pre.length + q.length ≤ e → Skips l e (pre.length + q.length) R F → Skips l e pre.length R F
def EndsAt (q : List Nat) : Prop := ∀ (l pre z : List Nat) (e : Nat), l = pre ++ (q ++ z) → pre.length < e → e ≤ pre.length + q.length → Skips l e pre.length e false
def CutIn (q : List Nat) : Prop := ∀ (l pre z : List Nat) (e : Nat), l = pre ++ (q ++ z) → pre.length < e → e < pre.length + q.length → Skips l e pre.length pre.length true
theorem plain_piece {p : Str} (h : Plain p) : Passes (cl p) ∧ EndsAt (cl p) := by
  rcases h with h | ⟨is, h1, h2, rfl⟩
  · have k : ∀ x ∈ blanks, ∀ c ∈ cl x, c ∈ blankCps := by decide +kernel
    exact ⟨fun l pre z e R F hl he hs => blanks_pass (k p h) hl he hs, fun l pre z e hl h1 h2 => blanks_part (k p h) hl (Nat.le_of_lt h1) h2⟩
  · have e1 : cl (Str.ofString "%") = [37] := by decide +kernel
    have e2 : cl (Str.ofString "\n") = [10] := by decide +kernel
    have eq : cl (Str.ofString "%" ++ Txt.join (Str.ofString "") is ++ Str.ofString "\n") = 37 :: (is.map cl).flatten ++ [10] := by
      rw [cl_append, cl_append, cl_join, e1, e2]
      rfl
    rw [eq]
    have hb := lined_flat h2
    have len : (37 :: (is.map cl).flatten ++ [10]).length = (is.map cl).flatten.length + 2 := by simp
    refine ⟨fun l pre z e R F hl he hs => ?_, fun l pre z e hl h1 h2 => ?_⟩
    · rw [len] at he hs
      exact line_pass hb hl he hs
    · rw [len] at h2
      by_cases hl2 : e ≤ pre.length + ((is.map cl).flatten.length + 1)
      · exact line_part (z := [10] ++ z) hb (by rw [hl]; simp) h1 hl2
      · have : e = pre.length + ((is.map cl).flatten.length + 2) := by omega
        subst this
        exact line_pass hb hl (Nat.le_refl _) (.done (Nat.le_refl _))
theorem good_mid {j : List Nat} (h : Good j) : ∀ i : Nat, i < j.length → (j ++ [42])[i]? = some 42 → (j ++ [42])[i + 1]? ≠ some 47 := by
  intro i hi h1 h2
  rw [List.getElem?_append_left hi] at h1
  obtain ⟨c, hc, hn⟩ := h i h1
  have hlt := (List.getElem?_eq_some_iff.mp hc).1
  rw [List.getElem?_append_left hlt, hc] at h2
  exact hn (Option.some.inj h2)
theorem good_mid2 {j : List Nat} (h : Good j) : ∀ i : Nat, i < (j ++ [42]).length → (j ++ [42] ++ [42])[i]? = some 42 → (j ++ [42] ++ [42])[i + 1]? ≠ some 47 := by
  intro i hi h1 h2
  by_cases hj : i < j.length
  · rw [List.append_assoc, List.getElem?_append_left hj] at h1
    obtain ⟨c, hc, hn⟩ := h i h1
    have hlt := (List.getElem?_eq_some_iff.mp hc).1
    rw [List.append_assoc, List.getElem?_append_left hlt, hc] at h2
    exact hn (Option.some.inj h2)
  · have : i = j.length := by simp at hi; omega
    subst this
    rw [List.append_assoc, List.getElem?_append_right (by omega)] at h2
    simp at h2
theorem star_body {p : Str} (h : Star p) : ∃ j : List Nat, (∀ i : Nat, i < j.length → (j ++ [42])[i]? = some 42 → (j ++ [42])[i + 1]? ≠ some 47) ∧ cl p = 47 :: 42 :: j ++ [42, 47] := by
  obtain ⟨is, h1, h2, h⟩ := h
  have e1 : cl (Str.ofString "/*") = [47, 42] := by decide +kernel
  have e2 : cl (Str.ofString "*/") = [42, 47] := by decide +kernel
  have e3 : cl (Str.ofString "**/") = [42, 42, 47] := by decide +kernel
  rcases h with rfl | rfl
  · exact ⟨(is.map cl).flatten, good_mid (good_flat h2), by rw [cl_append, cl_append, cl_join, e1, e2]; rfl⟩
  · exact ⟨(is.map cl).flatten ++ [42], good_mid2 (good_flat h2), by rw [cl_append, cl_append, cl_join, e1, e3]; simp⟩
theorem star_piece {p : Str} (h : Star p) : Passes (cl p) ∧ CutIn (cl p) := by
  obtain ⟨j, hj, eq⟩ := star_body h
  rw [eq]
  have len : (47 :: 42 :: j ++ [42, 47]).length = j.length + 4 := by simp
  refine ⟨fun l pre z e R F hl he hs => ?_, fun l pre z e hl h1 h2 => ?_⟩
  · rw [len] at he hs
    exact star_pass hj hl he hs
  · rw [len] at h2
    refine star_cut (j := j) (z := [42, 47] ++ z) (fun i hi a1 a2 => ?_) (by rw [hl]; simp) h1
    have hij : i < j.length := by omega
    rw [show j ++ ([42, 47] ++ z) = (j ++ [42]) ++ (47 :: z) by simp] at a1 a2
    rw [List.getElem?_append_left (by simp; omega)] at a1 a2
    exact hj i hij a1 a2
end Mine
end
/-! P3 -/
section
open PySem PySem.W PyProof.Rows PySem.Calls
namespace Mine
theorem off_P3 : True := by
  w_top off
  trivial
theorem Built.ends {n : Nat} {x : Str} {ss : List Nat} {rs : List (Nat × Nat)} (h : Built n x ss rs) : (∀ r ∈ rs, r.2 ≤ x.length ∧ r.1 ≤ r.2) ∧ ∀ b ∈ ss, b ≤ x.length := by
  induction h with
  | nil => exact ⟨fun _ h => (nomatch h), fun _ h => (nomatch h)⟩
  | @plain n x p ss rs _ hp ih =>
    refine ⟨fun r hr => ?_, fun b hb => ?_⟩
    · have := ih.1 r hr
      rw [Str.length_append]; omega
    · rw [Str.length_append]
      rcases List.mem_append.mp hb with hb | hb
      · have := ih.2 b hb; omega
      · rw [List.mem_singleton.mp hb]; omega
  | @star n x p ss rs _ hp ih =>
    refine ⟨fun r hr => ?_, fun b hb => ?_⟩
    · rw [Str.length_append]
      rcases List.mem_append.mp hr with hr | hr
      · have := ih.1 r hr; omega
      · rw [List.mem_singleton.mp hr]; dsimp only; omega
    · rw [Str.length_append]
      rcases List.mem_append.mp hb with hb | hb
      · have := ih.2 b hb; omega
      · rw [List.mem_singleton.mp hb]; omega
theorem passB_eq (b e : Nat) (r : Nat × Nat) : passB b e r = true ↔ b ≤ r.1 ∧ r.1 < e ∧ e < r.2 := by
  simp only [passB, Bool.and_eq_true, decide_eq_true_eq, and_assoc]
theorem cutOf_nil {b e : Nat} {rs : List (Nat × Nat)} (h : ∀ r ∈ rs, ¬ (b ≤ r.1 ∧ r.1 < e ∧ e < r.2)) : cutOf b e rs = [] := by
  unfold cutOf cutWith
  rw [List.filter_eq_nil_iff.mpr fun r hr hp => h r hr ((passB_eq b e r).mp hp)]
  rfl
theorem cutOf_snoc_out {b e : Nat} {rs : List (Nat × Nat)} {r : Nat × Nat} (h : ¬ (b ≤ r.1 ∧ r.1 < e ∧ e < r.2)) : cutOf b e (rs ++ [r]) = cutOf b e rs := by
  unfold cutOf cutWith
  have : passB b e r = false := by
    rw [Bool.eq_false_iff]
    exact fun hp => h ((passB_eq b e r).mp hp)
  rw [List.filter_append, List.filter_cons, this]
  simp
theorem cutOf_snoc_in {b e : Nat} {rs : List (Nat × Nat)} {r : Nat × Nat} (h0 : cutOf b e rs = []) (h : b ≤ r.1 ∧ r.1 < e ∧ e < r.2) : cutOf b e (rs ++ [r]) = [r.1] := by
  unfold cutOf cutWith at *
  have := (passB_eq b e r).mpr h
  rw [List.filter_append, List.map_append, h0, List.filter_cons, this]
  simp
/-- where skip ends if nothing stands in its way up to e -/
def midOf (b e : Nat) (rs : List (Nat × Nat)) : Nat := match cutOf b e rs with
  | [] => max b e
  | c :: _ => c
theorem mid_nil {b e : Nat} {rs : List (Nat × Nat)} (h : cutOf b e rs = []) : midOf b e rs = max b e ∧ isCutOf b e rs = false := by
  unfold midOf isCutOf
  rw [h]
  exact ⟨rfl, rfl⟩
theorem mid_one {b e c : Nat} {rs : List (Nat × Nat)} (h : cutOf b e rs = [c]) : midOf b e rs = c ∧ isCutOf b e rs = true := by
  unfold midOf isCutOf
  rw [h]
  exact ⟨rfl, rfl⟩
theorem done_mid {l : List Nat} {b e : Nat} {rs : List (Nat × Nat)} (hb : e ≤ b) (hr : ∀ r ∈ rs, r.1 ≤ b) : Skips l e b (midOf b e rs) (isCutOf b e rs) := by
  have := mid_nil (b := b) (e := e) (rs := rs) (cutOf_nil fun r hr' h => by have := hr r hr'; omega)
  rw [this.1, this.2, Nat.max_eq_left hb]
  exact .done hb
theorem Built.skips {n : Nat} {x : Str} {ss : List Nat} {rs : List (Nat × Nat)} (h : Built n x ss rs) : ∀ (l z : List Nat) (e : Nat), l = cl x ++ z → ∀ b ∈ ss ++ [x.length],
    (e ≤ x.length → Skips l e b (midOf b e rs) (isCutOf b e rs)) ∧ (x.length ≤ e → ∀ R F, Skips l e x.length R F → Skips l e b R F) := by
  induction h with
  | nil =>
    intro l z e hl b hb
    have hb : b = (Str.ofString "").length := by simpa using hb
    subst hb
    exact ⟨fun he => done_mid he (fun _ h => (nomatch h)), fun _ R F h => h⟩
  | @plain n x p ss rs hB hp ih =>
    intro l z e hl b hb
    obtain ⟨pa, en⟩ := plain_piece hp
    obtain ⟨ends1, ends2⟩ := hB.ends
    have hl2 : l = cl x ++ (cl p ++ z) := by rw [hl, cl_append, List.append_assoc]
    have lx := cl_len x
    have lp := cl_len p
    have hlen : (x ++ p).length = x.length + p.length := Str.length_append x p
    rw [hlen]
    have step : x.length + p.length ≤ e → ∀ R F, Skips l e (x.length + p.length) R F → Skips l e x.length R F := fun he R F hs => by
      have := pa l (cl x) z e R F hl2 (by rw [lx, lp]; exact he) (by rw [lx, lp]; exact hs)
      rwa [lx] at this
    rw [hlen] at hb
    rcases List.mem_append.mp hb with hb | hb
    · obtain ⟨i1, i2⟩ := ih l (cl p ++ z) e hl2 b hb
      refine ⟨fun he => ?_, fun he R F hs => i2 (by omega) R F (step he R F hs)⟩
      by_cases hx : e ≤ x.length
      · exact i1 hx
      · have bx : b ≤ x.length := by
          rcases List.mem_append.mp hb with h | h
          · exact ends2 b h
          · rw [List.mem_singleton.mp h]; exact Nat.le_refl _
        have hn := mid_nil (b := b) (e := e) (rs := rs) (cutOf_nil fun r hr h => by have := (ends1 r hr).1; omega)
        rw [hn.1, hn.2, Nat.max_eq_right (by omega)]
        refine i2 (by omega) _ _ ?_
        have := en l (cl x) z e hl2 (by rw [lx]; omega) (by rw [lx, lp]; exact he)
        rwa [lx] at this
    · have hb := List.mem_singleton.mp hb
      subst hb
      exact ⟨fun he => done_mid he fun r hr => by have := ends1 r hr; omega, fun _ R F h => h⟩
  | @star n x p ss rs hB hp ih =>
    intro l z e hl b hb
    obtain ⟨pa, ci⟩ := star_piece hp
    obtain ⟨ends1, ends2⟩ := hB.ends
    have hl2 : l = cl x ++ (cl p ++ z) := by rw [hl, cl_append, List.append_assoc]
    have lx := cl_len x
    have lp := cl_len p
    have hlen : (x ++ p).length = x.length + p.length := Str.length_append x p
    rw [hlen]
    have step : x.length + p.length ≤ e → ∀ R F, Skips l e (x.length + p.length) R F → Skips l e x.length R F := fun he R F hs => by
      have := pa l (cl x) z e R F hl2 (by rw [lx, lp]; exact he) (by rw [lx, lp]; exact hs)
      rwa [lx] at this
    rw [hlen] at hb
    rcases List.mem_append.mp hb with hb | hb
    · obtain ⟨i1, i2⟩ := ih l (cl p ++ z) e hl2 b hb
      have bx : b ≤ x.length := by
        rcases List.mem_append.mp hb with h | h
        · exact ends2 b h
        · rw [List.mem_singleton.mp h]; exact Nat.le_refl _
      refine ⟨fun he => ?_, fun he R F hs => i2 (by omega) R F (step he R F hs)⟩
      by_cases hx : e ≤ x.length
      · have := i1 hx
        unfold midOf isCutOf at *
        rw [cutOf_snoc_out (by dsimp only; omega)]
        exact this
      · have h0 : cutOf b e rs = [] := cutOf_nil fun r hr h => by have := (ends1 r hr).1; omega
        by_cases hlt : e < x.length + p.length
        · have hn := mid_one (cutOf_snoc_in (rs := rs) (r := (x.length, x.length + p.length)) h0 ⟨bx, by dsimp only; omega, hlt⟩)
          rw [hn.1, hn.2]
          refine i2 (by omega) _ _ ?_
          have := ci l (cl x) z e hl2 (by rw [lx]; omega) (by rw [lx, lp]; exact hlt)
          rwa [lx] at this
        · have hn := mid_nil (b := b) (e := e) (rs := rs ++ [(x.length, x.length + p.length)]) (by rw [cutOf_snoc_out (by dsimp only; omega)]; exact h0)
          rw [hn.1, hn.2, Nat.max_eq_right (by omega)]
          exact i2 (by omega) _ _ (step (by omega) _ _ (by rw [show x.length + p.length = e by omega]; exact .done (Nat.le_refl _)))
    · have hb := List.mem_singleton.mp hb
      subst hb
      refine ⟨fun he => done_mid he fun r hr => ?_, fun _ R F h => h⟩
      rcases List.mem_append.mp hr with hr | hr
      · have := ends1 r hr; omega
      · rw [List.mem_singleton.mp hr]; dsimp only; omega
theorem Built.start_le {n : Nat} {x : Str} {ss : List Nat} {rs : List (Nat × Nat)} (h : Built n x ss rs) : ∀ b ∈ ss ++ [x.length], b ≤ x.length := fun b hb => by
  rcases List.mem_append.mp hb with hb | hb
  · exact h.ends.2 b hb
  · rw [List.mem_singleton.mp hb]; exact Nat.le_refl _
theorem due_nil {b e stop : Nat} {rs : List (Nat × Nat)} (h : cutOf b e rs = []) : dueOf b e stop rs = max b (min stop e) ∧ isCutOf b e rs = false := by
  unfold dueOf isCutOf
  rw [h]
  exact ⟨rfl, rfl⟩
theorem due_one {b e stop c : Nat} {rs : List (Nat × Nat)} (h : cutOf b e rs = [c]) : dueOf b e stop rs = c ∧ isCutOf b e rs = true := by
  unfold dueOf isCutOf
  rw [h]
  exact ⟨rfl, rfl⟩
theorem due_mid {b e stop : Nat} {rs : List (Nat × Nat)} (h : e ≤ stop) : dueOf b e stop rs = midOf b e rs := by
  unfold dueOf midOf
  rw [Nat.min_eq_right h]
  all_goals (cases cutOf b e rs <;> rfl)
def firstOk : List Nat → Bool
  | [] => false
  | [c] => !(blankCps.contains c) && c != 37
  | c :: d :: _ => !(blankCps.contains c) && c != 37 && !(c == 47 && d == 42)
theorem signs_first : ∀ g ∈ signs, ∀ t ∈ menu4, firstOk (cl g ++ cl t) = true := by decide +kernel
theorem first_skips {l pre q : List Nat} {e : Nat} (hl : l = pre ++ q) (hq : firstOk q = true) (he : pre.length < e) : Skips l e pre.length pre.length false := by
  have g : ∀ k, l[pre.length + k]? = q[k]? := fun k => by rw [hl]; exact at_r _ _ _
  have h0 := g 0
  have h1 := g 1
  match q, hq with
  | [c], hq =>
    simp only [firstOk, Bool.and_eq_true, Bool.not_eq_true', bne_iff_ne] at hq
    simp only [Nat.add_zero, List.getElem?_cons_zero] at h0
    refine .sign he h0 (fun hm => ?_) hq.2 fun hh => ?_
    · rw [List.contains_iff_mem.mpr hm] at hq; exact absurd hq.1 (by decide)
    · rw [h1] at hh; simp at hh
  | c :: d :: r, hq =>
    simp only [firstOk, Bool.and_eq_true, Bool.not_eq_true', bne_iff_ne] at hq
    simp only [Nat.add_zero, List.getElem?_cons_zero] at h0
    simp only [List.getElem?_cons_succ, List.getElem?_cons_zero] at h1
    refine .sign he h0 (fun hm => ?_) hq.1.2 fun hh => ?_
    · rw [List.contains_iff_mem.mpr hm] at hq; exact absurd hq.1.1 (by decide)
    · rw [h0, h1] at hh
      have a := Option.some.inj hh.1
      have b := Option.some.inj hh.2
      subst a b
      exact absurd hq.2 (by decide)
theorem tail_skips {x text : Str} {rs rs' : List (Nat × Nat)} {stop e b : Nat} (hT : Tail x rs text stop rs') (he : e ≤ text.length) (hb : b ≤ x.length) (hx : x.length < e) (h0 : cutOf b e rs = []) :
    Skips (cl text) e x.length (dueOf b e stop rs') (isCutOf b e rs') := by
  have lx := cl_len x
  cases hT with
  | @sign g t n hg ht hn =>
    have h := due_nil (stop := stop) h0
    rw [h.1, h.2, hn, Nat.min_eq_left (by omega), Nat.max_eq_right hb]
    have := first_skips (l := cl (x ++ g ++ t)) (pre := cl x) (q := cl g ++ cl t) (e := e) (by rw [cl_append, cl_append, List.append_assoc]) (signs_first g hg t ht) (by rw [lx]; exact hx)
    rwa [lx] at this
  | bare hn => omega
  | @lined is n h1 h2 hn =>
    have h := due_nil (stop := stop) h0
    rw [h.1, h.2, hn, Nat.min_eq_right he, Nat.max_eq_right (by omega)]
    have e1 : cl (Str.ofString "%") = [37] := by decide +kernel
    have hl : cl (x ++ (Str.ofString "%" ++ Txt.join (Str.ofString "") is)) = cl x ++ ((37 :: (is.map cl).flatten) ++ []) := by
      rw [cl_append, cl_append, cl_join, e1, List.append_nil]
      rfl
    have hlen := cl_len (x ++ (Str.ofString "%" ++ Txt.join (Str.ofString "") is))
    rw [hl, List.length_append, lx] at hlen
    simp only [List.append_nil, List.length_cons] at hlen
    have := line_part (l := cl (x ++ (Str.ofString "%" ++ Txt.join (Str.ofString "") is))) (e := e) (lined_flat h2) hl (by rw [lx]; exact hx) (by rw [lx]; omega)
    rwa [lx] at this
  | @starred is n h1 h2 hn =>
    have h := due_one (stop := stop) (cutOf_snoc_in (rs := rs) (r := (x.length, (x ++ (Str.ofString "/*" ++ Txt.join (Str.ofString "") is)).length + 1)) h0 ⟨hb, hx, by dsimp only; omega⟩)
    rw [h.1, h.2]
    have e1 : cl (Str.ofString "/*") = [47, 42] := by decide +kernel
    have hl : cl (x ++ (Str.ofString "/*" ++ Txt.join (Str.ofString "") is)) = cl x ++ (47 :: 42 :: ((is.map cl).flatten ++ [])) := by
      rw [cl_append, cl_append, cl_join, e1, List.append_nil]
      rfl
    have hg := good_flat h2
    have := star_cut (l := cl (x ++ (Str.ofString "/*" ++ Txt.join (Str.ofString "") is))) (e := e) (j := (is.map cl).flatten) (z := []) (fun i hi a1 a2 => by
      rw [List.append_nil] at a1 a2
      obtain ⟨c, hc, hn⟩ := hg i a1
      rw [hc] at a2
      exact hn (Option.some.inj a2)) hl (by rw [lx]; exact hx)
    rwa [lx] at this
theorem tail_text {x text : Str} {rs rs' : List (Nat × Nat)} {stop : Nat} (hT : Tail x rs text stop rs') : (∃ z, cl text = cl x ++ z) ∧ x.length ≤ stop ∧ stop ≤ text.length ∧ (rs' = rs ∨ rs' = rs ++ [(x.length, text.length + 1)]) := by
  cases hT with
  | @sign g t n hg ht hn => exact ⟨⟨cl g ++ cl t, by rw [cl_append, cl_append, List.append_assoc]⟩, by omega, by rw [Str.length_append, Str.length_append]; omega, .inl rfl⟩
  | bare hn => exact ⟨⟨[], by rw [List.append_nil]⟩, by omega, by omega, .inl rfl⟩
  | @lined is n h1 h2 hn => exact ⟨⟨_, cl_append _ _⟩, by rw [hn, Str.length_append]; omega, by omega, .inl rfl⟩
  | @starred is n h1 h2 hn => exact ⟨⟨_, cl_append _ _⟩, by rw [hn, Str.length_append]; omega, by omega, .inr rfl⟩
theorem plain_law {n : Nat} {x text : Str} {ss : List Nat} {rs rs' : List (Nat × Nat)} {stop e : Nat} (hB : Built n x ss rs) (hT : Tail x rs text stop rs') (he : e ≤ text.length) :
    ∀ b ∈ ss ++ [x.length], Skips text.cps.toList e b (dueOf b e stop rs') (isCutOf b e rs') := by
  intro b hb
  obtain ⟨⟨z, hz⟩, hs1, hs2, hrs⟩ := tail_text hT
  obtain ⟨i1, i2⟩ := hB.skips (cl text) z e hz b hb
  have hbx := hB.start_le b hb
  have ends := hB.ends.1
  by_cases hx : e ≤ x.length
  · have h := i1 hx
    rw [due_mid (by omega)]
    rcases hrs with rfl | rfl
    · exact h
    · unfold midOf isCutOf at *
      rw [cutOf_snoc_out (by dsimp only; omega)]
      exact h
  · exact i2 (by omega) _ _ (tail_skips hT he hbx (by omega) (cutOf_nil fun r hr h => by have := (ends r hr).1; omega))
theorem ok_of {x : Str} (h : ∀ c ∈ cl x, c < 0x110000) : PyData.strOk x = true := by
  show x.cps.all (· < 0x110000) = true
  rw [← Array.all_toList, List.all_eq_true]
  intro c hc
  exact decide_eq_true (h c hc)
theorem small_flat {tab : List Str} (k : ∀ i ∈ tab, ∀ c ∈ cl i, c < 0x110000) {is : List Str} (h : ∀ i ∈ is, i ∈ tab) : ∀ c ∈ (is.map cl).flatten, c < 0x110000 := by
  intro c hc
  rw [List.mem_flatten] at hc
  obtain ⟨l, hl, hc⟩ := hc
  obtain ⟨i, hi, rfl⟩ := List.mem_map.mp hl
  exact k i (h i hi) c hc
theorem small_append {x y : Str} (hx : ∀ c ∈ cl x, c < 0x110000) (hy : ∀ c ∈ cl y, c < 0x110000) : ∀ c ∈ cl (x ++ y), c < 0x110000 := by
  intro c hc
  rw [cl_append] at hc
  exact (List.mem_append.mp hc).elim (hx c) (hy c)
theorem small_lined {is : List Str} (h : ∀ i ∈ is, i ∈ lined) : ∀ c ∈ cl (Txt.join (Str.ofString "") is), c < 0x110000 := by
  rw [cl_join]
  exact small_flat (tab := lined) (by decide +kernel) h
theorem small_starred {is : List Str} (h : ∀ i ∈ is, i ∈ starred) : ∀ c ∈ cl (Txt.join (Str.ofString "") is), c < 0x110000 := by
  rw [cl_join]
  exact small_flat (tab := starred) (by decide +kernel) h
theorem small_plain {p : Str} (h : Plain p) : ∀ c ∈ cl p, c < 0x110000 := by
  rcases h with h | ⟨is, h1, h2, rfl⟩
  · have k : ∀ x ∈ blanks, ∀ c ∈ cl x, c < 0x110000 := by decide +kernel
    exact k p h
  · exact small_append (small_append (by decide +kernel) (small_lined h2)) (by decide +kernel)
theorem small_star {p : Str} (h : Star p) : ∀ c ∈ cl p, c < 0x110000 := by
  obtain ⟨is, h1, h2, rfl | rfl⟩ := h
  · exact small_append (small_append (by decide +kernel) (small_starred h2)) (by decide +kernel)
  · exact small_append (small_append (by decide +kernel) (small_starred h2)) (by decide +kernel)
theorem Built.small {n : Nat} {x : Str} {ss : List Nat} {rs : List (Nat × Nat)} (h : Built n x ss rs) : ∀ c ∈ cl x, c < 0x110000 := by
  induction h with
  | nil => decide +kernel
  | plain _ hp ih => exact small_append ih (small_plain hp)
  | star _ hp ih => exact small_append ih (small_star hp)
theorem plain_ok {n : Nat} {x text : Str} {ss : List Nat} {rs rs' : List (Nat × Nat)} {stop : Nat} (hB : Built n x ss rs) (hT : Tail x rs text stop rs') : PyData.strOk text = true := by
  refine ok_of ?_
  cases hT with
  | @sign g t n hg ht hn =>
    have k1 : ∀ x ∈ signs, ∀ c ∈ cl x, c < 0x110000 := by decide +kernel
    have k2 : ∀ x ∈ menu4, ∀ c ∈ cl x, c < 0x110000 := by decide +kernel
    exact small_append (small_append hB.small (k1 g hg)) (k2 t ht)
  | bare hn => exact hB.small
  | @lined is n h1 h2 hn => exact small_append hB.small (small_append (by decide +kernel) (small_lined h2))
  | @starred is n h1 h2 hn => exact small_append hB.small (small_append (by decide +kernel) (small_starred h2))
theorem plain_starts {n : Nat} {x text : Str} {ss : List Nat} {rs rs' : List (Nat × Nat)} {stop : Nat} (hB : Built n x ss rs) (hT : Tail x rs text stop rs') : ∀ b ∈ ss ++ [x.length], b ≤ text.length := by
  intro b hb
  have := hB.start_le b hb
  obtain ⟨_, h1, h2, _⟩ := tail_text hT
  omega
theorem plain_stop {x text : Str} {rs rs' : List (Nat × Nat)} {stop : Nat} (hT : Tail x rs text stop rs') : stop ≤ text.length := (tail_text hT).2.2.1
theorem tail_length {n : Nat} {x text : Str} {ss : List Nat} {rs rs' : List (Nat × Nat)} {stop : Nat} (hn : n ≤ 5) (hB : Built n x ss rs) (hT : Tail x rs text stop rs') : text.length ≤ 1000 := by
  have hx := hB.length.1
  cases hT with
  | @sign g t n hg ht hn =>
    have k1 : ∀ x ∈ signs, x.length ≤ 6 := by decide +kernel
    have k2 : ∀ x ∈ menu4, x.length ≤ 6 := by decide +kernel
    have := k1 g hg
    have := k2 t ht
    rw [Str.length_append, Str.length_append]
    omega
  | bare hn => omega
  | @lined is n h1 h2 hn =>
    have := join_short lined_short h1 h2
    have e1 : (Str.ofString "%").length = 1 := by decide +kernel
    rw [Str.length_append, Str.length_append]
    omega
  | @starred is n h1 h2 hn =>
    have := join_short starred_short h1 h2
    have e1 : (Str.ofString "/*").length = 2 := by decide +kernel
    rw [Str.length_append, Str.length_append]
    omega
end Mine
end
/-! V3 -/
section
open PySem PySem.W PyProof.Rows PySem.Calls
namespace Mine
theorem off_V3 : True := by
  w_top off
  trivial
local macro_rules | `(tactic| walk_at "pad 0") => `(tactic| skip)
local macro_rules | `(tactic| walk_at "pad 1") => `(tactic| skip)
local macro_rules | `(tactic| walk_at "pad 2") => `(tactic| skip)
local macro_rules | `(tactic| walk_at "pad 3") => `(tactic| skip)
local macro_rules | `(tactic| walk_at "pad 4") => `(tactic| skip)
local macro_rules | `(tactic| walk_at "pad 5") => `(tactic| skip)
local macro_rules | `(tactic| walk_at "pad 6") => `(tactic| skip)
local macro_rules | `(tactic| walk_at "pad 7") => `(tactic| skip)
theorem item_tab {prog : Program} {w : World} {A : Around} {E : Value → Shared → Prop} {s : Shared} {value slice : PySem.Expr} {l : Addr} {vs : List Value} {k : Int} {u : Tok} {Q : Value → Shared → Prop} {tab : List Str}
    (ht : IsTup s.heap l vs.toArray) (hv : ∀ v ∈ vs, ∃ x t, v = Value.str x t ∧ x ∈ tab) (h0 : 0 ≤ k) (h1 : k < vs.length) (hfit : vs.length ≤ 100) (h : ∀ x t, x ∈ tab → Q (.str x t) s)
    (hs : subscripted slice false (.ref l) (.int k u) = operate [.ref l, .int k u] (getItem (.ref l) (.int k u)) := by with_unfolding_all rfl) :
    wpAny (model prog w) A (subscriptTail value slice (.ref l) (.int k u)) Q E s := by
  have hlt : k.toNat < vs.length := by omega
  obtain ⟨x, t, e, hx⟩ := hv (vs[k.toNat]) (List.getElem_mem hlt)
  refine item_tupleT ht (by omega) (by omega) (StrLaws.seqIndex_nonneg h0 h1) ?_ (h x t hx) hs
  rw [List.getElem?_eq_getElem hlt, e]
theorem signs_all {t1 t2 t3 t4 t5 t6 t7 t8 : Tok} : ∀ v ∈ [Value.str "x" t1, .str "/" t2, .str "*/" t3, .str "\\" t4, .str "\"" t5, .str "(" t6, .str "7" t7, .str "/\\" t8], ∃ x t, v = Value.str x t ∧ x ∈ signs := by
  simp [signs]
theorem menu4_all {t1 t2 t3 t4 : Tok} : ∀ v ∈ [Value.str (Str.ofString " ") t1, .str (Str.ofString "%b\n") t2, .str (Str.ofString "/**/ x") t3, .str (Str.ofString "") t4], ∃ x t, v = Value.str x t ∧ x ∈ menu4 := by
  simp [menu4]
theorem signs_short : ∀ x ∈ signs, x.length ≤ 6 := by decide +kernel
theorem menu4_short : ∀ x ∈ menu4, x.length ≤ 6 := by decide +kernel
theorem not_long {a b : Array Value} (ha : a.size ≤ 100) (hb : b.size ≤ 10) : ¬(!a.isEmpty && Builtin.List.listTooLong (a.size + b.size)) = true := by
  have : Builtin.List.listTooLong (a.size + b.size) = false := by
    unfold Builtin.List.listTooLong
    rw [sizeLine_eq]
    simp
    omega
  rw [this, Bool.and_false]
  decide
theorem extend_one {prog : Program} {w : World} {A : Around} {E : Value → Shared → Prop} {s : Shared} {h₀ : Heap} {L D b : Addr} {m : Str → Option Value} {news news' : List (Addr × Obj)} {its : Array Value} {v : Value} {n n2 : Nat} {Q : Value → Shared → Prop} (F : Fr h₀ L s.heap m) (N : News h₀ L s.heap news)
    (hb : (b, listOf #[v] n2) ∈ news) (hz : its.size ≤ 100) (U : Upd D (listOf its n) (listOf (its.push v) (n + 1)) news news')
    (h : ∀ h', Fr h₀ L h' m → News h₀ L h' news' → Q .none { s with heap := h' }) : wpAny (model prog w) A (call (.builtin "list.extend") [.ref D, .ref b]) Q E s := by
  have e : (its.toList ++ [v]).toArray = its.push v := by
    apply Array.toList_inj.mp
    simp
  refine kl_extend (its := its) (its2 := #[v]) (l := its.toList ++ [v]) F N hb rfl (Nat.succ_ne_zero 0) (e ▸ U) (not_long hz (by show 1 ≤ 10; decide)) ?_ ?_ h
  · rw [sizeLine_eq, Array.length_toList]; omega
  · rw [sizeLine_eq]; show its.size + 1 ≤ _; omega
theorem extend_none {prog : Program} {w : World} {A : Around} {E : Value → Shared → Prop} {s : Shared} {h₀ : Heap} {L D b : Addr} {m : Str → Option Value} {news news' : List (Addr × Obj)} {its : Array Value} {n n2 : Nat} {Q : Value → Shared → Prop} (F : Fr h₀ L s.heap m) (N : News h₀ L s.heap news)
    (hb : (b, listOf #[] n2) ∈ news) (hz : its.size ≤ 100) (U : Upd D (listOf its n) (listOf its n) news news')
    (h : ∀ h', Fr h₀ L h' m → News h₀ L h' news' → Q .none { s with heap := h' }) : wpAny (model prog w) A (call (.builtin "list.extend") [.ref D, .ref b]) Q E s := by
  refine kxn_extend (its := its) (its2 := #[]) F N hb rfl U (not_long hz (Nat.zero_le _)) ?_ ?_ h
  · rw [sizeLine_eq, Array.length_toList]; omega
  · rw [sizeLine_eq]; show its.size + 0 ≤ _; omega
local macro_rules | `(tactic| walk_at "call builtin:list.extend") => `(tactic| (k_here; k_dflt (first | (refine' extend_one ?F ?N ?b ?z ?U ?_; (case F => k_asm); (case N => k_asm); (case b => k_mem); (case U => k_upd); (case z => omega)) | (refine' extend_none ?F ?N ?b ?z ?U ?_; (case F => k_asm); (case N => k_asm); (case b => k_mem); (case U => k_upd); (case z => omega))); intro h' F' N'; (try dsimp only at N')))
local macro_rules | `(tactic| k_all) => `(tactic| assumption)
local macro_rules | `(tactic| k_mem) => `(tactic| assumption)
local macro_rules | `(tactic| walk_at "call ref") => `(tactic| (k_here; (with_reducible show wpAny _ _ (call (Value.ref 188) _) _ _ _); with_unfolding_all (refine' dip_use ?B ?F ?X ?N ?T ?k ?dp ?un ?U ?C ?ne ?I ?p0 ?p1 ?m0 ?m1 ?l ?D ?_; (case B => k_asm); (case F => k_asm); (case X => k_asm); (case N => k_asm); (case T => k_asm); (case k => first | exact rfl | assumption); (case dp => ktr_room); (case un => ktr_units); (case U => k_updF); (case D => first | k_asm | exact ⟨_, _, by assumption⟩); (case C => first | exact Or.inl (by assumption) | exact Or.inr ⟨_, by k_mem, rfl, _, rfl⟩); (case I => k_asm); (case ne => first | assumption | k_ne); (case p0 => omega); (case p1 => omega); (case m0 => omega); (case m1 => omega); (case l => k_asm)); intro r9 t9 h' tk' o' hr0 hr1 hD' F' N'; (try dsimp only at N'); (have hU := hD'); (obtain ⟨_, _, hU⟩ := hU)))
local macro_rules | `(tactic| walk_at "subscriptTail Name Call ref int") => `(tactic| (k_here; k_dflt (first
  | (refine' item_tab ?t ?v ?a ?b ?c ?_; (case t => exact tupK (by k_in) (by k_is)); (case v => exact signs_all); (case a => omega); (case b => (simp only [List.length_cons, List.length_nil]; omega)); (case c => exact Nat.le_of_ble_eq_true rfl); intro x9 t9 hx9; have hy9 := signs_short _ hx9)
  | (refine' item_tab ?t ?v ?a ?b ?c ?_; (case t => exact News.isTup (by k_asm) (by k_mem)); (case v => exact menu4_all); (case a => omega); (case b => (simp only [List.length_cons, List.length_nil]; omega)); (case c => exact Nat.le_of_ble_eq_true rfl); intro x9 t9 hx9; have hy9 := menu4_short _ hx9))))
local macro_rules | `(tactic| walk_at "call ref") => `(tactic| (k_here; (with_reducible show wpAny _ _ (call (Value.ref 193) [_, Value.ref 179]) _ _ _); k_dflt (refine' some_use ?B ?F ?X ?N ?T ?k ?dp ?un ?U ?D ?C ?ne ?I ?p0 ?p1 ?l ?t ?v ?v8 ?x2 ?_; (case B => k_asm); (case F => k_asm); (case X => k_asm); (case N => k_asm); (case T => k_asm); (case k => first | exact rfl | assumption); (case dp => ktr_room); (case un => ktr_units); (case U => k_updF); (case D => first | k_asm | exact ⟨_, _, by assumption⟩); (case C => first | exact Or.inl (by assumption) | exact Or.inr ⟨_, by k_mem, rfl, _, rfl⟩); (case I => k_asm); (case ne => k_ne); (case p0 => omega); (case p1 => omega); (case l => k_asm); (case t => exact tupK (by k_in) (by k_is)); (case v => exact lined_all); (case v8 => rfl); (case x2 => exact lined_short)); intro is9 t9 h' tk' o' place9 hi9 ht9 hD' hp9 hq9 F' N'; (have hl9 := join_short lined_short hi9 ht9); (try dsimp only at N'); (have hU := hD'); (obtain ⟨_, _, hU⟩ := hU)))
local macro_rules | `(tactic| walk_at "call ref") => `(tactic| (k_here; (with_reducible show wpAny _ _ (call (Value.ref 193) [_, Value.ref 180]) _ _ _); k_dflt (refine' some_use ?B ?F ?X ?N ?T ?k ?dp ?un ?U ?D ?C ?ne ?I ?p0 ?p1 ?l ?t ?v ?v8 ?x2 ?_; (case B => k_asm); (case F => k_asm); (case X => k_asm); (case N => k_asm); (case T => k_asm); (case k => first | exact rfl | assumption); (case dp => ktr_room); (case un => ktr_units); (case U => k_updF); (case D => first | k_asm | exact ⟨_, _, by assumption⟩); (case C => first | exact Or.inl (by assumption) | exact Or.inr ⟨_, by k_mem, rfl, _, rfl⟩); (case I => k_asm); (case ne => k_ne); (case p0 => omega); (case p1 => omega); (case l => k_asm); (case t => exact tupK (by k_in) (by k_is)); (case v => exact starred_all); (case v8 => rfl); (case x2 => exact starred_short)); intro is9 t9 h' tk' o' place9 hi9 ht9 hD' hp9 hq9 F' N'; (have hl9 := join_short starred_short hi9 ht9); (try dsimp only at N'); (have hU := hD'); (obtain ⟨_, _, hU⟩ := hU)))
theorem ite_hit {α : Type} {P : Prop} [Decidable P] {a b c : α} (h : P) (e : a = c) : (if P then a else b) = c := by rw [if_pos h]; exact e
theorem ite_miss {α : Type} {P : Prop} [Decidable P] {a b c : α} (h : ¬ P) (e : b = c) : (if P then a else b) = c := by rw [if_neg h]; exact e
theorem law_beginI {w : World} {mean : ExcName → Option Value} {mg mb : Str → Option Value} {L fa : Addr} {cd : Value} {h₀ : Heap} {m : Str → Option Value} {s : Shared} {Q : Flow → Shared → Prop}
  {d lC lS lR : Addr} {o oE oB : Obj} {tl : List (Addr × Obj)} {vS vR : List Value} {nS nR stop : Nat} {e : Int} {place : Int} {text text0 : Str} {tt ts te : Tok} {v₀ : Option Value} {n : Nat} {x : Str} {ss : List Nat} {rs₀ rs : List (Nat × Nat)}
  (B : Below callerA h₀ [] h₀) (F : Fr h₀ L s.heap m) (hm1 : m (Str.ofString "feed") = some (.ref d)) (hm2 : m (Str.ofString "text") = some (.str text tt)) (hm3 : m (Str.ofString "stop") = some (.int stop ts))
  (X : (hd.heap_1 w.params).In h₀) (T : Top viewQ (looseW viewQ [Str.ofString "ESCAPES"]) mean mg mb h₀)
  (N : News h₀ L s.heap ((L + 1 + 1, oB) :: (d, o) :: (lS, listOf vS.toArray nS) :: (lR, listOf vR.toArray nR) :: (L + 1, oE) :: tl))
  (hO2 : @LT.lt Nat _ (L + 1 + 1) d) (hO3 : @LT.lt Nat _ d lS) (hO4 : @LT.lt Nat _ lS lR)
  (hoff5 : ∀ p ∈ tl, p.1 ≠ L + 1 + 1) (hoE : oE.data = .cell (some (.int e te))) (hoB : oB.data = .cell v₀)
  (hD : FeedIs PySem.Challenge.pw_qd0009_01 w lC lS lR place text0 o)
  (hz1 : vS.length ≤ 100) (hz2 : vR.length ≤ 100) (hsS : IntsOf vS (ss ++ [x.length])) (hsR : PairsIn tl vR rs) (hn : n ≤ 5) (hBu : Built n x ss rs₀) (hTa : Tail x rs₀ text stop rs) (he0 : 0 ≤ e) (he : e < text.length + 1)
  (hQ : ∀ m' h' tk, Fr h₀ L h' m' → Q .next { s with heap := h', toks := tk }) :
  wpAny (model PySem.Challenge.pw_qd0009_01 w) (callerA.deeper (lawEnv L fa cd)) (exec lawForB (lawEnv L fa cd)) Q (fun _ _ => False) s := by
  obtain ⟨k, rfl⟩ := Int.eq_ofNat_of_zero_le he0
  exact law_begin B F hm1 hm2 hm3 X T N hO2 hO3 hO4 hoff5 hoE hoB hD hz1 hz2 hsS hsR (tail_length hn hBu hTa) (by omega) (plain_stop hTa) (plain_ok hBu hTa) (plain_starts hBu hTa) (plain_law hBu hTa (by omega)) hQ
set_option maxRecDepth 100000 in
set_option maxHeartbeats 4000000 in
theorem law_mid {w : World} {mean : ExcName → Option Value} {mg mb : Str → Option Value} {L fa : Addr} {cd : Value} {h₀ : Heap} {m : Str → Option Value} {s : Shared} {Q : Flow → Shared → Prop}
  {d lC lS lR : Addr} {o oE oB : Obj} {tl : List (Addr × Obj)} {ys vS vR : List Value} {nS nR n : Nat} {cells : List Int} {place : Int} {text : Str} {ss : List Nat} {rs : List (Nat × Nat)}
  (B : Below callerA h₀ [] h₀) (F : Fr h₀ L s.heap (fun y => if y = Str.ofString "feed" then some (.ref d) else m y)) (X : (hd.heap_1 w.params).In h₀)
  (T : Top viewQ (looseW viewQ [Str.ofString "ESCAPES"]) mean mg mb h₀)
  (N : News h₀ L s.heap ((d, o) :: (lS, listOf vS.toArray nS) :: (lR, listOf vR.toArray nR) :: (L + 1, oE) :: (L + 1 + 1, oB) :: tl))
  (hO2 : @LT.lt Nat _ (L + 1 + 1) d) (hO3 : @LT.lt Nat _ d lS) (hO4 : @LT.lt Nat _ lS lR) (hO5 : @Ne Nat lC d)
  (hoff1 : ∀ p ∈ tl, p.1 ≠ d) (hoff2 : ∀ p ∈ tl, p.1 ≠ lS) (hoff3 : ∀ p ∈ tl, p.1 ≠ lR) (hoff4 : ∀ p ∈ tl, p.1 ≠ L + 1) (hoff5 : ∀ p ∈ tl, p.1 ≠ L + 1 + 1)
  (hoE : oE.data = .cell none) (hoB : oB.data = .cell none)
  (hC : (lC, LCg.lst ys) ∈ tl) (hI : IntsAre ys cells) (hl : cells.length ≤ 60) (hD : FeedIs PySem.Challenge.pw_qd0009_01 w lC lS lR place text o) (hp0 : 0 ≤ place) (hp1 : place ≤ 60) (htx : text.length ≤ 100)
  (hz1 : vS.toArray.size ≤ 99) (hz2 : vR.toArray.size ≤ 99) (hn : n ≤ 5) (hB : Built n text ss rs) (hsS : IntsOf vS ss) (hsR : PairsIn tl vR rs)
  (hQ : ∀ m' h' tk, Fr h₀ L h' m' → Q (.ret (.bool true)) { s with heap := h', toks := tk }) :
  wpAny (model PySem.Challenge.pw_qd0009_01 w) (callerA.deeper (lawEnv L fa cd)) (execs lawRest.tail (lawEnv L fa cd)) Q (fun _ _ => False) s := by
  have _k : hd.heap_1 = hd.heap_1 ∧ PySem.Challenge.rw_qd0009_01 = PySem.Challenge.rw_qd0009_01 := by
    k_fill
    exact ⟨rfl, rfl⟩
  clear _k
  with_unfolding_all show wpAny _ (Around.deeper callerA (envOfC _ (Scope.mk _ _ _ _ _) _ _ _)) (execs (_ :: _) (envOfC _ (Scope.mk _ _ _ _ _) _ _ _)) _ _ _
  obtain ⟨t3, t4, hU⟩ := hD
  have hz3 : vS.length ≤ 99 := by simpa using hz1
  have hz4 : vR.length ≤ 99 := by simpa using hz2
  have e1 : (Str.ofString "%").length = 1 := by decide +kernel
  have e2 : (Str.ofString "/*").length = 2 := by decide +kernel
  repeat' (first | (k_unfold; (try dsimp only)) | (k_end; wrow_close) | walk1 | (dsimp only; walk1) | (leave1; walk_say "STEP leave1"; try dsimp only) | fail "no step")
  all_goals (first | (exfalso; omega) | skip)
  all_goals
    rename News h₀ L _ _ => kN
    rename Fr h₀ L _ _ => kF
    (try dsimp only at kN)
    (try simp only [List.push_toArray] at kN)
  all_goals
    rename (Obj.data _ = Data.cell (some (Value.int _ _))) => hcE
    first
    | (with_unfolding_all refine' law_beginI (d := d) (lC := lC) (lS := lS) (lR := lR) (vS := vS ++ [Value.int text.length _]) (nS := nS + 1) (vR := vR) (nR := nR) (tl := tl) (x := text) (ss := ss) (rs₀ := rs) (rs := rs) (n := n) B kF ?m1 ?m2 ?m3 X T (news_sub kN (List.forall_mem_cons.mpr ⟨?s1, List.forall_mem_cons.mpr ⟨?s2, List.forall_mem_cons.mpr ⟨?s3, List.forall_mem_cons.mpr ⟨?s4, List.forall_mem_cons.mpr ⟨?s5, ?s6⟩⟩⟩⟩⟩)) hO2 hO3 hO4 ?off hcE hoB ?D ?z1 ?z2 hsS.snoc ?R hn hB ?Ta ?e0 ?e1 ?Q
       (case s1 => k_mem)
       (case s2 => k_mem)
       (case s3 => k_mem)
       (case s4 => k_mem)
       (case s5 => k_mem)
       (case s6 => intro p hp; simp [hp])
       (case off => assumption)
       (case R => assumption))
    | (with_unfolding_all refine' law_beginI (d := d) (lC := lC) (lS := lS) (lR := lR) (vS := vS ++ [Value.int text.length _]) (nS := nS + 1) (vR := vR ++ [Value.ref ?dd]) (nR := nR + 1) (tl := (?dd, pairOf text.length (((text ++ (Str.ofString "/*" ++ Txt.join (Str.ofString "") _)).length + 1 : Nat) : Int) _ _) :: tl) (x := text) (ss := ss) (rs₀ := rs) (n := n) B kF ?m1 ?m2 ?m3 X T (news_sub kN (List.forall_mem_cons.mpr ⟨?s1, List.forall_mem_cons.mpr ⟨?s2, List.forall_mem_cons.mpr ⟨?s3, List.forall_mem_cons.mpr ⟨?s4, List.forall_mem_cons.mpr ⟨?s5, List.forall_mem_cons.mpr ⟨?s7, ?s6⟩⟩⟩⟩⟩⟩)) hO2 hO3 hO4 ?off hcE hoB ?D ?z1 ?z2 hsS.snoc (PairsIn.snoc (r := (text.length, _)) (.head _) (hsR.more fun p hp => List.mem_cons_of_mem _ hp)) hn hB ?Ta ?e0 ?e1 ?Q
       (case s1 => k_mem)
       (case s2 => k_mem)
       (case s3 => k_mem)
       (case s4 => k_mem)
       (case s5 => k_mem)
       (case s7 => k_mem)
       (case s6 => intro p hp; simp [hp])
       (case off =>
         refine List.forall_mem_cons.mpr ⟨?_, hoff5⟩
         k_ne))
    case m1 =>
      (try dsimp only)
      repeat (first | exact ite_hit rfl rfl | refine' ite_miss (by decide +kernel) ?_)
    case m2 =>
      (try dsimp only)
      repeat (first | exact ite_hit rfl rfl | refine' ite_miss (by decide +kernel) ?_)
    case m3 =>
      (try dsimp only)
      repeat (first | exact ite_hit rfl rfl | refine' ite_miss (by decide +kernel) ?_)
    case D => assumption
    case z1 =>
      rw [List.length_append, List.length_singleton]
      omega
    case z2 =>
      (try rw [List.length_append, List.length_singleton])
      omega
    case Ta => first | exact .sign (by assumption) (by assumption) rfl | exact .bare rfl | exact .lined (by assumption) (by assumption) rfl | exact .starred (by assumption) (by assumption) rfl
    case e0 => omega
    case e1 => omega
    case Q =>
      intro m9 h9 tk9 F9
      dsimp only
      iterate 3 (first | (k_unfold; (try dsimp only)) | (k_end; wrow_close) | walk1 | (dsimp only; walk1) | (leave1; walk_say "STEP leave1"; try dsimp only) | fail "no step")
      exact hQ _ _ _ F9
end Mine
end
/-! V9 -/
section
open PySem PySem.W PyProof.Rows PySem.Calls
set_option maxRecDepth 100000
namespace Mine
theorem off_V9 : True := by
  w_top off
  trivial
theorem rest_eq : lawRest = lawFor :: lawRest.tail := by with_unfolding_all rfl
theorem pairs_off {h₀ h : Heap} {L : Addr} {tl : List (Addr × Obj)} {a b : Addr} {oa ob : Obj} {va vb : Option Value} (N : News h₀ L h tl) (ha : (a, oa) ∈ tl) (hb : (b, ob) ∈ tl) (da : oa.data = .cell va) (db : ob.data = .cell vb) :
    ∀ {vs : List Value} {rs : List (Nat × Nat)}, PairsIn tl vs rs → PairsIn (tl.filter fun p => decide (p.1 ≠ a) && decide (p.1 ≠ b)) vs rs
  | [], [], _ => trivial
  | _ :: _, _ :: _, ⟨⟨tA, t1, t2, e, hm⟩, r⟩ => by
    refine ⟨⟨tA, t1, t2, e, List.mem_filter.mpr ⟨hm, ?_⟩⟩, pairs_off N ha hb da db r⟩
    have g := (N _ hm).1
    have na : tA ≠ a := fun q => by
      have := (N _ ha).1
      rw [← q] at this
      rw [g] at this
      have e2 : pairOf _ _ t1 t2 = oa := Option.some.inj this
      rw [← e2] at da
      cases da
    have nb : tA ≠ b := fun q => by
      have := (N _ hb).1
      rw [← q] at this
      rw [g] at this
      have e2 : pairOf _ _ t1 t2 = ob := Option.some.inj this
      rw [← e2] at db
      cases db
    simp [na, nb]
theorem law_all {w : World} {mean : ExcName → Option Value} {mg mb : Str → Option Value} {L fa : Addr} {cd : Value} {h₀ : Heap} {m : Str → Option Value} {s : Shared} {Q : Flow → Shared → Prop}
  {d lC lS lR : Addr} {o oE oB : Obj} {ys : List Value} {cells : List Int}
  (B : Below callerA h₀ [] h₀) (F : Fr h₀ L s.heap m) (X : (hd.heap_1 w.params).In h₀) (hm : m (Str.ofString "feed") = some (.ref d))
  (T : Top viewQ (looseW viewQ [Str.ofString "ESCAPES"]) mean mg mb h₀)
  (N : News h₀ L s.heap ((d, o) :: (lS, listOf #[] 0) :: (lR, listOf #[] 0) :: (lC, LCg.lst ys) :: (L + 1, oE) :: (L + 1 + 1, oB) :: []))
  (hO2 : @LT.lt Nat _ (L + 1 + 1) d) (hO3 : @LT.lt Nat _ d lS) (hO4 : @LT.lt Nat _ lS lR) (hO5 : @Ne Nat lC d) (hO6 : @LT.lt Nat _ lC lS) (hO7 : @Ne Nat lC (L + 1)) (hO8 : @Ne Nat lC (L + 1 + 1))
  (hoE : oE.data = .cell none) (hoB : oB.data = .cell none) (hI : IntsAre ys cells) (hl : cells.length ≤ 60) (hD : FeedIs PySem.Challenge.pw_qd0009_01 w lC lS lR 0 (Str.ofString "") o)
  (hQ : ∀ m' h' tk, Fr h₀ L h' m' → Q (.ret (.bool true)) { s with heap := h', toks := tk }) :
  wpAny (model PySem.Challenge.pw_qd0009_01 w) (callerA.deeper (lawEnv L fa cd)) (execs lawRest (lawEnv L fa cd)) Q (fun _ _ => False) s := by
  rw [rest_eq]
  refine wpAny_execs_cons (law_loop (ys := ys) (cells := cells) B F X hm T N (List.forall_mem_cons.mpr ⟨⟨?_, ?_, ?_⟩, List.forall_mem_cons.mpr ⟨⟨?_, ?_, ?_⟩, List.forall_mem_cons.mpr ⟨⟨?_, ?_, ?_⟩, List.forall_mem_nil _⟩⟩⟩) ?_ ?_ ?_ (.head _) hI hl hD ?_)
  iterate 9 (first | exact hO5 | exact Nat.ne_of_lt (by omega) | exact Nat.ne_of_gt (by omega))
  · exact Nat.ne_of_gt hO3
  · exact Nat.ne_of_gt (by omega)
  · exact Nat.ne_of_lt hO4
  intro n m' nx h' tk' hn ⟨text, ss, rs, place, o', vS, vR, nS, nR, tl, H⟩ F' N'
  obtain ⟨H1, rfl, H3, H4, H5, H6, H7, H8, H9, H10⟩ := H
  dsimp only
  have kE : (L + 1, oE) ∈ tl := H3 _ (by simp)
  have kB : (L + 1 + 1, oB) ∈ tl := H3 _ (by simp)
  have kC : (lC, LCg.lst ys) ∈ tl := H3 _ (by simp)
  have Nt : News h₀ L h' tl := fun p hp => N' p (by simp [hp])
  have b := H8.length
  refine law_mid (lC := lC) (tl := tl.filter fun p => decide (p.1 ≠ L + 1) && decide (p.1 ≠ L + 1 + 1)) (ys := ys) (n := n) (rs := rs) (ss := ss) (vS := vS) (vR := vR) (nS := nS) (nR := nR) (text := text) (place := place) (s := { s with heap := h', toks := tk' }) B (fr_at F' H1) X T (fun p hp => ?_) hO2 hO3 hO4 hO5 (fun p hp => (H4 p (List.mem_filter.mp hp).1).1) (fun p hp => (H4 p (List.mem_filter.mp hp).1).2.1) (fun p hp => (H4 p (List.mem_filter.mp hp).1).2.2)
    (fun p hp => by have := (List.mem_filter.mp hp).2; simp at this; exact this.1) (fun p hp => by have := (List.mem_filter.mp hp).2; simp at this; exact this.2) hoE hoB ?_ hI hl H5 H6 (by omega) (by omega) (by simp only [List.size_toArray]; rw [H9.length]; omega) (by simp only [List.size_toArray]; rw [H10.length]; omega) hn H8 H9 (pairs_off Nt kE kB hoE hoB H10) hQ
  · simp only [List.mem_cons] at hp
    rcases hp with rfl | rfl | rfl | rfl | rfl | hp
    · exact N' _ (by simp)
    · exact N' _ (by simp)
    · exact N' _ (by simp)
    · exact Nt _ kE
    · exact Nt _ kB
    · exact Nt _ (List.mem_filter.mp hp).1
  · refine List.mem_filter.mpr ⟨kC, ?_⟩
    have n1 : lC ≠ L + 1 := hO7
    have n2 : lC ≠ L + 1 + 1 := hO8
    simp [n1, n2]
end Mine
end
/-! V8 -/
section
open PySem PySem.W PyProof.Rows PySem.Calls
namespace Mine
theorem off_V8 : True := by
  w_top off
  trivial
local macro_rules | `(tactic| walk_at "pad 0") => `(tactic| skip)
local macro_rules | `(tactic| walk_at "pad 1") => `(tactic| skip)
local macro_rules | `(tactic| walk_at "pad 2") => `(tactic| skip)
local macro_rules | `(tactic| walk_at "pad 3") => `(tactic| skip)
local macro_rules | `(tactic| walk_at "pad 4") => `(tactic| skip)
local macro_rules | `(tactic| walk_at "pad 5") => `(tactic| skip)
local macro_rules | `(tactic| walk_at "pad 6") => `(tactic| skip)
local macro_rules | `(tactic| walk_at "pad 7") => `(tactic| skip)
local macro_rules | `(tactic| walk_at "pad 8") => `(tactic| skip)
local macro_rules | `(tactic| walk_at "pad 9") => `(tactic| skip)
local macro_rules | `(tactic| walk_at "pad 10") => `(tactic| skip)
local macro_rules | `(tactic| walk_at "pad 11") => `(tactic| skip)
local macro_rules | `(tactic| walk_at "pad 12") => `(tactic| skip)
local macro_rules | `(tactic| walk_at "pad 13") => `(tactic| skip)
set_option maxRecDepth 100000 in
set_option maxHeartbeats 2000000 in
theorem holds : PySem.Challenge.rw_qd0009_01.Holds := by
  o_law
  refine holds_open (q := viewQ) (loose := [Str.ofString "ESCAPES"]) (Xt := seesQ) (XP := XL viewQ []) (Yf := Hook.obs hookQ) (Ya := Hook.val hookQ) (YP := Hook.says hookQ) (N := 2000) left_all (Hook.of hookQ) (Hook.keeps hookQ) (fun s e => xl_of s (Bool.and_eq_true_iff.mp e).1) XL.keeps (by rfl) (by rfl) (by rfl) (fun s e => recFacts_of (Bool.and_eq_true_iff.mp e).2) (by rfl) (by assumption) (by decide +kernel) ⟨rfl, rfl, rfl, rfl, rfl, by decide +kernel⟩ ?hw ?hc
  case hw => w_witness2
  rename _ = true => said
  clear said
  k_go0
  (all_goals try k_fold)
  iterate 40 (first | (k_unfold; (try dsimp only)) | (k_end; wrow_close) | walk1 | (dsimp only; walk1) | (leave1; walk_say "STEP leave1"; try dsimp only) | fail "no step")
  rename Shared => s1
  rename News _ _ _ _ => kN
  rename Fr _ _ _ _ => kF
  rename (Obj.IsDictOf _ _ (strPairs _)) => kD
  rename (IntsAre _ (List.map _ (List.take 60 _))) => kI
  rename (Frag.In _ _) => kX
  refine wpAny_noRaise ?_
  with_unfolding_all refine' law_all (L := s1.heap.objs.size) ?B ?cF kX ?hm ?T ?cN ?o2 ?o3 ?o4 ?o5 ?o6 ?o7 ?o8 ?hoE ?hoB kI ?hl ⟨_, _, kD⟩ ?hQ
  case cF => exact kF
  case cN =>
    refine' news_sub kN (List.forall_mem_cons.mpr ⟨?s1, List.forall_mem_cons.mpr ⟨?s2, List.forall_mem_cons.mpr ⟨?s3, List.forall_mem_cons.mpr ⟨?s4, List.forall_mem_cons.mpr ⟨?s5, List.forall_mem_cons.mpr ⟨?s6, List.forall_mem_nil _⟩⟩⟩⟩⟩⟩)
    all_goals k_mem
  case B => with_unfolding_all assumption
  case hm =>
    (try dsimp only)
    exact if_pos rfl
  case T => assumption
  case o2 => refine ltN ?_; omega
  case o3 => refine ltN ?_; omega
  case o4 => refine ltN ?_; omega
  case o5 => k_ne
  case o7 => k_ne
  case o8 => k_ne
  case o6 => refine ltN ?_; omega
  case hoE => assumption
  case hoB => assumption
  case hl =>
    rw [List.length_map, List.length_take]
    omega
  case hQ =>
    intro m9 h9 tk9 F9
    k_unfold
    (try dsimp only)
    k_end
    wrow_close
end Mine
end
theorem PySem.Challenge.cw_qd0009_01_holds : PySem.Challenge.rw_qd0009_01.Holds :=
  Mine.holds
