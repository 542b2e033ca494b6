import PyProof.Rows.All
import Wide.All
import OpenK.AllK
import Wide.FinOn
import PySem.Challenge.RW_nt0646_01
open PySem PySem.W PySem.Spec PySem.Calls PyProof.Rows
open Sem (wp)
set_option Elab.async false
set_option maxRecDepth 100000
set_option compiler.extract_closed false
set_option genSizeOfSpec false
set_option hygiene false
set_option maxHeartbeats 2000000
namespace LX
/-- built-ins that hold a bytearray's bytes while they run -/
noncomputable def holdIds : List String := ["bytearray.__contains__", "bytearray.__mod__", "bytearray.__rmod__", "_struct.pack_into.held", "bytearray.find.held"] ++ Builtin.Bytes.decodersThatHold
noncomputable def holds : Code → Bool
  | .builtin id _ => holdIds.contains id
  | _ => false
/-- no such one on the stack -/
structure Clean (Γ : PySem.Ctx) : Prop where
  code : holds Γ.code = false
  below : ∀ x ∈ Γ.below, holds x.1 = false

noncomputable def wpC {α : Type} (M : Model) (A : Around) (t : Sem α) (Q : α → Shared → Prop) (E : Value → Shared → Prop) (s : Shared) : Prop :=
  ∀ Γ p, Γ.In A → Clean Γ → wp M Γ t (fun a _ s' => Q a s') (fun e _ s' => E e s') p s

/-- the caller's own stack is clean -/
theorem clean_caller : Clean ⟨.builtin "claim.caller" {}, none, none, [], none⟩ := ⟨by decide, fun _ h => nomatch h⟩

noncomputable def Hold {T : Prop} (_ : T) (P : Prop) : Prop := P

/-- what is asked of the call: as the library's own, on a clean stack -/
noncomputable abbrev WalkC (q : Program) (loose : List Str) (XP : (Str → Option Value) → Heap → Prop) (YP : World → Heap → Prop) (r : RowW) (d : DefRec) (kwd : List (Str × Expr)) : Prop :=
  ∀ (w : World) (s₀ s₁ : Shared) (mg mb : Str → Option Value), Ground q loose r.records XP w s₀ mg mb s₁.heap → YP w s₁.heap → ∀ (a : Addr) (o : Obj) (pm cd doc dV kV : Value), s₁.heap.get? a = some o →
    o.data = .func { docDef d.name d.params d.body d.scope pm cd doc with defaults := dV, kwdefaults := kV } → s₁.heap.CodeRec cd d.name → Dflts mg s₁.heap d.params kwd dV kV → mg d.name = some (.ref a) → s₁.gens = #[] →
    ∀ (args : List WData) (vals : List Value) (as : List Addr), r.claim.pre args = true → WData.layableAll args = true → ReadsAllW r.records (classAt s₀.heap) s₁.heap vals args as → WellAll w.params s₁.heap vals args → (∀ a ∈ as, (a == sysModules) = false) →
      wpC (model r.prog w) callerA (call (.ref a) vals) (fun v s' => GoodWG r.claim (classAt s₀.heap) (ExcName.means s₀.heap) args s₁ (.ok (.ret v)) s')
        (fun e s' => GoodWG r.claim (classAt s₀.heap) (ExcName.means s₀.heap) args s₁ (.error e) s') s₁

/-- opened at once, whatever is to be shown: small terms -/
theorem ex_open {α β : Type} {a b : α → Prop} {c d e f g h : α → β → Prop} {r : Prop} (x : ∃ s₀, a s₀ ∧ b s₀ ∧ ∃ s₁, c s₀ s₁ ∧ d s₀ s₁ ∧ e s₀ s₁ ∧ f s₀ s₁ ∧ g s₀ s₁ ∧ h s₀ s₁)
    (k : ∀ s₀, a s₀ → b s₀ → ∀ s₁, c s₀ s₁ → d s₀ s₁ → e s₀ s₁ → f s₀ s₁ → g s₀ s₁ → h s₀ s₁ → r) : r := by
  obtain ⟨_, x1, x2, _, x3, x4, x5, x6, x7, x8⟩ := x; exact k _ x1 x2 _ x3 x4 x5 x6 x7 x8
theorem ex_run {α β γ δ : Type} {a b c d e f : α → β → γ → δ → Prop} {r : Prop} (x : ∃ x1 x2 x3 x4, a x1 x2 x3 x4 ∧ b x1 x2 x3 x4 ∧ c x1 x2 x3 x4 ∧ d x1 x2 x3 x4 ∧ e x1 x2 x3 x4 ∧ f x1 x2 x3 x4)
    (k : ∀ x1 x2 x3 x4, a x1 x2 x3 x4 → b x1 x2 x3 x4 → c x1 x2 x3 x4 → d x1 x2 x3 x4 → e x1 x2 x3 x4 → f x1 x2 x3 x4 → r) : r := by
  obtain ⟨_, _, _, _, h1, h2, h3, h4, h5, h6⟩ := x; exact k _ _ _ _ h1 h2 h3 h4 h5 h6
theorem ex_fn {α β γ δ ε ζ η : Type} {a b c d e : α → β → γ → δ → ε → ζ → η → Prop} {r : Prop}
    (x : ∃ x1 x2 x3 x4 x5 x6 x7, a x1 x2 x3 x4 x5 x6 x7 ∧ b x1 x2 x3 x4 x5 x6 x7 ∧ c x1 x2 x3 x4 x5 x6 x7 ∧ d x1 x2 x3 x4 x5 x6 x7 ∧ e x1 x2 x3 x4 x5 x6 x7)
    (k : ∀ x1 x2 x3 x4 x5 x6 x7, a x1 x2 x3 x4 x5 x6 x7 → b x1 x2 x3 x4 x5 x6 x7 → c x1 x2 x3 x4 x5 x6 x7 → d x1 x2 x3 x4 x5 x6 x7 → e x1 x2 x3 x4 x5 x6 x7 → r) : r := by
  obtain ⟨_, _, _, _, _, _, _, h1, h2, h3, h4, h5⟩ := x; exact k _ _ _ _ _ _ _ h1 h2 h3 h4 h5
/-- the caller's thread, seen at its own stack alone -/
theorem tree_runs {c : ClaimW} {w : World} {s s₁ : Shared} {args : List WData} {vs : List Value} {name : Str} {mg : Str → Option Value} {f : Value} {kept : Heap → Prop} (hz : s₁.asleep) (hg : s₁.heap.Ns mainGlobals mg) (hf : mg name = some f)
    (h : wpC (model c.prog w) callerA (call f vs) (fun v s' => c.Ends s args vs s₁ (.ok (.ret v)) s' ∧ s'.os = s.os ∧ AllBare s'.gens ∧ kept s'.heap) (fun e s' => c.Ends s args vs s₁ (.error e) s' ∧ s'.os = s.os ∧ AllBare s'.gens ∧ kept s'.heap) s₁) :
    ∃ n r s' s'', runN (denote table) c.prog w n s₁ (callStub name vs) = .halted (outcomeOf r) s' ∧ schedN (denote table) c.prog w n (.single s₁ (callStub name vs)) = .halted (outcomeOf r) s' ∧ s'.forget = s''.forget ∧ c.Ends s args vs s₁ r s'' ∧ s''.os = s.os ∧ kept s''.heap := by
  have key : wp (model c.prog w) ⟨.builtin "claim.caller" {}, none, none, [], none⟩ (do match ← nsGet mainNs name with
      | some f => do ret (← call f vs)
      | none => unsupported "claim.caller:no-such-global" : Sem Fin)
      (Sem.finPost (model c.prog w) ⟨.builtin "claim.caller" {}, none, none, [], none⟩ fun r s' => (c.Ends s args vs s₁ r s' ∧ s'.os = s.os ∧ kept s'.heap) ∧ leftWithCleanup s'.gens = false)
      (fun e _ s' => (c.Ends s args vs s₁ (.error e) s' ∧ s'.os = s.os ∧ kept s'.heap) ∧ leftWithCleanup s'.gens = false) default s₁ := by
    rw [Sem.wp_bind']
    refine (Sem.wp_nsGet _ _ _ _ _ hg _ _).mpr ?_
    rw [hf]
    show wp _ _ (call f vs >>= fun v => ret v) _ _ _ _
    rw [Sem.wp_bind']
    exact Sem.wp_mono _ _ _ (fun v p s' ⟨a, b, d, e⟩ => ⟨⟨a, b, e⟩, leftWithCleanup_false_of_bare d⟩) (fun v p s' ⟨a, b, d, e⟩ => ⟨⟨a, b, e⟩, leftWithCleanup_false_of_bare d⟩) _ _ (h _ default caller_in clean_caller)
  obtain ⟨n, r, s', s'', h1, h2, h3, h4⟩ := wp_halts_full (M := model c.prog w) hz key
  exact ⟨n, r, s'', s', h2, h1, h3, h4⟩

/-- the head, for a call on a clean stack -/
theorem holds_clean {r : OpenRow} {q : Program} {loose : List Str} {Xt : Shared → Bool} {XP : (Str → Option Value) → Heap → Prop} {α : Type} {Yf : Shared → α} {Ya : World → α} {YP : World → Heap → Prop} {d : DefRec} {kwd : List (Str × Expr)} {N : Nat}
    (left : LeftO r.prog q loose Xt Yf Ya N) (hY : ∀ w s, Yf s = Ya w → YP w s.heap) (hYk : ∀ w h h', YP w h → (∀ b o, h.get? b = some o → h'.get? b = some o) → YP w h')
    (hX : ∀ s, Xt s = true → XP (s.heap.nsMap mainGlobals) s.heap) (hXk : ∀ mg h h', XP mg h → (∀ b o, h.get? b = some o → h'.get? b = some o) → XP mg h')
    (hdef : defOf q r.name = some (d, kwd)) (hp : r.prog.theDef r.name = some (d.params, d.body, d.scope)) (hk : kwWritten? d.params.kwonlyargs d.params.kw_defaults = some kwd) (hRf : ∀ s, Xt s = true → RecFacts r.records s.heap) (hwr : (!r.writes || r.records.isEmpty) = true)
    (k1 : r.wellSaid = true) (ok : (chainsOk q && opensWell r.prog && (frees r.toRowW && r.within.isEmpty)) = true) (hb : r.prog.bare) (hw : r.toRowW.promised)
    (call : WalkC q loose XP YP r.toRowW d kwd) : r.Holds := by
  obtain ⟨o1, o2⟩ := Bool.and_eq_true_iff.mp ok
  obtain ⟨o3, o4⟩ := Bool.and_eq_true_iff.mp o1
  obtain ⟨o5, o6⟩ := Bool.and_eq_true_iff.mp o2
  obtain ⟨hsame, hu, ha, hap, hm⟩ := frees_parts o5
  refine ⟨k1, hw, ⟨hb, o4, by show r.makers.map _ = []; rw [hm]; rfl⟩, hw.witness, fun w => ⟨(left.behind hX o3 w).1, fun sE hE => ?_⟩⟩
  refine ex_open ((left.behind (XP := fun mg h => XP mg h ∧ RecFacts r.records h) (fun s hs => ⟨hX s hs, hRf s hs⟩) o3 w).2 sE hE) fun s₀ f1 f2 s T z f3 f4 G00 y => ?_
  have G0 : Ground q loose [] XP w s (s.heap.nsMap mainGlobals) (s.heap.nsMap builtinsNs) s.heap := ⟨G00.T, G00.B, G00.D, G00.TE, G00.TD, G00.W, G00.X.1, G00.cls, G00.has, G00.apart, G00.once, G00.K⟩
  have G : Ground q loose r.records XP w s _ _ s.heap := G00.X.2.ground G0
  have g0 : s.gens = #[] := Array.eq_empty_of_size_eq_zero (beq_iff_eq.mp f3)
  refine ⟨s₀, f1, f2, s, T, fun n hn => ?_, G00.X.2.1, G00.X.2.2.1, fun args hpre hlay ord hord => ?_⟩
  · obtain rfl : n = r.name := by split at hn <;> simp_all
    exact pinned_of_view f4 G0 hdef hp hk
  obtain ⟨⟨vs, s₁⟩, laid⟩ := Option.isSome_iff_exists.mp (layAllW_isSome (P := w.params) (ord := ord) G.has args r.args s (pre_splitW hpre).1)
  have rest := layAllW_rest _ _ _ laid
  obtain ⟨as, hrd, hin, hold⟩ := reads_layAllW hord _ _ _ laid hlay s₁.heap (fun _ _ e => e)
  have keeps := layAllW_keeps _ _ _ laid
  have L : Laid r.records w s s₁ args vs as := ⟨⟨ord, hord, laid⟩, hrd, hin, hold, keeps, rest.1.trans g0, rest.2.2.1⟩
  have G₁ := G.keeps hXk keeps
  refine ex_fn (G₁.fn hdef) fun a o pm cd doc dV kV h1 h2 h3 h4 h5 => ?_
  have W := call w s s₁ _ _ G₁ (hYk _ _ _ (hY w s y) keeps) a o pm cd doc dV kV h2 h3 h4 h5 (defOf_name hdef ▸ h1) L.gens args vs as hpre hlay L.reads L.well (L.low G.low)
  have hi := ident_freeW hu ha hap
  have hwi : r.toRowW.claim.within = [] := List.isEmpty_iff.mp o6
  have good : ∀ rr s', GoodWG r.toRowW.claim (classAt s.heap) (ExcName.means s.heap) args s₁ rr s' → r.toRowW.claim.Ends s args vs s₁ rr s' ∧ s'.os = s.os ∧ AllBare s'.gens ∧
      (r.writes = true → namesKept r.prog r.keeps s.heap s'.heap ∧ ∀ x ∈ r.records, ∀ a, classAt s.heap x.1 = some a → recordClass s'.heap a x.1 (x.2.map (·.1)) = true) := fun rr s' g =>
    have e := g.laid (c := r.toRowW.claim) hsame hwi hi L
    ⟨e.1, e.2.1, e.2.2, fun q => ⟨namesKept_of T f4 r.keeps keeps g.2.1.old, noTable hwr q⟩⟩
  refine ex_run (tree_runs (c := r.toRowW.claim) (kept := fun h' => r.writes = true → namesKept r.prog r.keeps s.heap h' ∧ ∀ x ∈ r.records, ∀ a, classAt s.heap x.1 = some a → recordClass h' a x.1 (x.2.map (·.1)) = true)
    (Shared.asleep_of_life rest.2.2.2 z) G₁.T.g h1
    (fun Γ p hΓ cl => Sem.wp_mono _ _ _ (fun v _ s' g => good _ s' g) (fun e _ s' g => good _ s' g) _ _ (W Γ p hΓ cl))) fun n rr s' s'' e1 e2 e3 e4 e5 e6 => ?_
  obtain ⟨q1, _, _, q2, _⟩ := Shared.forget_eq e3
  have ends := e4.congr q1
  have life : s'.heap.life = s.heap.life := (runN_life _ _ _ e1).trans rest.2.2.2
  refine ⟨vs, s₁, laid, n, _, s', e2, ?_, (fun _ i x hx => by rw [g0] at hx; simp at hx), by rw [q1]; exact e6, by rw [life], Shared.rest_eq (q2 ▸ e5)⟩
  rcases ends with ⟨v, rfl, d1, d2, d3, d4, d5⟩ | ⟨e, ob, cls, rfl, d1, d2, d3, d4, d5⟩
  · exact .inl ⟨v, rfl, d1, d2, d3, fun b o y _ => d4 b o y, d5⟩
  · exact .inr ⟨e, ob, cls, rfl, d1, d2, d3, d4, fun b o y _ => d5 b o y⟩
/-- the top's run on a heap kept as a tree -/
noncomputable def runT (tb : String → Option Builtin) (p : Program) (w : World) (n₀ : Nat) (ann : Option Value) : Nat → SharedT → Thread → Option SharedT
  | 0, _, _ => none
  | n + 1, s, t => match through t with
    | true => some s
    | false => match stepOk n₀ ann t with
      | false => none
      | true => match stepT (denote tb) p w s t with
        | some (s', t') => runT tb p w n₀ ann n s' t'
        | none => none
theorem runT_of {tb : String → Option Builtin} {p : Program} {w : World} {n₀ : Nat} {ann : Option Value} : ∀ {n : Nat} {s s' : SharedT} {t : Thread}, runT tb p w n₀ ann n s t = some s' → topRun tb p w n₀ ann n s.abs t = some s'.abs
  | 0, _, _, _, h => by cases h
  | n + 1, s, s', t, h => by
    unfold runT at h
    unfold topRun
    cases ht : through t with
    | true => rw [ht] at h; cases h; rfl
    | false =>
      rw [ht] at h
      cases hk : stepOk n₀ ann t with
      | false => rw [hk] at h; cases h
      | true =>
        rw [hk] at h
        cases hs : stepT (denote tb) p w s t with
        | none => rw [hs] at h; cases h
        | some r => obtain ⟨s₂, t₂⟩ := r; rw [hs] at h; rw [stepT_spec hs]; exact runT_of h

open PySem.W.Fast in
/-- the same, by the library's quick forms -/
noncomputable def runQ (tb : String → Option Builtin) (p : Program) (w : World) (n₀ : Nat) (ann : Option Value) : Nat → SharedT → Thread → Option SharedT
  | 0, _, _ => none
  | n + 1, s, t => match through t with
    | true => some s
    | false => match tw6613529449190102663 n₀ ann t with
      | false => none
      | true => match tw10156331382660048174 (tw11892475500146522536 tb) p w s t with
        | some (s', t') => runQ tb p w n₀ ann n s' t'
        | none => none
open PySem.W.Fast in
theorem runT_eq {tb : String → Option Builtin} {p : Program} {w : World} {n₀ : Nat} {ann : Option Value} : ∀ (n : Nat) (s : SharedT) (t : Thread), runT tb p w n₀ ann n s t = runQ tb p w n₀ ann n s t
  | 0, _, _ => rfl
  | n + 1, s, t => by
    unfold runT runQ
    rw [← te6613529449190102663, ← te10156331382660048174, ← te11892475500146522536]
    simp only [runT_eq n]

noncomputable def insAll : List Obj → Nat → BT → BT
  | [], _, t => t
  | o :: l, n, t => insAll l (n + 1) (t.ins n o)
noncomputable def bootT (P : Params) : BT := insAll (boot_heap P).objs.toList 0 .nil
theorem boot_abs (P : Params) : absHeap (bootT P) 11 {} = boot_heap P := by kernel_rfl!
noncomputable def bootS (w : World) (os : OsState) : SharedT := ⟨bootT w.params, 11, {}, #[], boot_drawn, boot_toks, os⟩
theorem bootS_abs (w : World) (os : OsState) : (bootS w os).abs = ⟨boot_heap w.params, #[], boot_drawn, boot_toks, os⟩ := by
  unfold bootS SharedT.abs
  rw [boot_abs]
theorem boot_size (P : Params) : ((boot_heap P).isNs mainGlobals, (boot_heap P).objs.size, (boot_heap P).nsMap mainGlobals "__annotations__") = (true, 11, some (.ref 6)) := by kernel_rfl!

theorem left_once {p q : Program} {loose : List Str} {Xt : Shared → Bool} {α : Type} {Yf : Shared → α} {Ya : World → α} {N M : Nat} {g0 : Bool}
    (e : opening p = plainProg p.main.scope.names) (hN : Nat.ble 600 N = true) (f : ∀ s, fenceModules? p s = some s) (hM : Nat.ble M N = true)
    (once : ∀ w os, (runT treeTable p w 11 (some (.ref 6)) M (bootS w os) (topStub p)).map (fun s => (staticsOk (importedModules p.main.body) (boot_heap w.params) s.abs.heap && namesBound p s.abs.heap && gensDone s.abs && laidKept (boot_heap w.params) s.abs.heap,
        openSeen q loose (importedModules p.main.body) Xt g0 s.abs, Yf s.abs)) = some (true, openGood q loose, Ya w)) : LeftO p q loose Xt Yf Ya N g0 := fun w => by
  obtain ⟨⟨h, gs, d, k, os⟩, e, e'⟩ := Option.map_eq_some_iff.mp (boot_open e hN f w)
  obtain ⟨rfl, rfl, rfl, rfl⟩ : h = boot_heap w.params ∧ gs = #[] ∧ d = boot_drawn ∧ k = boot_toks := by simpa using e'
  obtain ⟨s₁, r, l⟩ := Option.map_eq_some_iff.mp (once w os)
  have r := runT_of r
  rw [bootS_abs] at r
  have r := topRun_mono (N - M) _ _ _ _ r
  rw [show M + (N - M) = N by have := Nat.le_of_ble_eq_true hM; lia] at r
  obtain ⟨l1, l2, l3⟩ : _ ∧ _ ∧ _ := by simpa only [Prod.mk.injEq] using l
  obtain ⟨z1, z2, z3⟩ : _ ∧ _ ∧ _ := by simpa only [Prod.mk.injEq] using boot_size w.params
  have t : topFrom treeTable p w N ⟨boot_heap w.params, #[], boot_drawn, boot_toks, os⟩ = some s₁.abs := by
    unfold topFrom
    dsimp only
    rw [z1, z2, z3, r]
    show (match staticsOk (importedModules p.main.body) (boot_heap w.params) s₁.abs.heap && namesBound p s₁.abs.heap && gensDone s₁.abs && laidKept (boot_heap w.params) s₁.abs.heap with | true => _ | false => _) = _
    rw [l1]
  unfold openEnds
  rw [e]
  show (topFrom treeTable p w N _).map _ = _
  rw [t]
  exact congrArg some (Prod.ext l2 l3)

open PySem.W.Fast in
/-- the head's left side by one check, on the library's quick forms -/
theorem left_quick {p q : Program} {loose : List Str} {Xt : Shared → Bool} {α : Type} {Yf : Shared → α} {Ya : World → α} {N M : Nat} {g0 : Bool}
    (e : opening p = plainProg p.main.scope.names) (hN : Nat.ble 600 N = true) (f : ∀ s, fenceModules? p s = some s) (hM : Nat.ble M N = true)
    (once : ∀ w os, (runQ tw14364793385576792824 p w 11 (some (.ref 6)) M (bootS w os) (topStub p)).map (fun s => (staticsOk (tw5923862056798008813 p.main.body) (boot_heap w.params) s.abs.heap && namesBound p s.abs.heap && gensDone s.abs && laidKept (boot_heap w.params) s.abs.heap,
        tw4187177175401517315 q loose (tw5923862056798008813 p.main.body) Xt g0 s.abs, Yf s.abs)) = some (true, openGood q loose, Ya w)) : LeftO p q loose Xt Yf Ya N g0 :=
  left_once e hN f hM fun w os => by
    rw [runT_eq, te14364793385576792824, te5923862056798008813, te4187177175401517315]
    exact once w os

/-- an object by the tree alone -/
noncomputable def getT (t : BT) (n a : Nat) : Option Obj := match Nat.blt a n with
  | true => alive ((t.get a).getD default)
  | false => none
theorem get_abs (t : BT) (n : Nat) (life : Life) (a : Nat) : (absHeap t n life).get? a = getT t n a := by
  unfold Heap.get? getT
  rw [absHeap_at]
  cases h : Nat.blt a n with
  | true =>
    have lt : a < n := Nat.le_of_ble_eq_true h
    rw [if_pos lt]
    show (match some ((t.get a).getD default) with | some ⟨_, _, .freed, _⟩ => none | o => o) = alive ((t.get a).getD default)
    obtain ⟨c, d, dt, sl⟩ := (t.get a).getD default
    cases dt <;> rfl
  | false => rw [if_neg (fun q => by rw [show Nat.blt a n = true from Nat.ble_eq_true_of_le q] at h; cases h)]
open PySem.W.Fast in
/-- the head's left side with the objects written out, by one check -/
theorem left_quickK {p q : Program} {loose : List Str} {Xt : Shared → Bool} {N M : Nat} {g0 : Bool} {as : List Nat} {K : Params → Frag}
    (e : opening p = plainProg p.main.scope.names) (hN : Nat.ble 600 N = true) (f : ∀ s, fenceModules? p s = some s) (hM : Nat.ble M N = true)
    (once : ∀ w os, (runQ tw14364793385576792824 p w 11 (some (.ref 6)) M (bootS w os) (topStub p)).map (fun s => (staticsOk (tw5923862056798008813 p.main.body) (boot_heap w.params) s.abs.heap && namesBound p s.abs.heap && gensDone s.abs && laidKept (boot_heap w.params) s.abs.heap,
        tw4187177175401517315 q loose (tw5923862056798008813 p.main.body) Xt g0 s.abs, as.map (getT s.tree s.n))) = some (true, openGood q loose, (K w.params).map fun p => some p.2)) :
    LeftO p q loose Xt (fun s => as.map s.heap.get?) (fun w => (K w.params).map fun p => some p.2) N g0 :=
  left_quick e hN f hM fun w os => by
    have h : ∀ s : SharedT, as.map s.abs.heap.get? = as.map (getT s.tree s.n) := fun s => by
      congr 1
      funext a
      exact get_abs s.tree s.n s.life a
    simp only [h]
    exact once w os
/-- the text, seen as its last def alone -/
noncomputable def vw : Program := view Challenge.pw_nt0646_01 [77]
noncomputable def loose : List Str := Challenge.pw_nt0646_01.boundNames.filter fun n => !(n == "law")
theorem hl_open : opening Challenge.pw_nt0646_01 = plainProg Challenge.pw_nt0646_01.main.scope.names := rfl
theorem hl_fence (s : Shared) : fenceModules? Challenge.pw_nt0646_01 s = some s := rfl
open PySem.W.Fast in
theorem said : Challenge.rw_nt0646_01.wellSaid = true := by
  rw [te9446332074065402090]
  unfold tw9446332074065402090 tw17960256430627541270 tw2436336058641802641 tw12908688711261696721
  repeat' with_reducible refine look_both ?_ ?_
  all_goals decide +kernel
local macro_rules | `(tactic| o_head $H) => `(tactic| (
  refine holds_clean (q := LX.vw) (loose := LX.loose) (Xt := fun s => xlAt LX.vw [] s && recOk [] s) (XP := XL LX.vw []) (Yf := Hook.obs $H) (Ya := Hook.val $H) (YP := Hook.says $H) (N := 7060) ?hl (Hook.of $H) (Hook.keeps $H) (fun s e => xl_of s (Bool.and_eq_true_iff.mp e).1) XL.keeps (by rfl) (by rfl) (by rfl) (fun s e => recFacts_of (Bool.and_eq_true_iff.mp e).2) (by rfl) (by assumption) (by decide +kernel) ⟨rfl, rfl, rfl, rfl, rfl, by decide +kernel⟩ ?hw ?hc
  case hl =>
    refine left_quickK (M := 3600) hl_open rfl hl_fence rfl fun w os => ?_
    kernel_rfl!))
set_option maxHeartbeats 8000000 in
noncomputable def hdC : PSigma (fun T : Prop => T → Challenge.rw_nt0646_01.Holds) := by
  refine ⟨?T, fun walk => ?g⟩
  case g =>
    w_on
    refine holds_law said fun said => ?_
    k_head
    case hw => w_witness2
    exact walk
noncomputable abbrev Led := List (Addr × Obj)

/-- ∃ over some things at once, and a row of facts at once: small terms where they are opened and closed -/
inductive E1 {a : Type} (zz : a → Prop) : Prop | mk (xa : a) (h : zz xa) : E1 zz
inductive E2 {a b : Type} (zz : a → b → Prop) : Prop | mk (xa : a) (xb : b) (h : zz xa xb) : E2 zz
inductive E3 {a b c : Type} (zz : a → b → c → Prop) : Prop | mk (xa : a) (xb : b) (xc : c) (h : zz xa xb xc) : E3 zz
inductive E4 {a b c d : Type} (zz : a → b → c → d → Prop) : Prop | mk (xa : a) (xb : b) (xc : c) (xd : d) (h : zz xa xb xc xd) : E4 zz
inductive E5 {a b c d e : Type} (zz : a → b → c → d → e → Prop) : Prop | mk (xa : a) (xb : b) (xc : c) (xd : d) (xe : e) (h : zz xa xb xc xd xe) : E5 zz
inductive E6 {a b c d e f : Type} (zz : a → b → c → d → e → f → Prop) : Prop | mk (xa : a) (xb : b) (xc : c) (xd : d) (xe : e) (xf : f) (h : zz xa xb xc xd xe xf) : E6 zz
inductive E7 {a b c d e f g : Type} (zz : a → b → c → d → e → f → g → Prop) : Prop | mk (xa : a) (xb : b) (xc : c) (xd : d) (xe : e) (xf : f) (xg : g) (h : zz xa xb xc xd xe xf xg) : E7 zz
inductive E8 {a b c d e f g h : Type} (zz : a → b → c → d → e → f → g → h → Prop) : Prop | mk (xa : a) (xb : b) (xc : c) (xd : d) (xe : e) (xf : f) (xg : g) (xh : h) (h : zz xa xb xc xd xe xf xg xh) : E8 zz
inductive E16 {a b c d e f g h i j k l m n o p : Type} (zz : a → b → c → d → e → f → g → h → i → j → k → l → m → n → o → p → Prop) : Prop | mk (xa : a) (xb : b) (xc : c) (xd : d) (xe : e) (xf : f) (xg : g) (xh : h) (xi : i) (xj : j) (xk : k) (xl : l) (xm : m) (xn : n) (xo : o) (xp : p) (h : zz xa xb xc xd xe xf xg xh xi xj xk xl xm xn xo xp) : E16 zz
inductive A2 (a b : Prop) : Prop | mk (xa : a) (xb : b) : A2 a b
inductive A3 (a b c : Prop) : Prop | mk (xa : a) (xb : b) (xc : c) : A3 a b c
inductive A4 (a b c d : Prop) : Prop | mk (xa : a) (xb : b) (xc : c) (xd : d) : A4 a b c d
inductive A5 (a b c d e : Prop) : Prop | mk (xa : a) (xb : b) (xc : c) (xd : d) (xe : e) : A5 a b c d e
inductive A6 (a b c d e f : Prop) : Prop | mk (xa : a) (xb : b) (xc : c) (xd : d) (xe : e) (xf : f) : A6 a b c d e f
inductive A7 (a b c d e f g : Prop) : Prop | mk (xa : a) (xb : b) (xc : c) (xd : d) (xe : e) (xf : f) (xg : g) : A7 a b c d e f g
inductive A8 (a b c d e f g h : Prop) : Prop | mk (xa : a) (xb : b) (xc : c) (xd : d) (xe : e) (xf : f) (xg : g) (xh : h) : A8 a b c d e f g h
inductive A9 (a b c d e f g h i : Prop) : Prop | mk (xa : a) (xb : b) (xc : c) (xd : d) (xe : e) (xf : f) (xg : g) (xh : h) (xi : i) : A9 a b c d e f g h i
inductive A10 (a b c d e f g h i j : Prop) : Prop | mk (xa : a) (xb : b) (xc : c) (xd : d) (xe : e) (xf : f) (xg : g) (xh : h) (xi : i) (xj : j) : A10 a b c d e f g h i j
inductive A11 (a b c d e f g h i j k : Prop) : Prop | mk (xa : a) (xb : b) (xc : c) (xd : d) (xe : e) (xf : f) (xg : g) (xh : h) (xi : i) (xj : j) (xk : k) : A11 a b c d e f g h i j k
inductive A13 (a b c d e f g h i j k l m : Prop) : Prop | mk (xa : a) (xb : b) (xc : c) (xd : d) (xe : e) (xf : f) (xg : g) (xh : h) (xi : i) (xj : j) (xk : k) (xl : l) (xm : m) : A13 a b c d e f g h i j k l m
/-- a turn of a loop is over: the invariant at a smaller measure -/
inductive Nx (I : Nat → Shared → Prop) (n : Nat) (s : Shared) : Prop | mk (m : Nat) (h : m < n) (i : I m s) : Nx I n s

/-- the written part stands in h -/
structure Bs (w : World) (g : Heap) : Prop where
  X : (LX.hdC.heap_1 w.params).In g
  T : ∃ p loose mg mb, TopRead p loose mg mb g

theorem Bs.keeps {w : World} {g h : Heap} (b : Bs w g) (k : ∀ a o, g.get? a = some o → h.get? a = some o) : Bs w h :=
  ⟨b.X.keeps k, let ⟨p, l, mg, mb, T⟩ := b.T; ⟨p, l, mg, mb, T.keeps k⟩⟩

/-- what a call asks of the state: a ledger R of things that it may change -/
structure Hs (w : World) (R : Led) (s : Shared) : Prop where
  base : Bs w (hideAll s.heap (R.map (·.1)))
  led : ∀ p ∈ R, s.heap.get? p.1 = some p.2
  nd : (R.map (·.1)).Nodup

/-- what a call does -/
structure Ef (R : Led) (s : Shared) (R' : Led) (s' : Shared) : Prop where
  keeps : ∀ a o, s.heap.get? a = some o → a ∉ R.map (·.1) → s'.heap.get? a = some o
  size : s.heap.objs.size ≤ s'.heap.objs.size
  led : ∀ p ∈ R', s'.heap.get? p.1 = some p.2 ∧ (p.1 ∈ R.map (·.1) ∨ s.heap.get? p.1 = none)
  nd : (R'.map (·.1)).Nodup
  rest : s'.gens = s.gens ∧ s'.drawn = s.drawn ∧ s'.os = s.os

/-- a frame at work: g stands below it -/
structure St (w : World) (g : Heap) (L : Addr) (m : Str → Option Value) (R : Led) (r s : Shared) : Prop where
  base : Bs w g
  F : Fr g L s.heap m
  N : News g L s.heap R
  nd : (R.map (·.1)).Nodup
  rest : s.gens = r.gens ∧ s.drawn = r.drawn ∧ s.os = r.os

structure Rm (A : Around) (k : Nat) : Prop where
  d : A.depth + k < recursionLimit
  u : A.units + 8 * k < cLine
  h : A.handled = none

theorem Rm.le {A : Around} {k k' : Nat} (x : Rm A k) (h : k' ≤ k) : Rm A k' := ⟨by have := x.d; lia, by have := x.u; lia, x.h⟩
theorem Rm.deeper {A : Around} {k : Nat} {env : Env} (x : Rm A (k + 1)) : Rm (A.deeper env) k :=
  ⟨by have := x.d; show A.depth + 1 + k < _; lia, by have := x.u; show A.units + 3 + 8 * k < _; lia, x.h⟩

section
variable {w : World} {g : Heap} {L : Addr} {m : Str → Option Value} {R R' : Led} {r s s' : Shared}

theorem St.L_ne (S : St w g L m R r s) : ∃ o, s.heap.get? L = some o := let ⟨o, _, _, h, _⟩ := S.F.ns; ⟨o, h⟩

theorem St.X (S : St w g L m R r s) : (LX.hdC.heap_1 w.params).In g := S.base.X
theorem St.Xs (S : St w g L m R r s) : (LX.hdC.heap_1 w.params).In s.heap := S.base.X.keeps S.F.keep

theorem not_mem_of_N {g : Heap} {L : Addr} {h : Heap} {R : Led} (N : News g L h R) {a : Addr} {o : Obj} (e : g.get? a = some o) : a ∉ R.map (·.1) := fun q => by
  obtain ⟨p, hp, rfl⟩ := List.mem_map.mp q
  rw [(N p hp).2.2] at e; cases e

theorem St.hs (S : St w g L m R r s) : Hs w R s :=
  ⟨S.base.keeps fun a o e => hideAll_get _ (S.F.keep a o e) (not_mem_of_N S.N e), fun p hp => (S.N p hp).1, S.nd⟩

theorem St.call (S : St w g L m R r s) (e : Ef R s R' s') : St w g L m R' r s' := by
  have nL : L ∉ R.map (·.1) := fun q => by
    obtain ⟨p, hp, h⟩ := List.mem_map.mp q
    exact (S.N p hp).2.1 h
  obtain ⟨oL, es, ep, hL, hd⟩ := S.F.ns
  refine ⟨S.base, ⟨⟨oL, es, ep, e.keeps _ _ hL nL, hd⟩, fun b o q => e.keeps _ _ (S.F.keep b o q) (not_mem_of_N S.N q), S.F.above⟩, fun p hp => ⟨(e.led p hp).1, fun q => ?_, ?_⟩, e.nd,
    e.rest.1.trans S.rest.1, e.rest.2.1.trans S.rest.2.1, e.rest.2.2.trans S.rest.2.2⟩
  · rcases (e.led p hp).2 with h | h
    · exact nL (q ▸ h)
    · rw [q, hL] at h; cases h
  · rcases (e.led p hp).2 with h | h
    · obtain ⟨p', hp', h'⟩ := List.mem_map.mp h
      rw [← h']; exact (S.N p' hp').2.2
    · cases hq : g.get? p.1 with
      | none => rfl
      | some o => rw [S.F.keep _ _ hq] at h; cases h

theorem St.ef {s0 : Shared} (S : St w (hideAll s0.heap (R.map (·.1))) L m R' s0 s) : Ef R s0 R' s :=
  ⟨fun a o e n => S.F.keep a o (hideAll_get _ e n), by
      have h1 := S.F.above
      have h2 := S.F.ns.lt
      rw [hideAll_size] at h1
      exact Nat.le_trans h1 (Nat.le_of_lt h2),
    fun p hp => ⟨(S.N p hp).1, by
      by_cases hm : p.1 ∈ R.map (·.1)
      · exact .inl hm
      · refine .inr ?_
        cases hq : s0.heap.get? p.1 with
        | none => rfl
        | some o => have := (S.N p hp).2.2; rw [hideAll_get _ hq hm] at this; cases this⟩, S.nd, S.rest⟩

theorem St.tok (S : St w g L m R r s) (k : Nat) : St w g L m R r { s with toks := k } := ⟨S.base, S.F, S.N, S.nd, S.rest⟩
theorem St.heap {h : Heap} {m' : Str → Option Value} (S : St w g L m R r s) (k : Nat) (F : Fr g L h m') (N : News g L h R') (nd : (R'.map (·.1)).Nodup) : St w g L m' R' r { s with heap := h, toks := k } := ⟨S.base, F, N, nd, S.rest⟩

theorem Hs.tok (H : Hs w R s) (k : Nat) : Hs w R { s with toks := k } := ⟨H.base, H.led, H.nd⟩
theorem Ef.rfl' (H : Hs w R s) (k : Nat) : Ef R s R { s with toks := k } := ⟨fun _ _ e _ => e, Nat.le_refl _, fun p hp => ⟨H.led p hp, .inl (List.mem_map_of_mem hp)⟩, H.nd, rfl, rfl, rfl⟩
end

/-- a frame's names -/
noncomputable def Lm (l : List (Str × Value)) : Str → Option Value := fun y => l.lookup y

noncomputable def RetQ (Q : Value → Shared → Prop) (fl : Flow) (s' : Shared) : Prop := Q (match fl with | .ret v => v | _ => .none) s'

section
variable {w : World} {A : Around} {R : Led} {s : Shared} {Q E : Value → Shared → Prop} {k : Nat}
  {name qual : Str} {params : Arguments} {body : List Stmt} {scope : Scope} {dV kV doc pm cdv ct oc : Value} {an od : Option Addr} {osl : Array (Option Value)} {f : Addr} {args : List Value} {binds lb : List (Str × Value)}

/-- a def of the text's is called: its body, in a frame of its own -/
theorem enter (rm : Rm A (k + 1)) (H : Hs w R s)
    (ho : (LX.hdC.heap_1 w.params).lookup f = some ⟨oc, od, .func (fnOf name qual params body scope dV kV doc pm an cdv ct), osl⟩)
    (hcd : codeIn (LX.hdC.heap_1 w.params) cdv qual = true)
    (hbind : BindsTo s (fnOf name qual params body scope dV kV doc pm an cdv ct) ⟨args, []⟩ binds) (hloc : ∀ y ∈ binds, scope.names.lookup y.1 = some .local)
    (hcell : ∀ x ∈ scope.names, x.2 ≠ .cell) (hco : scope.isCoroutine = false) (hgen : scope.isGenerator = false) (hk : scope.kind = .function)
    (hlb : binds.reverse = lb)
    (h : ∀ L s1 E' A', St w (hideAll s.heap (R.map (·.1))) L (Lm lb) R s s1 → Rm A' k →
      wpAny (model PySem.Challenge.pw_nt0646_01 w) A' (execs body (envOf qual scope L f cdv)) (RetQ Q) E' s1) :
    wpAny (model PySem.Challenge.pw_nt0646_01 w) A (call (.ref f) args) Q E s := by
  obtain ⟨p, loose, mg, mb, T⟩ := H.base.T
  have hs : ∀ a o, (hideAll s.heap (R.map (·.1))).get? a = some o → s.heap.get? a = some o := fun a o e => of_hideAll _ e
  refine wpAny_call (codeAny_call_def (fd := fnOf name qual params body scope dV kV doc pm an cdv ct) (body := body) (binds := binds) (by have := rm.d; lia) ((H.base.X.keeps hs) _ _ ho) rfl (T.nolimit.keeps hs) (codeRec_of (H.base.X.keeps hs) hcd) rfl hbind hcell hloc (fun h₁ hns hk₁ => ?_) hco hgen hk)
  subst hlb
  refine wpAny_mono (h s.heap.objs.size { s with heap := h₁, toks := s.toks + binds.length } _ _ ⟨H.base, ⟨hns, fun b o e => hk₁ b o (hs b o e), Nat.le_of_eq (hideAll_size _ _)⟩, fun q hq => ⟨hk₁ _ _ (H.led q hq), Nat.ne_of_lt (Heap.lt_size (H.led q hq)), hideAll_none _ (List.mem_map_of_mem hq)⟩, H.nd, rfl, rfl, rfl⟩ rm.deeper)
    (fun fl s' hl => hl) (fun _ _ x => x)
end
/-- what stands behind a statement -/
noncomputable def SeqQ (M : Model) (A : Around) (ev : Env) (rest : List Stmt) (Q : Flow → Shared → Prop) (E : Value → Shared → Prop) : Flow → Shared → Prop :=
  fun f s' => match f with | .next => wpAny M A (execs rest ev) Q E s' | f => Q f s'

section
variable {M : Model} {A : Around} {E : Value → Shared → Prop} {s : Shared} {ev : Env} {rest : List Stmt} {Q : Flow → Shared → Prop}

theorem x_cons {st : Stmt} (h : wpAny M A (exec st ev) (SeqQ M A ev rest Q E) E s) : wpAny M A (execs (st :: rest) ev) Q E s := wpAny_execs_cons h
theorem x_nil (h : Q .next s) : wpAny M A (execs [] ev) Q E s := wpAny_execs_nil h
theorem x_nilq {ev' : Env} (h : wpAny M A (execs rest ev) Q E s) : wpAny M A (execs [] ev') (SeqQ M A ev rest Q E) E s := wpAny_execs_nil h
theorem x_assign {x p value pos} (h : wpAny M A (eval value ev) (fun v s₁ => wpAny M A (storeName ev x v) (fun _ s₂ => wpAny M A (execs rest ev) Q E s₂) E s₁) E s)
    (hs : swapsWith value (some (.Name x p)) pos.line ev = pure false := by rfl) : wpAny M A (execs (.Assign [.Name x p] value pos :: rest) ev) Q E s :=
  x_cons (wpAny_Assign_Name h hs)
theorem x_attr {o attr p value pos} (h : wpAny M A (eval value ev) (fun v s₁ => wpAny M A (eval o ev) (fun ov s₂ => wpAny M A (setAttr ov attr v) (fun _ s₃ => wpAny M A (execs rest ev) Q E s₃) E s₂) E s₁) E s)
    (hs : swapsWith value (some (.Attribute o attr p)) pos.line ev = pure false := by rfl) : wpAny M A (execs (.Assign [.Attribute o attr p] value pos :: rest) ev) Q E s :=
  x_cons (plainObj_wpAny_Assign_Attribute h hs)
theorem x_aug {x p op value pos} (h : wpAny M A (loadName ev x) (fun old s₁ => wpAny M A (eval value ev) (fun v s₂ => wpAny M A (inplaceOp op old v)
      (fun r s₃ => wpAny M A (storeName ev x r) (fun _ s₄ => wpAny M A (execs rest ev) Q E s₄) E s₃) E s₂) E s₁) E s) : wpAny M A (execs (.AugAssign (.Name x p) op value pos :: rest) ev) Q E s :=
  x_cons (wpAny_AugAssign_Name h)
theorem x_augattr {o attr p op value pos} (h : wpAny M A (eval o ev) (fun ov s₀ => wpAny M A (getAttr ov attr true) (fun old s₁ => wpAny M A (eval value ev) (fun v s₂ => wpAny M A (inplaceOp op old v)
      (fun r s₃ => wpAny M A (setAttr ov attr r) (fun _ s₄ => wpAny M A (execs rest ev) Q E s₄) E s₃) E s₂) E s₁) E s₀) E s) : wpAny M A (execs (.AugAssign (.Attribute o attr p) op value pos :: rest) ev) Q E s := by
  refine x_cons ?_
  rw [arm_exec_AugAssign_2]
  refine wpAny_bind (wpAny_standAt ?_)
  refine wpAny_bind (wpAny_mono h (fun ov s₀ h₀ => ?_) fun _ _ x => x)
  refine wpAny_bind (wpAny_holding (wpAny_bind (wpAny_standAt ?_)))
  refine wpAny_bind (wpAny_mono h₀ (fun old s₁ h₁ => ?_) fun _ _ x => x)
  refine wpAny_bind (wpAny_holding (wpAny_mono h₁ (fun v s₂ h₂ => ?_) fun _ _ x => x))
  refine wpAny_bind (wpAny_standAt (wpAny_operate' (wpAny_mono h₂ (fun r s₃ h₃ => ?_) fun _ _ x => x)))
  refine wpAny_bind (wpAny_standAt ?_)
  refine wpAny_bind (wpAny_holding (wpAny_mono h₃ (fun _ s₄ h₄ => ?_) fun _ _ x => x))
  exact wpAny_bind (wpAny_release' (wpAny_pure h₄))
noncomputable def isRef : Value → Bool | .ref _ => true | _ => false
theorem x_expr {e pos} (h : wpAny M A (eval e ev) (fun v s₁ => isRef v = false ∧ wpAny M A (execs rest ev) Q E s₁) E s)
    (hi : interactive ev = false := by rfl) (hs : swapsWith e none pos.line ev = pure false := by rfl) : wpAny M A (execs (.Expr e pos :: rest) ev) Q E s :=
  x_cons (wpAny_Expr (wpAny_mono h (fun v s₁ h₁ => by obtain ⟨a, b⟩ := h₁; cases v <;> first | exact b | cases a) fun _ _ x => x) hi hs)
theorem x_if {test body orelse pos}
    (h : wpAny M A (isTrue test ev (eval test ev)) (fun b s₂ => if b then wpAny M A (execs body ev) (SeqQ M A ev rest Q E) E s₂ else wpAny M A (execs orelse ev) (SeqQ M A ev rest Q E) E s₂) E s) :
    wpAny M A (execs (.If test body orelse pos :: rest) ev) Q E s := x_cons (wpAny_If h)
theorem x_ret {e pos} (h : wpAny M A (eval e ev) (fun v => Q (.ret v)) E s) : wpAny M A (execs (.Return (some e) pos :: rest) ev) Q E s :=
  x_cons (wpAny_Return_some (wpAny_mono h (fun _ _ x => x) fun _ _ x => x))
theorem x_ret0 {pos} (h : Q (.ret .none) s) : wpAny M A (execs (.Return none pos :: rest) ev) Q E s := x_cons (wpAny_Return_none h)
theorem x_pass {pos} (h : wpAny M A (execs rest ev) Q E s) : wpAny M A (execs (.Pass pos :: rest) ev) Q E s := x_cons (wpAny_Pass h)
theorem ite_t {p q : Prop} (h : p) : if true = true then p else q := by rw [if_pos rfl]; exact h
theorem ite_f {p q : Prop} (h : q) : if false = true then p else q := by rw [if_neg (by decide)]; exact h
theorem ite_d {c : Prop} [Decidable c] {p q : Prop} (h1 : c → p) (h2 : ¬ c → q) : if decide c = true then p else q := by
  by_cases h : c
  · rw [if_pos (decide_eq_true h)]; exact h1 h
  · rw [if_neg (by simp [h])]; exact h2 h
theorem ite_b {c : Bool} {p q : Prop} (h1 : c = true → p) (h2 : c = false → q) : if c = true then p else q := by
  cases c
  · rw [if_neg (by decide)]; exact h2 rfl
  · rw [if_pos rfl]; exact h1 rfl

theorem chain_lastE {pos : Pos} {a : Value} {op : CmpOp} {r : Sem Value} {Q : Value → Shared → Prop}
    (h : wpAny M A r (fun b s₁ => wpAny M A (compareOp op a b) Q E s₁) E s) : wpAny M A (compareChain pos a [op] (r :: evalEach [] ev)) Q E s := chain_last h
theorem test_lastE {pos : Pos} {a : Value} {op : CmpOp} {r : Sem Value} {Q : Bool → Shared → Prop}
    (h : wpAny M A r (fun b s₁ => wpAny M A (compareOp op a b) (fun c s₂ => wpAny M A (truthy c) Q E s₂) E s₁) E s) : wpAny M A (testChain pos a [op] (r :: evalEach [] ev)) Q E s := test_last h
/-- a while: an invariant and a measure -/
theorem x_while {prog : Program} {w : World} {A : Around} {E : Value → Shared → Prop} {s : Shared} {Q : Flow → Shared → Prop} {ev : Env} {rest : List Stmt} {test : Expr} {body : List Stmt} {pos : Pos}
    (I : Nat → Shared → Prop) (n : Nat) (h : I n s)
    (turn : ∀ n s E' (N : Shared → Prop), (∀ {s}, Nx I n s → N s) → I n s → wpAny (model prog w) A (isTrue test ev (eval test ev)) (fun b s₂ =>
      if b then wpAny (model prog w) A (execs body ev) (fun f s₃ => match f with
            | .next | .cont => N s₃
            | .brk => wpAny (model prog w) A (execs rest ev) Q E s₃
            | .ret v => Q (.ret v) s₃) E' s₂
      else wpAny (model prog w) A (execs rest ev) Q E s₂) E' s) :
    wpAny (model prog w) A (execs (.While test body [] pos :: rest) ev) Q E s := by
  refine x_cons (wpAny_While (codeAny_whileLoop I (fun n s hI => wpAny_mono (turn n s _ (Nx I n) (fun h => h) hI) (fun b s₂ h₂ => ?_) fun _ _ x => x) n h))
  cases b with
  | true => simp only [if_true] at h₂ ⊢; exact wpAny_mono h₂ (fun f s₃ h₃ => by cases f <;> first | exact h₃ | exact (let ⟨m, a, b⟩ := h₃; ⟨m, a, b⟩)) fun _ _ x => x
  | false => simp only [Bool.false_eq_true, if_false] at h₂ ⊢; exact wpAny_execs_nil h₂
end

theorem Lm_hit {x : Str} {v : Value} {l : List (Str × Value)} : Lm ((x, v) :: l) x = some v := by show List.lookup _ _ = _; rw [List.lookup_cons, beq_self_eq_true]
theorem Lm_miss {x y : Str} {v u : Value} {l : List (Str × Value)} (h : (x == y) = false) (e : Lm l x = some v) : Lm ((y, u) :: l) x = some v := by
  show List.lookup _ _ = _; rw [List.lookup_cons, h]; exact e
theorem Lm_store {x : Str} {v : Value} {l : List (Str × Value)} : (fun y => if y = x then some v else Lm l y) = Lm ((x, v) :: l) := by
  funext y
  show _ = List.lookup _ _
  rw [List.lookup_cons]
  by_cases h : y = x
  · subst h; simp
  · have : (y == x) = false := by simpa using h
    rw [if_neg h, this]; rfl

noncomputable abbrev pw := PySem.Challenge.pw_nt0646_01

/-- kinds of names, seen once -/
noncomputable def isLoc (cs : Scope) (x : Str) : Bool := cs.kind == .function && cs.names.lookup x == some .local && !(x == ("__debug__" : Str))
noncomputable def isGlb (cs : Scope) (x : Str) : Bool := cs.kind == .function && cs.names.lookup x == some .globalImplicit && !(x == ("__debug__" : Str))

section
variable {w : World} {g : Heap} {L : Addr} {l : List (Str × Value)} {R R' : Led} {r s : Shared} {A : Around} {E : Value → Shared → Prop} {cn : Str} {cs : Scope} {a : Addr} {ccd : Value} {x : Str} {pos : Pos} {v : Value}
  {Q : Value → Shared → Prop}

theorem isLoc_spec (h : isLoc cs x = true) : cs.kind = .function ∧ (envOf cn cs L a ccd).kindOf x = some .local ∧ (x == ("__debug__" : Str)) = false := by
  unfold isLoc at h
  simp only [Bool.and_eq_true, beq_iff_eq, Bool.not_eq_true', beq_eq_false_iff_ne] at h
  exact ⟨h.1.1, h.1.2, by simpa using h.2⟩
theorem isGlb_spec (h : isGlb cs x = true) : cs.kind = .function ∧ (envOf cn cs L a ccd).kindOf x = some .globalImplicit ∧ (x == ("__debug__" : Str)) = false := by
  unfold isGlb at h
  simp only [Bool.and_eq_true, beq_iff_eq, Bool.not_eq_true', beq_eq_false_iff_ne] at h
  exact ⟨h.1.1, h.1.2, by simpa using h.2⟩

theorem n_loc (S : St w g L (Lm l) R r s) (hl : isLoc cs x = true) (hv : Lm l x = some v) (h : Q v s) :
    wpAny (model pw w) A (eval (.Name x pos) (envOf cn cs L a ccd)) Q E s :=
  let ⟨h1, h2, h3⟩ := isLoc_spec (cn := cn) (L := L) (a := a) (ccd := ccd) hl
  ld S.F hv h h1 h2 h3
theorem n_ldn (S : St w g L (Lm l) R r s) (hl : isLoc cs x = true) (hv : Lm l x = some v) (h : Q v s) :
    wpAny (model pw w) A (loadName (envOf cn cs L a ccd) x) Q E s :=
  let ⟨h1, h2, _⟩ := isLoc_spec (cn := cn) (L := L) (a := a) (ccd := ccd) hl
  ldn S.F hv h h1 h2
theorem n_glb {m : Str → Option Value} (S : St w g L m R r s) (hl : isGlb cs x = true) (e : nsIn (LX.hdC.heap_1 w.params) mainGlobals x = some (some v)) (h : Q v s) :
    wpAny (model pw w) A (eval (.Name x pos) (envOf cn cs L a ccd)) Q E s :=
  let ⟨h1, h2, h3⟩ := isGlb_spec (cn := cn) (L := L) (a := a) (ccd := ccd) hl
  let ⟨_, _, _, _, T⟩ := S.base.T
  name_K S.F S.X T e h h1 h2 h3
theorem n_blt {m : Str → Option Value} (S : St w g L m R r s) (hl : isGlb cs x = true) (e : nsIn (LX.hdC.heap_1 w.params) mainGlobals x = some none) (hv : bootBuiltins x = some v) (hn : (x == ("__name__" : Str)) = false) (h : Q v s) :
    wpAny (model pw w) A (eval (.Name x pos) (envOf cn cs L a ccd)) Q E s :=
  let ⟨h1, h2, h3⟩ := isGlb_spec (cn := cn) (L := L) (a := a) (ccd := ccd) hl
  let ⟨_, _, _, _, T⟩ := S.base.T
  name_B S.F S.X T e hv (by simpa using hn) h h1 h2 h3
theorem n_store {Q : Unit → Shared → Prop} (S : St w g L (Lm l) R r s) (hl : isLoc cs x = true) (h : ∀ s', St w g L (Lm ((x, v) :: l)) R r s' → Q () s') :
    wpAny (model pw w) A (storeName (envOf cn cs L a ccd) x v) Q E s :=
  let ⟨h1, h2, _⟩ := isLoc_spec (cn := cn) (L := L) (a := a) (ccd := ccd) hl
  stN S.F S.N (fun h' F' N' => h _ (S.heap _ (Lm_store ▸ F') N' S.nd)) h1 h2
end
structure Lx where
  kt : Nat → Tok
  text : List UInt8
  ttext : Tok
  src : List UInt8
  tsrc : Tok
  chunk : List UInt8
  tchunk : Tok
  limits : Addr
  kinds : Addr
  at_ : Int
  tat : Tok
  sign : Int
  tsign : Tok
  line : Int
  tline : Tok
  last : Int
  tlast : Tok
  buffer : Addr
  current : Addr

noncomputable abbrev Lx.setAt (σ : Lx) (v : Int) (t : Tok) : Lx := { σ with at_ := v, tat := t }
noncomputable abbrev Lx.setSign (σ : Lx) (v : Int) (t : Tok) : Lx := { σ with sign := v, tsign := t }
noncomputable abbrev Lx.setLine (σ : Lx) (v : Int) (t : Tok) : Lx := { σ with line := v, tline := t }
noncomputable abbrev Lx.setLast (σ : Lx) (v : Int) (t : Tok) : Lx := { σ with last := v, tlast := t }
noncomputable abbrev Lx.setCur (σ : Lx) (c : Addr) : Lx := { σ with current := c }
noncomputable abbrev Lx.setBuf (σ : Lx) (b : Addr) : Lx := { σ with buffer := b }
noncomputable def en (P : Params) (x : Str) (t : Tok) (v : Value) : DictEntry := ⟨PyData.keyHash P x, .str x t, v⟩
noncomputable def lexEs (P : Params) (σ : Lx) : List DictEntry :=
  [en P "text" (σ.kt 0) (.bytes σ.text.toArray σ.ttext), en P "source" (σ.kt 1) (.bytes σ.src.toArray σ.tsrc), en P "chunk" (σ.kt 2) (.bytes σ.chunk.toArray σ.tchunk), en P "limits" (σ.kt 3) (.ref σ.limits),
   en P "kinds" (σ.kt 4) (.ref σ.kinds), en P "at" (σ.kt 5) (.int σ.at_ σ.tat), en P "sign" (σ.kt 6) (.int σ.sign σ.tsign), en P "line" (σ.kt 7) (.int σ.line σ.tline),
   en P "last_line" (σ.kt 8) (.int σ.last σ.tlast), en P "buffer" (σ.kt 9) (.ref σ.buffer), en P "current" (σ.kt 10) (.ref σ.current), en P "ahead" (σ.kt 11) .none]

noncomputable abbrev baObj (b : List UInt8) : Obj := { cls := .type "bytearray", data := .bytearray b.toArray }
/-- the lexer's own things -/
structure Id where
  x : Addr
  dx : Addr
  n : Nat
noncomputable def lexL (P : Params) (i : Id) (σ : Lx) (buf : List UInt8) (R : Led) : Led := (i.x, instObj 465 i.dx) :: (i.dx, dictOf (lexEs P σ) i.n) :: (σ.buffer, baObj buf) :: R

section
variable {P : Params} {σ : Lx}
theorem gl_everything : getL "text" (lexEs P σ) = some (some (.bytes σ.text.toArray σ.ttext)) ∧
    getL "chunk" (lexEs P σ) = some (some (.bytes σ.chunk.toArray σ.tchunk)) ∧
    getL "limits" (lexEs P σ) = some (some (.ref σ.limits)) ∧
    getL "kinds" (lexEs P σ) = some (some (.ref σ.kinds)) ∧
    getL "at" (lexEs P σ) = some (some (.int σ.at_ σ.tat)) ∧
    getL "sign" (lexEs P σ) = some (some (.int σ.sign σ.tsign)) ∧
    getL "line" (lexEs P σ) = some (some (.int σ.line σ.tline)) ∧
    getL "last_line" (lexEs P σ) = some (some (.int σ.last σ.tlast)) ∧
    getL "buffer" (lexEs P σ) = some (some (.ref σ.buffer)) ∧
    getL "current" (lexEs P σ) = some (some (.ref σ.current)) ∧
    getL "ahead" (lexEs P σ) = some (some .none) := by and_intros <;> kernel_rfl!
theorem gl_text : getL "text" (lexEs P σ) = some (some (.bytes σ.text.toArray σ.ttext)) := gl_everything.1
theorem gl_chunk : getL "chunk" (lexEs P σ) = some (some (.bytes σ.chunk.toArray σ.tchunk)) := gl_everything.2.1
theorem gl_limits : getL "limits" (lexEs P σ) = some (some (.ref σ.limits)) := gl_everything.2.2.1
theorem gl_kinds : getL "kinds" (lexEs P σ) = some (some (.ref σ.kinds)) := gl_everything.2.2.2.1
theorem gl_at : getL "at" (lexEs P σ) = some (some (.int σ.at_ σ.tat)) := gl_everything.2.2.2.2.1
theorem gl_sign : getL "sign" (lexEs P σ) = some (some (.int σ.sign σ.tsign)) := gl_everything.2.2.2.2.2.1
theorem gl_line : getL "line" (lexEs P σ) = some (some (.int σ.line σ.tline)) := gl_everything.2.2.2.2.2.2.1
theorem gl_last : getL "last_line" (lexEs P σ) = some (some (.int σ.last σ.tlast)) := gl_everything.2.2.2.2.2.2.2.1
theorem gl_buffer : getL "buffer" (lexEs P σ) = some (some (.ref σ.buffer)) := gl_everything.2.2.2.2.2.2.2.2.1
theorem gl_current : getL "current" (lexEs P σ) = some (some (.ref σ.current)) := gl_everything.2.2.2.2.2.2.2.2.2.1
theorem gl_ahead : getL "ahead" (lexEs P σ) = some (some .none) := gl_everything.2.2.2.2.2.2.2.2.2.2
end

section
variable {w : World} {g : Heap} {L : Addr} {l : List (Str × Value)} {m : Str → Option Value} {R R' : Led} {r s : Shared} {A : Around} {E : Value → Shared → Prop} {cn : Str} {cs : Scope} {a : Addr} {ccd : Value} {pos pos' : Pos} {v : Value}
  {Q : Value → Shared → Prop} {C x dx : Addr} {es es' : List DictEntry} {n n' : Nat} {nm : Str} {e : Bool}

theorem at_get (S : St w g L m R r s) (h1 : (x, instObj C dx) ∈ R) (h2 : (dx, dictOf es n) ∈ R) (hg : plainGet (LX.hdC.heap_1 w.params) C nm = true) (hh : hasDictIn (LX.hdC.heap_1 w.params) C = true)
    (ha : findIn (LX.hdC.heap_1 w.params) (.ref C) nm = some none) (hl : getL nm es = some (some v)) (hv : handedIn v = true) (h : ∀ s', St w g L m R r s' → Q v s') :
    wpAny (model pw w) A (getAttr (.ref x) nm e) Q E s :=
  get_own S.F S.X (InstAt.of_news S.N h1 h2) hg hh ha rfl hl hv (h _ (S.tok _))

theorem upd_nodup {d : Addr} {o o' : Obj} {R R' : Led} (U : Upd d o o' R R') : R'.map (·.1) = R.map (·.1) := by
  induction U with
  | head _ => rfl
  | tail _ _ ih => simp only [List.map_cons, ih]

theorem at_set {Q : Unit → Shared → Prop} (S : St w g L m R r s) (h1 : (x, instObj C dx) ∈ R) (h2 : (dx, dictOf es n) ∈ R)
    (hs : findIn (LX.hdC.heap_1 w.params) (.ref C) "__setattr__" = some (some (.builtin "object.__setattr__"))) (hp : plainOver (LX.hdC.heap_1 w.params) C = true) (ht : takerIn (LX.hdC.heap_1 w.params) C nm = some none)
    (hh : hasDictIn (LX.hdC.heap_1 w.params) C = true) (hl : (getL nm es).isSome = true)
    (e : ∀ t, (putL nm (PyData.keyHash w.params nm) (.str nm t) v es, putN nm es n) = (es', n')) (U : Upd dx (dictOf es n) (dictOf es' n') R R') (hz : es'.length ≤ 1000)
    (h : ∀ s', St w g L m R' r s' → Q () s') : wpAny (model pw w) A (setAttr (.ref x) nm v) Q E s :=
  set_dict S.F S.X S.N (InstAt.of_news S.N h1 h2) rfl hs hp ht hh hl (e _) U hz fun h' F' N' => h _ (S.heap _ F' N' ((congrArg List.Nodup (upd_nodup U)).mpr S.nd))

/-- the facts of the class, seen once -/
theorem cl_get (nm : Str) : plainGet (LX.hdC.heap_1 w.params) 465 nm = true := by show plainGet (LX.hdC.heap_1 w.params) 465 (Str.ofString "a") = true; kernel_rfl!
theorem cl_hasDict : hasDictIn (LX.hdC.heap_1 w.params) 465 = true := by kernel_rfl!
theorem cl_setattr : findIn (LX.hdC.heap_1 w.params) (.ref 465) "__setattr__" = some (some (.builtin "object.__setattr__")) := by kernel_rfl!
theorem cl_plainOver : plainOver (LX.hdC.heap_1 w.params) 465 = true := by kernel_rfl!
noncomputable def noCls (w : World) (nm : Str) : Prop := findIn (LX.hdC.heap_1 w.params) (.ref 465) nm = some none
noncomputable def noTaker (w : World) (nm : Str) : Prop := takerIn (LX.hdC.heap_1 w.params) 465 nm = some none
theorem nc_all : ((["text", "chunk", "limits", "kinds", "at", "sign", "line", "last_line", "buffer", "current", "ahead"] : List Str).all fun nm => findIn (LX.hdC.heap_1 w.params) (.ref 465) nm == some none) = true := by kernel_rfl!
theorem nc_text : noCls w "text" := beq_iff_eq.mp (List.all_eq_true.mp nc_all _ (.head _))
theorem nc_chunk : noCls w "chunk" := beq_iff_eq.mp (List.all_eq_true.mp nc_all _ (.tail _ (.head _)))
theorem nc_limits : noCls w "limits" := beq_iff_eq.mp (List.all_eq_true.mp nc_all _ (.tail _ (.tail _ (.head _))))
theorem nc_kinds : noCls w "kinds" := beq_iff_eq.mp (List.all_eq_true.mp nc_all _ (.tail _ (.tail _ (.tail _ (.head _)))))
theorem nc_at : noCls w "at" := beq_iff_eq.mp (List.all_eq_true.mp nc_all _ (.tail _ (.tail _ (.tail _ (.tail _ (.head _))))))
theorem nc_sign : noCls w "sign" := beq_iff_eq.mp (List.all_eq_true.mp nc_all _ (.tail _ (.tail _ (.tail _ (.tail _ (.tail _ (.head _)))))))
theorem nc_line : noCls w "line" := beq_iff_eq.mp (List.all_eq_true.mp nc_all _ (.tail _ (.tail _ (.tail _ (.tail _ (.tail _ (.tail _ (.head _))))))))
theorem nc_last : noCls w "last_line" := beq_iff_eq.mp (List.all_eq_true.mp nc_all _ (.tail _ (.tail _ (.tail _ (.tail _ (.tail _ (.tail _ (.tail _ (.head _)))))))))
theorem nc_buffer : noCls w "buffer" := beq_iff_eq.mp (List.all_eq_true.mp nc_all _ (.tail _ (.tail _ (.tail _ (.tail _ (.tail _ (.tail _ (.tail _ (.tail _ (.head _))))))))))
theorem nc_current : noCls w "current" := beq_iff_eq.mp (List.all_eq_true.mp nc_all _ (.tail _ (.tail _ (.tail _ (.tail _ (.tail _ (.tail _ (.tail _ (.tail _ (.tail _ (.head _)))))))))))
theorem nc_ahead : noCls w "ahead" := beq_iff_eq.mp (List.all_eq_true.mp nc_all _ (.tail _ (.tail _ (.tail _ (.tail _ (.tail _ (.tail _ (.tail _ (.tail _ (.tail _ (.tail _ (.head _))))))))))))
theorem nt_all : ((["at", "sign", "line", "last_line", "buffer", "current", "ahead"] : List Str).all fun nm => takerIn (LX.hdC.heap_1 w.params) 465 nm == some none) = true := by kernel_rfl!
theorem nt_at : noTaker w "at" := beq_iff_eq.mp (List.all_eq_true.mp nt_all _ (.head _))
theorem nt_sign : noTaker w "sign" := beq_iff_eq.mp (List.all_eq_true.mp nt_all _ (.tail _ (.head _)))
theorem nt_line : noTaker w "line" := beq_iff_eq.mp (List.all_eq_true.mp nt_all _ (.tail _ (.tail _ (.head _))))
theorem nt_last : noTaker w "last_line" := beq_iff_eq.mp (List.all_eq_true.mp nt_all _ (.tail _ (.tail _ (.tail _ (.head _)))))
theorem nt_buffer : noTaker w "buffer" := beq_iff_eq.mp (List.all_eq_true.mp nt_all _ (.tail _ (.tail _ (.tail _ (.tail _ (.head _))))))
theorem nt_current : noTaker w "current" := beq_iff_eq.mp (List.all_eq_true.mp nt_all _ (.tail _ (.tail _ (.tail _ (.tail _ (.tail _ (.head _)))))))
theorem nt_ahead : noTaker w "ahead" := beq_iff_eq.mp (List.all_eq_true.mp nt_all _ (.tail _ (.tail _ (.tail _ (.tail _ (.tail _ (.tail _ (.head _))))))))

variable {i : Id} {σ : Lx} {buf : List UInt8}
/-- self.nm, read -/
theorem lx_get (S : St w g L m (lexL w.params i σ buf R) r s) (ha : noCls w nm) (hl : getL nm (lexEs w.params σ) = some (some v)) (hv : handedIn v = true)
    (h : ∀ s', St w g L m (lexL w.params i σ buf R) r s' → Q v s') : wpAny (model pw w) A (getAttr (.ref i.x) nm e) Q E s :=
  at_get S (.head _) (.tail _ (.head _)) (cl_get nm) cl_hasDict ha hl hv h

theorem lexL_ne {P : Params} (nd : ((lexL P i σ buf R).map (·.1)).Nodup) : i.x ≠ i.dx ∧ i.x ≠ σ.buffer ∧ i.dx ≠ σ.buffer ∧ (∀ p ∈ R, p.1 ≠ i.x ∧ p.1 ≠ i.dx ∧ p.1 ≠ σ.buffer) := by
  simp only [lexL, List.map_cons, List.nodup_cons, List.mem_cons, not_or] at nd
  refine ⟨nd.1.1, nd.1.2.1, nd.2.1.1, fun p hp => ⟨?_, ?_, ?_⟩⟩
  · intro e; exact nd.1.2.2 (e ▸ List.mem_map_of_mem hp)
  · intro e; exact nd.2.1.2 (e ▸ List.mem_map_of_mem hp)
  · intro e; exact nd.2.2.1 (e ▸ List.mem_map_of_mem hp)

/-- self.nm, stored: the other things stay -/
theorem lx_set {σ' : Lx} {Q : Unit → Shared → Prop} (S : St w g L m (lexL w.params i σ buf R) r s) (ht : noTaker w nm) (hl : (getL nm (lexEs w.params σ)).isSome = true)
    (e : ∀ t n, (putL nm (PyData.keyHash w.params nm) (.str nm t) v (lexEs w.params σ), putN nm (lexEs w.params σ) n) = (lexEs w.params σ', n)) (hb : σ'.buffer = σ.buffer)
    (h : ∀ s', St w g L m (lexL w.params i σ' buf R) r s' → Q () s') : wpAny (model pw w) A (setAttr (.ref i.x) nm v) Q E s := by
  obtain ⟨h1, h2, h3, h4⟩ := lexL_ne S.nd
  refine at_set S (.head _) (.tail _ (.head _)) cl_setattr cl_plainOver ht cl_hasDict hl (fun t => e t i.n) (R' := lexL w.params i σ' buf R) ?_ (by show 12 ≤ 1000; decide) h
  unfold lexL
  rw [hb]
  exact .tail h1 (.head fun p hp => by
    rcases List.mem_cons.mp hp with rfl | hp
    · exact Ne.symm h3
    · exact (h4 p hp).2.1)

theorem sp_at {P : Params} {σ : Lx} {v : Int} {t : Tok} : ∀ u n, (putL "at" (PyData.keyHash P "at") (.str "at" u) (.int v t) (lexEs P σ), putN "at" (lexEs P σ) n) = (lexEs P (σ.setAt v t), n) := fun u n => by kernel_rfl!
theorem sp_sign {P : Params} {σ : Lx} {v : Int} {t : Tok} : ∀ u n, (putL "sign" (PyData.keyHash P "sign") (.str "sign" u) (.int v t) (lexEs P σ), putN "sign" (lexEs P σ) n) = (lexEs P (σ.setSign v t), n) := fun u n => by kernel_rfl!
theorem sp_line {P : Params} {σ : Lx} {v : Int} {t : Tok} : ∀ u n, (putL "line" (PyData.keyHash P "line") (.str "line" u) (.int v t) (lexEs P σ), putN "line" (lexEs P σ) n) = (lexEs P (σ.setLine v t), n) := fun u n => by kernel_rfl!
theorem sp_last {P : Params} {σ : Lx} {v : Int} {t : Tok} : ∀ u n, (putL "last_line" (PyData.keyHash P "last_line") (.str "last_line" u) (.int v t) (lexEs P σ), putN "last_line" (lexEs P σ) n) = (lexEs P (σ.setLast v t), n) := fun u n => by kernel_rfl!
theorem sp_current {P : Params} {σ : Lx} {c : Addr} : ∀ u n, (putL "current" (PyData.keyHash P "current") (.str "current" u) (.ref c) (lexEs P σ), putN "current" (lexEs P σ) n) = (lexEs P (σ.setCur c), n) := fun u n => by kernel_rfl!
theorem sp_ahead {P : Params} {σ : Lx} : ∀ u n, (putL "ahead" (PyData.keyHash P "ahead") (.str "ahead" u) .none (lexEs P σ), putN "ahead" (lexEs P σ) n) = (lexEs P σ, n) := fun u n => by kernel_rfl!
end
noncomputable def GV : List (Str × Value) := [(Str.ofString "_wall", (.ref 21 : Value)),
  (Str.ofString "BLANKS", (.bytes #[32, 9, 10, 11, 12, 13] 196 : Value)),
  (Str.ofString "Limits", (.ref 53 : Value)),
  (Str.ofString "LuaError", (.ref 74 : Value)),
  (Str.ofString "LuaSyntaxError", (.ref 87 : Value)),
  (Str.ofString "is_number", (.ref 96 : Value)),
  (Str.ofString "wrap", (.ref 103 : Value)),
  (Str.ofString "is_blank", (.ref 210 : Value)),
  (Str.ofString "is_blank_values", (.ref 110 : Value)),
  (Str.ofString "digit_of", (.ref 117 : Value)),
  (Str.ofString "read_digits", (.ref 124 : Value)),
  (Str.ofString "skip_blanks", (.ref 131 : Value)),
  (Str.ofString "str_to_number", (.ref 138 : Value)),
  (Str.ofString "text_in_base", (.ref 145 : Value)),
  (Str.ofString "number_text", (.ref 152 : Value)),
  (Str.ofString "to_text", (.ref 159 : Value)),
  (Str.ofString "c_text", (.ref 166 : Value)),
  (Str.ofString "first_line", (.ref 173 : Value)),
  (Str.ofString "chunk_id", (.ref 180 : Value)),
  (Str.ofString "END_OF_TEXT", (.int (-1) 433 : Value)),
  (Str.ofString "FIRST_RESERVED", (.int 257 435 : Value)),
  (Str.ofString "RESERVED", (.ref 181 : Value)),
  (Str.ofString "TK_NIL", (.int 269 459 : Value)),
  (Str.ofString "TK_WHILE", (.int 277 461 : Value)),
  (Str.ofString "TK_CONCAT", (.int 278 463 : Value)),
  (Str.ofString "TK_DOTS", (.int 279 465 : Value)),
  (Str.ofString "TK_EQ", (.int 280 467 : Value)),
  (Str.ofString "TK_GE", (.int 281 469 : Value)),
  (Str.ofString "TK_LE", (.int 282 471 : Value)),
  (Str.ofString "TK_NE", (.int 283 473 : Value)),
  (Str.ofString "TK_NUMBER", (.int 284 475 : Value)),
  (Str.ofString "TK_NAME", (.int 285 477 : Value)),
  (Str.ofString "TK_STRING", (.int 286 479 : Value)),
  (Str.ofString "TK_EOS", (.int 287 481 : Value)),
  (Str.ofString "OTHER_TEXTS", (.ref 182 : Value)),
  (Str.ofString "SOURCE_SIZE", (.int 80 494 : Value)),
  (Str.ofString "MOST_LINES", (.int 2147483645 496 : Value)),
  (Str.ofString "NEWLINE", (.int 10 498 : Value)),
  (Str.ofString "RETURN", (.int 13 500 : Value)),
  (Str.ofString "QUOTE_DOUBLE", (.int 34 502 : Value)),
  (Str.ofString "QUOTE_SINGLE", (.int 39 504 : Value)),
  (Str.ofString "PLUS", (.int 43 506 : Value)),
  (Str.ofString "MINUS", (.int 45 508 : Value)),
  (Str.ofString "DOT", (.int 46 510 : Value)),
  (Str.ofString "LESS", (.int 60 512 : Value)),
  (Str.ofString "EQUALS", (.int 61 514 : Value)),
  (Str.ofString "GREATER", (.int 62 516 : Value)),
  (Str.ofString "BRACKET_OPEN", (.int 91 518 : Value)),
  (Str.ofString "BACKSLASH", (.int 92 520 : Value)),
  (Str.ofString "BRACKET_CLOSE", (.int 93 522 : Value)),
  (Str.ofString "UNDERSCORE", (.int 95 524 : Value)),
  (Str.ofString "TILDE", (.int 126 526 : Value)),
  (Str.ofString "is_digit", (.ref 189 : Value)),
  (Str.ofString "is_letter", (.ref 196 : Value)),
  (Str.ofString "is_name_sign", (.ref 203 : Value)),
  (Str.ofString "is_blank_lexer", (.ref 210 : Value)),
  (Str.ofString "is_control", (.ref 217 : Value)),
  (Str.ofString "is_newline", (.ref 224 : Value)),
  (Str.ofString "escaped_sign", (.ref 231 : Value)),
  (Str.ofString "reserved_kinds", (.ref 238 : Value)),
  (Str.ofString "token_text", (.ref 245 : Value)),
  (Str.ofString "Token", (.ref 262 : Value)),
  (Str.ofString "Lexer", (.ref 465 : Value)),
  (Str.ofString "all_tokens", (.ref 476 : Value)),
  (Str.ofString "_law_gaps", (.ref 483 : Value)),
  (Str.ofString "_law_signs", (.ref 490 : Value)),
  (Str.ofString "_law_digits", (.ref 497 : Value)),
  (Str.ofString "_law_octets", (.ref 504 : Value)),
  (Str.ofString "_law_text", (.ref 511 : Value)),
  (Str.ofString "_law_token", (.ref 518 : Value)),
  (Str.ofString "_law_is_word", (.ref 525 : Value)),
  (Str.ofString "_law_is_apart", (.ref 532 : Value)),
  (Str.ofString "_law_is_refused", (.ref 539 : Value)),
  (Str.ofString "law", (.ref 544 : Value))]
section
variable {w : World}
theorem glob_all : (GV.all fun p => nsIn (LX.hdC.heap_1 w.params) mainGlobals p.1 == some (some p.2)) = true := by kernel_rfl!
theorem glob_ix {x : Str} {v : Value} (n : Nat) (h : GV[n]? = some (x, v)) : nsIn (LX.hdC.heap_1 w.params) mainGlobals x = some (some v) := beq_iff_eq.mp (List.all_eq_true.mp glob_all _ (List.mem_of_getElem? h))
theorem G_BLANKS : nsIn (LX.hdC.heap_1 w.params) mainGlobals "BLANKS" = some (some (.bytes #[32, 9, 10, 11, 12, 13] 196)) := glob_ix 1 rfl
theorem G_Limits : nsIn (LX.hdC.heap_1 w.params) mainGlobals "Limits" = some (some (.ref 53)) := glob_ix 2 rfl
theorem G_LuaSyntaxError : nsIn (LX.hdC.heap_1 w.params) mainGlobals "LuaSyntaxError" = some (some (.ref 87)) := glob_ix 4 rfl
theorem G_is_number : nsIn (LX.hdC.heap_1 w.params) mainGlobals "is_number" = some (some (.ref 96)) := glob_ix 5 rfl
theorem G_wrap : nsIn (LX.hdC.heap_1 w.params) mainGlobals "wrap" = some (some (.ref 103)) := glob_ix 6 rfl
theorem G_is_blank_values : nsIn (LX.hdC.heap_1 w.params) mainGlobals "is_blank_values" = some (some (.ref 110)) := glob_ix 8 rfl
theorem G_digit_of : nsIn (LX.hdC.heap_1 w.params) mainGlobals "digit_of" = some (some (.ref 117)) := glob_ix 9 rfl
theorem G_read_digits : nsIn (LX.hdC.heap_1 w.params) mainGlobals "read_digits" = some (some (.ref 124)) := glob_ix 10 rfl
theorem G_skip_blanks : nsIn (LX.hdC.heap_1 w.params) mainGlobals "skip_blanks" = some (some (.ref 131)) := glob_ix 11 rfl
theorem G_str_to_number : nsIn (LX.hdC.heap_1 w.params) mainGlobals "str_to_number" = some (some (.ref 138)) := glob_ix 12 rfl
theorem G_text_in_base : nsIn (LX.hdC.heap_1 w.params) mainGlobals "text_in_base" = some (some (.ref 145)) := glob_ix 13 rfl
theorem G_number_text : nsIn (LX.hdC.heap_1 w.params) mainGlobals "number_text" = some (some (.ref 152)) := glob_ix 14 rfl
theorem G_to_text : nsIn (LX.hdC.heap_1 w.params) mainGlobals "to_text" = some (some (.ref 159)) := glob_ix 15 rfl
theorem G_c_text : nsIn (LX.hdC.heap_1 w.params) mainGlobals "c_text" = some (some (.ref 166)) := glob_ix 16 rfl
theorem G_chunk_id : nsIn (LX.hdC.heap_1 w.params) mainGlobals "chunk_id" = some (some (.ref 180)) := glob_ix 18 rfl
theorem G_END_OF_TEXT : nsIn (LX.hdC.heap_1 w.params) mainGlobals "END_OF_TEXT" = some (some (.int (-1) 433)) := glob_ix 19 rfl
theorem G_FIRST_RESERVED : nsIn (LX.hdC.heap_1 w.params) mainGlobals "FIRST_RESERVED" = some (some (.int 257 435)) := glob_ix 20 rfl
theorem G_RESERVED : nsIn (LX.hdC.heap_1 w.params) mainGlobals "RESERVED" = some (some (.ref 181)) := glob_ix 21 rfl
theorem G_TK_NIL : nsIn (LX.hdC.heap_1 w.params) mainGlobals "TK_NIL" = some (some (.int 269 459)) := glob_ix 22 rfl
theorem G_TK_WHILE : nsIn (LX.hdC.heap_1 w.params) mainGlobals "TK_WHILE" = some (some (.int 277 461)) := glob_ix 23 rfl
theorem G_TK_CONCAT : nsIn (LX.hdC.heap_1 w.params) mainGlobals "TK_CONCAT" = some (some (.int 278 463)) := glob_ix 24 rfl
theorem G_TK_DOTS : nsIn (LX.hdC.heap_1 w.params) mainGlobals "TK_DOTS" = some (some (.int 279 465)) := glob_ix 25 rfl
theorem G_TK_EQ : nsIn (LX.hdC.heap_1 w.params) mainGlobals "TK_EQ" = some (some (.int 280 467)) := glob_ix 26 rfl
theorem G_TK_GE : nsIn (LX.hdC.heap_1 w.params) mainGlobals "TK_GE" = some (some (.int 281 469)) := glob_ix 27 rfl
theorem G_TK_LE : nsIn (LX.hdC.heap_1 w.params) mainGlobals "TK_LE" = some (some (.int 282 471)) := glob_ix 28 rfl
theorem G_TK_NE : nsIn (LX.hdC.heap_1 w.params) mainGlobals "TK_NE" = some (some (.int 283 473)) := glob_ix 29 rfl
theorem G_TK_NUMBER : nsIn (LX.hdC.heap_1 w.params) mainGlobals "TK_NUMBER" = some (some (.int 284 475)) := glob_ix 30 rfl
theorem G_TK_NAME : nsIn (LX.hdC.heap_1 w.params) mainGlobals "TK_NAME" = some (some (.int 285 477)) := glob_ix 31 rfl
theorem G_TK_STRING : nsIn (LX.hdC.heap_1 w.params) mainGlobals "TK_STRING" = some (some (.int 286 479)) := glob_ix 32 rfl
theorem G_TK_EOS : nsIn (LX.hdC.heap_1 w.params) mainGlobals "TK_EOS" = some (some (.int 287 481)) := glob_ix 33 rfl
theorem G_OTHER_TEXTS : nsIn (LX.hdC.heap_1 w.params) mainGlobals "OTHER_TEXTS" = some (some (.ref 182)) := glob_ix 34 rfl
theorem G_SOURCE_SIZE : nsIn (LX.hdC.heap_1 w.params) mainGlobals "SOURCE_SIZE" = some (some (.int 80 494)) := glob_ix 35 rfl
theorem G_MOST_LINES : nsIn (LX.hdC.heap_1 w.params) mainGlobals "MOST_LINES" = some (some (.int 2147483645 496)) := glob_ix 36 rfl
theorem G_NEWLINE : nsIn (LX.hdC.heap_1 w.params) mainGlobals "NEWLINE" = some (some (.int 10 498)) := glob_ix 37 rfl
theorem G_RETURN : nsIn (LX.hdC.heap_1 w.params) mainGlobals "RETURN" = some (some (.int 13 500)) := glob_ix 38 rfl
theorem G_QUOTE_DOUBLE : nsIn (LX.hdC.heap_1 w.params) mainGlobals "QUOTE_DOUBLE" = some (some (.int 34 502)) := glob_ix 39 rfl
theorem G_QUOTE_SINGLE : nsIn (LX.hdC.heap_1 w.params) mainGlobals "QUOTE_SINGLE" = some (some (.int 39 504)) := glob_ix 40 rfl
theorem G_MINUS : nsIn (LX.hdC.heap_1 w.params) mainGlobals "MINUS" = some (some (.int 45 508)) := glob_ix 42 rfl
theorem G_DOT : nsIn (LX.hdC.heap_1 w.params) mainGlobals "DOT" = some (some (.int 46 510)) := glob_ix 43 rfl
theorem G_LESS : nsIn (LX.hdC.heap_1 w.params) mainGlobals "LESS" = some (some (.int 60 512)) := glob_ix 44 rfl
theorem G_EQUALS : nsIn (LX.hdC.heap_1 w.params) mainGlobals "EQUALS" = some (some (.int 61 514)) := glob_ix 45 rfl
theorem G_GREATER : nsIn (LX.hdC.heap_1 w.params) mainGlobals "GREATER" = some (some (.int 62 516)) := glob_ix 46 rfl
theorem G_BRACKET_OPEN : nsIn (LX.hdC.heap_1 w.params) mainGlobals "BRACKET_OPEN" = some (some (.int 91 518)) := glob_ix 47 rfl
theorem G_BACKSLASH : nsIn (LX.hdC.heap_1 w.params) mainGlobals "BACKSLASH" = some (some (.int 92 520)) := glob_ix 48 rfl
theorem G_BRACKET_CLOSE : nsIn (LX.hdC.heap_1 w.params) mainGlobals "BRACKET_CLOSE" = some (some (.int 93 522)) := glob_ix 49 rfl
theorem G_UNDERSCORE : nsIn (LX.hdC.heap_1 w.params) mainGlobals "UNDERSCORE" = some (some (.int 95 524)) := glob_ix 50 rfl
theorem G_TILDE : nsIn (LX.hdC.heap_1 w.params) mainGlobals "TILDE" = some (some (.int 126 526)) := glob_ix 51 rfl
theorem G_is_digit : nsIn (LX.hdC.heap_1 w.params) mainGlobals "is_digit" = some (some (.ref 189)) := glob_ix 52 rfl
theorem G_is_letter : nsIn (LX.hdC.heap_1 w.params) mainGlobals "is_letter" = some (some (.ref 196)) := glob_ix 53 rfl
theorem G_is_name_sign : nsIn (LX.hdC.heap_1 w.params) mainGlobals "is_name_sign" = some (some (.ref 203)) := glob_ix 54 rfl
theorem G_is_blank_lexer : nsIn (LX.hdC.heap_1 w.params) mainGlobals "is_blank_lexer" = some (some (.ref 210)) := glob_ix 55 rfl
theorem G_is_newline : nsIn (LX.hdC.heap_1 w.params) mainGlobals "is_newline" = some (some (.ref 224)) := glob_ix 57 rfl
theorem G_escaped_sign : nsIn (LX.hdC.heap_1 w.params) mainGlobals "escaped_sign" = some (some (.ref 231)) := glob_ix 58 rfl
theorem G_reserved_kinds : nsIn (LX.hdC.heap_1 w.params) mainGlobals "reserved_kinds" = some (some (.ref 238)) := glob_ix 59 rfl
theorem G_token_text : nsIn (LX.hdC.heap_1 w.params) mainGlobals "token_text" = some (some (.ref 245)) := glob_ix 60 rfl
theorem G_Token : nsIn (LX.hdC.heap_1 w.params) mainGlobals "Token" = some (some (.ref 262)) := glob_ix 61 rfl
theorem G_Lexer : nsIn (LX.hdC.heap_1 w.params) mainGlobals "Lexer" = some (some (.ref 465)) := glob_ix 62 rfl
theorem G_all_tokens : nsIn (LX.hdC.heap_1 w.params) mainGlobals "all_tokens" = some (some (.ref 476)) := glob_ix 63 rfl
theorem G__law_gaps : nsIn (LX.hdC.heap_1 w.params) mainGlobals "_law_gaps" = some (some (.ref 483)) := glob_ix 64 rfl
theorem G__law_signs : nsIn (LX.hdC.heap_1 w.params) mainGlobals "_law_signs" = some (some (.ref 490)) := glob_ix 65 rfl
theorem G__law_digits : nsIn (LX.hdC.heap_1 w.params) mainGlobals "_law_digits" = some (some (.ref 497)) := glob_ix 66 rfl
theorem G__law_octets : nsIn (LX.hdC.heap_1 w.params) mainGlobals "_law_octets" = some (some (.ref 504)) := glob_ix 67 rfl
theorem G__law_text : nsIn (LX.hdC.heap_1 w.params) mainGlobals "_law_text" = some (some (.ref 511)) := glob_ix 68 rfl
theorem G__law_token : nsIn (LX.hdC.heap_1 w.params) mainGlobals "_law_token" = some (some (.ref 518)) := glob_ix 69 rfl
theorem G__law_is_word : nsIn (LX.hdC.heap_1 w.params) mainGlobals "_law_is_word" = some (some (.ref 525)) := glob_ix 70 rfl
theorem G__law_is_apart : nsIn (LX.hdC.heap_1 w.params) mainGlobals "_law_is_apart" = some (some (.ref 532)) := glob_ix 71 rfl
theorem G__law_is_refused : nsIn (LX.hdC.heap_1 w.params) mainGlobals "_law_is_refused" = some (some (.ref 539)) := glob_ix 72 rfl
theorem G_law : nsIn (LX.hdC.heap_1 w.params) mainGlobals "law" = some (some (.ref 544)) := glob_ix 73 rfl
noncomputable def BV : List Str := ["len", "abs", "repr", "enumerate", "range", "isinstance", "int", "bool", "bytes", "bytearray", "max", "Exception"]
theorem blt_all : (BV.all fun x => nsIn (LX.hdC.heap_1 w.params) mainGlobals x == some none) = true := by kernel_rfl!
theorem blt_ix {x : Str} (n : Nat) (h : BV[n]? = some x) : nsIn (LX.hdC.heap_1 w.params) mainGlobals x = some none := beq_iff_eq.mp (List.all_eq_true.mp blt_all _ (List.mem_of_getElem? h))
theorem B_len : nsIn (LX.hdC.heap_1 w.params) mainGlobals "len" = some none := blt_ix 0 rfl
theorem B_abs : nsIn (LX.hdC.heap_1 w.params) mainGlobals "abs" = some none := blt_ix 1 rfl
theorem B_repr : nsIn (LX.hdC.heap_1 w.params) mainGlobals "repr" = some none := blt_ix 2 rfl
theorem B_enumerate : nsIn (LX.hdC.heap_1 w.params) mainGlobals "enumerate" = some none := blt_ix 3 rfl
theorem B_range : nsIn (LX.hdC.heap_1 w.params) mainGlobals "range" = some none := blt_ix 4 rfl
theorem B_isinstance : nsIn (LX.hdC.heap_1 w.params) mainGlobals "isinstance" = some none := blt_ix 5 rfl
theorem B_int : nsIn (LX.hdC.heap_1 w.params) mainGlobals "int" = some none := blt_ix 6 rfl
theorem B_bool : nsIn (LX.hdC.heap_1 w.params) mainGlobals "bool" = some none := blt_ix 7 rfl
theorem B_bytes : nsIn (LX.hdC.heap_1 w.params) mainGlobals "bytes" = some none := blt_ix 8 rfl
theorem B_bytearray : nsIn (LX.hdC.heap_1 w.params) mainGlobals "bytearray" = some none := blt_ix 9 rfl
theorem B_max : nsIn (LX.hdC.heap_1 w.params) mainGlobals "max" = some none := blt_ix 10 rfl
theorem B_Exception : nsIn (LX.hdC.heap_1 w.params) mainGlobals "Exception" = some none := blt_ix 11 rfl
end
section
variable {w : World} {g : Heap} {L : Addr} {l : List (Str × Value)} {m : Str → Option Value} {R R' : Led} {r s : Shared} {A : Around} {E : Value → Shared → Prop} {cn : Str} {cs : Scope} {a : Addr} {ccd : Value} {pos pos' p1 p2 : Pos} {v : Value}
  {Q : Value → Shared → Prop} {i : Id} {σ : Lx} {buf : List UInt8} {nm x : Str} {ev : Env} {T T' : Tok} {c d : Int}

/-- any step that only draws tokens -/
theorem e_int {k} (S : St w g L m R r s) (h : ∀ s', St w g L m R r s' → ∀ t, Q (.int c t) s') : wpAny (model pw w) A (eval (.Constant (.int c) k pos) ev) Q E s :=
  by with_reducible exact wpAny_Constant_int (h _ (S.tok _) _)
theorem e_bytes {k} {b : List UInt8} (S : St w g L m R r s) (h : ∀ s', St w g L m R r s' → ∀ t, Q (.bytes b.toArray t) s') : wpAny (model pw w) A (eval (.Constant (.bytes b) k pos) ev) Q E s :=
  by with_reducible exact Constant_bytes (h _ (S.tok _) _)

/-- self.nm -/
theorem e_self (S : St w g L (Lm l) (lexL w.params i σ buf R) r s) (hl : isLoc cs "self" = true) (hx : Lm l "self" = some (.ref i.x)) (ha : noCls w nm) (hg : getL nm (lexEs w.params σ) = some (some v)) (hv : handedIn v = true)
    (h : ∀ s', St w g L (Lm l) (lexL w.params i σ buf R) r s' → Q v s') : wpAny (model pw w) A (eval (.Attribute (.Name "self" p1) nm p2) (envOf cn cs L a ccd)) Q E s :=
  by with_reducible exact Attribute_Name_ (n_loc S hl hx (lx_get S ha hg hv h)) (by with_unfolding_all rfl)

/-- int arithmetic and comparison -/
theorem o_add (S : St w g L m R r s) (h : ∀ s', St w g L m R r s' → ∀ t, Q (.int (c + d) t) s') : wpAny (model pw w) A (binaryOp .Add (.int c T) (.int d T')) Q E s := by with_reducible exact PyProof.Rows.add_int (h _ (S.tok _) _)
theorem o_iadd (S : St w g L m R r s) (h : ∀ s', St w g L m R r s' → ∀ t, Q (.int (c + d) t) s') : wpAny (model pw w) A (inplaceOp .Add (.int c T) (.int d T')) Q E s := by with_reducible exact PyProof.Rows.iadd_int (h _ (S.tok _) _)
theorem o_sub (S : St w g L m R r s) (h : ∀ s', St w g L m R r s' → ∀ t, Q (.int (c - d) t) s') : wpAny (model pw w) A (binaryOp .Sub (.int c T) (.int d T')) Q E s := by with_reducible exact PyProof.Rows.sub_int (h _ (S.tok _) _)

theorem o_eq (h : Q (.bool (decide (c = d))) s) : wpAny (model pw w) A (compareOp .Eq (.int c T) (.int d T')) Q E s := by
  have e : (c == d) = decide (c = d) := rfl
  rw [← e] at h
  with_reducible exact PyProof.Rows.eq_int h
theorem o_ne (h : Q (.bool (decide (c ≠ d))) s) : wpAny (model pw w) A (compareOp .NotEq (.int c T) (.int d T')) Q E s := by
  have e : (c != d) = decide (c ≠ d) := by simp [bne, decide_not]; rfl
  rw [← e] at h
  with_reducible exact PyProof.Rows.ne_int h
theorem o_lt (h : Q (.bool (decide (c < d))) s) : wpAny (model pw w) A (compareOp .Lt (.int c T) (.int d T')) Q E s := by with_reducible exact PyProof.Rows.lt_int h
theorem o_le (h : Q (.bool (decide (c ≤ d))) s) : wpAny (model pw w) A (compareOp .LtE (.int c T) (.int d T')) Q E s := by with_reducible exact PyProof.Rows.le_int h
theorem o_gt (h : Q (.bool (decide (d < c))) s) : wpAny (model pw w) A (compareOp .Gt (.int c T) (.int d T')) Q E s := by with_reducible exact PyProof.Rows.gt_int h
theorem o_ge (h : Q (.bool (decide (d ≤ c))) s) : wpAny (model pw w) A (compareOp .GtE (.int c T) (.int d T')) Q E s := by with_reducible exact PyProof.Rows.ge_int h
theorem o_neg (S : St w g L m R r s) (h : ∀ s', St w g L m R r s' → ∀ t, Q (.int (-c) t) s') : wpAny (model pw w) A (unaryOp .USub (.int c T)) Q E s := by with_reducible exact PyProof.Rows.neg_int (h _ (S.tok _) _)

/-- calls -/
theorem c_len (S : St w g L m R r s) {b : List UInt8} (hb : b.length ≤ 1099511627776) (h : ∀ s', St w g L m R r s' → ∀ t, Q (.int (b.length : Int) t) s') : wpAny (model pw w) A (call (.builtin "len") [.bytes b.toArray T]) Q E s :=
  by with_reducible exact len_bytes (by simpa using hb) (by rw [List.size_toArray]; exact h _ (S.tok _) _)

/-- a list of bytes at a place -/
theorem o_item {b : List UInt8} {value slice : Expr} (S : St w g L m R r s) (hfit : b.length ≤ 1099511627776) (h0 : 0 ≤ c) (h1 : c < b.length) (h : ∀ s', St w g L m R r s' → ∀ t, Q (.int (b.getD c.toNat 0).toNat t) s')
    (hs : subscripted slice false (.bytes b.toArray T) (.int c T') = operate [.bytes b.toArray T, .int c T'] (getItem (.bytes b.toArray T) (.int c T')) := by with_unfolding_all rfl)
    (ht : ∀ r, letTemporaryGo value (.bytes b.toArray T) r = pure () := by intro _; with_unfolding_all rfl) :
    wpAny (model pw w) A (subscriptTail value slice (.bytes b.toArray T) (.int c T')) Q E s :=
  by with_reducible exact KBy.item_N hfit h0 h1 (h _ (S.tok _) _) hs ht

theorem cw_b1 {id : String} {t : Sem Value} (h : wpAny (model pw w) A t (fun v s₁ => wpAny (model pw w) A (call (.builtin id) [v]) Q E s₁) E s) :
    wpAny (model pw w) A (callWith pos (.builtin id) [] [(false, t)] []) Q E s :=
  callWith_builtin rfl (evalArgs_plain (spliced_cons (wpAny_mono h (fun _ _ h => spliced_nil h) fun _ _ x => x)))
theorem cw_b2 {id : String} {t u : Sem Value} (h : wpAny (model pw w) A t (fun v s₁ => wpAny (model pw w) A u (fun v' s₂ => wpAny (model pw w) A (call (.builtin id) [v, v']) Q E s₂) E s₁) E s) :
    wpAny (model pw w) A (callWith pos (.builtin id) [] [(false, t), (false, u)] []) Q E s :=
  callWith_builtin rfl (evalArgs_plain (spliced_cons (wpAny_mono h (fun _ _ h => spliced_cons (wpAny_mono h (fun _ _ h => spliced_nil h) fun _ _ x => x)) fun _ _ x => x)))
theorem cw_t1 {id : String} {t : Sem Value} (h : wpAny (model pw w) A t (fun v s₁ => wpAny (model pw w) A (call (.type id) [v]) Q E s₁) E s) :
    wpAny (model pw w) A (callWith pos (.type id) [] [(false, t)] []) Q E s :=
  PySem.callWith_type rfl (evalArgs_plain (spliced_cons (wpAny_mono h (fun _ _ h => spliced_nil h) fun _ _ x => x)))

-- the text's own defs
theorem cw_f0 {f : Addr} (S : St w g L m R r s) (hk : keepIn (LX.hdC.heap_1 w.params) (.ref f) = true) (h : wpAny (model pw w) A (call (.ref f) []) Q E s) :
    wpAny (model pw w) A (callWith pos (.ref f) [] [] []) Q E s :=
  callWith_of rfl (keeps_K hk) (evalArgs_nil3 ⟨S.Xs, h⟩)
theorem cw_f1 {f : Addr} {t : Sem Value} (hk : keepIn (LX.hdC.heap_1 w.params) (.ref f) = true) (h : wpAny (model pw w) A t (fun v s₁ => (LX.hdC.heap_1 w.params).In s₁.heap ∧ wpAny (model pw w) A (call (.ref f) [v]) Q E s₁) E s) :
    wpAny (model pw w) A (callWith pos (.ref f) [] [(false, t)] []) Q E s :=
  callWith_of rfl (keeps_K hk) (evalArgs_plain (spliced_cons (wpAny_mono h (fun _ _ h => spliced_nil h) fun _ _ x => x)))
theorem cw_f2 {f : Addr} {t u : Sem Value} (hk : keepIn (LX.hdC.heap_1 w.params) (.ref f) = true)
    (h : wpAny (model pw w) A t (fun v s₁ => wpAny (model pw w) A u (fun v' s₂ => (LX.hdC.heap_1 w.params).In s₂.heap ∧ wpAny (model pw w) A (call (.ref f) [v, v']) Q E s₂) E s₁) E s) :
    wpAny (model pw w) A (callWith pos (.ref f) [] [(false, t), (false, u)] []) Q E s :=
  callWith_of rfl (keeps_K hk) (evalArgs_plain (spliced_cons (wpAny_mono h (fun _ _ h => spliced_cons (wpAny_mono h (fun _ _ h => spliced_nil h) fun _ _ x => x)) fun _ _ x => x)))
theorem cw_f3 {f : Addr} {t u v : Sem Value} (hk : keepIn (LX.hdC.heap_1 w.params) (.ref f) = true)
    (h : wpAny (model pw w) A t (fun v₁ s₁ => wpAny (model pw w) A u (fun v₂ s₂ => wpAny (model pw w) A v (fun v₃ s₃ => (LX.hdC.heap_1 w.params).In s₃.heap ∧ wpAny (model pw w) A (call (.ref f) [v₁, v₂, v₃]) Q E s₃) E s₂) E s₁) E s) :
    wpAny (model pw w) A (callWith pos (.ref f) [] [(false, t), (false, u), (false, v)] []) Q E s :=
  callWith_of rfl (keeps_K hk) (evalArgs_plain (spliced_cons (wpAny_mono h (fun _ _ h => spliced_cons (wpAny_mono h (fun _ _ h => spliced_cons (wpAny_mono h (fun _ _ h => spliced_nil h) fun _ _ x => x)) fun _ _ x => x)) fun _ _ x => x)))
theorem in_of {P : Prop} (S : St w g L m R r s) (h : P) : (LX.hdC.heap_1 w.params).In s.heap ∧ P := ⟨S.Xs, h⟩
-- methods: self.m(..)
theorem cm_f0 {f : Addr} {o : Value} (S : St w g L m R r s) (hk : keepIn (LX.hdC.heap_1 w.params) (.ref f) = true) (h : wpAny (model pw w) A (call (.ref f) [o]) Q E s) :
    wpAny (model pw w) A (callWith pos (.ref f) [o] [] []) Q E s :=
  callWith_of rfl (keeps_K hk) (evalArgs_nil3 ⟨S.Xs, h⟩)
theorem cm_f1 {f : Addr} {o : Value} {t : Sem Value} (hk : keepIn (LX.hdC.heap_1 w.params) (.ref f) = true) (h : wpAny (model pw w) A t (fun v s₁ => (LX.hdC.heap_1 w.params).In s₁.heap ∧ wpAny (model pw w) A (call (.ref f) [o, v]) Q E s₁) E s) :
    wpAny (model pw w) A (callWith pos (.ref f) [o] [(false, t)] []) Q E s :=
  callWith_of rfl (keeps_K hk) (evalArgs_plain (spliced_cons (wpAny_mono h (fun _ _ h => spliced_nil h) fun _ _ x => x)))
theorem cm_f2 {f : Addr} {o : Value} {t u : Sem Value} (hk : keepIn (LX.hdC.heap_1 w.params) (.ref f) = true)
    (h : wpAny (model pw w) A t (fun v s₁ => wpAny (model pw w) A u (fun v' s₂ => (LX.hdC.heap_1 w.params).In s₂.heap ∧ wpAny (model pw w) A (call (.ref f) [o, v, v']) Q E s₂) E s₁) E s) :
    wpAny (model pw w) A (callWith pos (.ref f) [o] [(false, t), (false, u)] []) Q E s :=
  callWith_of rfl (keeps_K hk) (evalArgs_plain (spliced_cons (wpAny_mono h (fun _ _ h => spliced_cons (wpAny_mono h (fun _ _ h => spliced_nil h) fun _ _ x => x)) fun _ _ x => x)))

/-- self.nm(..): the method is found -/
noncomputable def mth (w : World) (nm : Str) (f : Addr) : Prop := findIn (LX.hdC.heap_1 w.params) (.ref 465) nm = some (some (.ref f)) ∧ isFn (LX.hdC.heap_1 w.params) (.ref f) = true ∧ keepIn (LX.hdC.heap_1 w.params) (.ref f) = true
theorem m_get {f : Addr} {pl : Sem Bool} {Q : Value × List Value → Shared → Prop} (S : St w g L m (lexL w.params i σ buf R) r s) (hm : mth w nm f) (hg : getL nm (lexEs w.params σ) = some none) (h : Q (.ref f, [.ref i.x]) s) :
    wpAny (model pw w) A (getMethod (.ref i.x) nm pl) Q E s :=
  method_inst S.F S.X (InstAt.of_news S.N (.head _) (.tail _ (.head _))) (cl_get nm) hm.1 hm.2.1 hg h

theorem mf0 {f : Addr} {o : Value} (S : St w g L m R r s) (hk : keepIn (LX.hdC.heap_1 w.params) (.ref f) = true) (h : wpAny (model pw w) A (call (.ref f) [o]) Q E s) :
    wpAny (model pw w) A (callWith pos (.ref f) [o] (backTo pos (starEach [] ev)) []) Q E s := by
  show wpAny (model pw w) A (callWith pos (.ref f) [o] [] []) Q E s
  exact cm_f0 S hk h
theorem mf1 {f : Addr} {o : Value} {e : Expr} (hk : keepIn (LX.hdC.heap_1 w.params) (.ref f) = true) (hs : starEach [e] ev = [(false, eval e ev)])
    (h : wpAny (model pw w) A (eval e ev) (fun v s₁ => (LX.hdC.heap_1 w.params).In s₁.heap ∧ wpAny (model pw w) A (call (.ref f) [o, v]) Q E s₁) E s) :
    wpAny (model pw w) A (callWith pos (.ref f) [o] (backTo pos (starEach [e] ev)) []) Q E s := by
  have e' : backTo pos (starEach [e] ev) = [(false, eval e ev)] := by rw [hs]; rfl
  rw [e']
  exact cm_f1 hk h
theorem mf2 {f : Addr} {o : Value} {e e₂ : Expr} (hk : keepIn (LX.hdC.heap_1 w.params) (.ref f) = true) (hs : starEach [e, e₂] ev = [(false, eval e ev), (false, eval e₂ ev)])
    (h : wpAny (model pw w) A (eval e ev) (fun v s₁ => wpAny (model pw w) A (eval e₂ ev) (fun v' s₂ => (LX.hdC.heap_1 w.params).In s₂.heap ∧ wpAny (model pw w) A (call (.ref f) [o, v, v']) Q E s₂) E s₁) E s) :
    wpAny (model pw w) A (callWith pos (.ref f) [o] (backTo pos (starEach [e, e₂] ev)) []) Q E s := by
  have e' : backTo pos (starEach [e, e₂] ev) = [(false, eval e ev), (false, eval e₂ ev)] := by rw [hs]; rfl
  rw [e']
  exact cm_f2 hk h
end
theorem BB_len : bootBuiltins "len" = some (.builtin "len") := by boot_by_name
theorem BB_abs : bootBuiltins "abs" = some (.builtin "abs") := by boot_by_name
theorem BB_repr : bootBuiltins "repr" = some (.builtin "repr") := by boot_by_name
theorem BB_enumerate : bootBuiltins "enumerate" = some (.type "enumerate") := by boot_by_name
theorem BB_range : bootBuiltins "range" = some (.type "range") := by boot_by_name
theorem BB_isinstance : bootBuiltins "isinstance" = some (.builtin "isinstance") := by boot_by_name
theorem BB_int : bootBuiltins "int" = some (.type "int") := by boot_by_name
theorem BB_bool : bootBuiltins "bool" = some (.type "bool") := by boot_by_name
theorem BB_bytes : bootBuiltins "bytes" = some (.type "bytes") := by boot_by_name
theorem BB_bytearray : bootBuiltins "bytearray" = some (.type "bytearray") := by boot_by_name
def wTn : Lean.Name := .str (.str (.str .anonymous "Lean") "Parser") "Tactic"
def wEn : Lean.Name := .str (.str (.str .anonymous "Lean") "Parser") "Term"
def wN (k : Lean.Name) (a : List Lean.Syntax) : Lean.Syntax := .node .none k a.toArray
def wA (s : String) : Lean.Syntax := .atom .none s
def wT (k : String) (a : List Lean.Syntax) : Lean.Syntax := wN (.str wTn k) a
def wE (k : String) (a : List Lean.Syntax) : Lean.Syntax := wN (.str wEn k) a
def wO (a : List Lean.Syntax) : Lean.Syntax := wN (.str .anonymous "null") a
def wI (s : String) : Lean.Syntax := (Lean.mkIdent (.str .anonymous s)).raw
def wSq (l : List Lean.Syntax) : Lean.Syntax := wT "tacticSeq" [wT "tacticSeq1Indented" [wO l]]
def wHoles (n : Nat) : List Lean.Syntax := List.replicate n (wE "hole" [wA "_"])
def wArgs (l : List String) : List Lean.Syntax := (l.takeWhile fun x => x != ";").map fun x => wE "syntheticHole" [wA "?", bif x == "_" then wA x else wI x]
def wRest (l : List String) : List String := (l.dropWhile fun x => x != ";").tail
def wIn (n : Nat) : Lean.Syntax := wT "intro" [wA "intro", wO (wHoles n)]
def wEx (t : Lean.Syntax) : Lean.Syntax := wT "exact" [wA "exact", t]
def wApp (f : String) (a : List Lean.Syntax) : Lean.Syntax := wE "app" [wI f, wO a]
def wAs : Lean.Syntax := wT "assumption" [wA "assumption"]
def wU : Lean.Syntax := wT "withUnfoldingAll" [wA "with_unfolding_all", wSq [wEx (wI "rfl")]]
/-- a way to close a goal, by a letter -/
def wAt (c : String) : Lean.Syntax :=
  bif c == "a" then wAs
  else bif c == "r" then wEx (wI "rfl")
  else bif c == "k" then wN `PyProof.Rows.tacticKernel_rfl! [wA "kernel_rfl!"]
  else bif c == "is" then wN `PySem.W.tacticK_is [wA "k_is"]
  else bif c == "c" then wT "constructor" [wA "constructor"]
  else bif c == "i2" then wIn 2
  else bif c == "i3" then wIn 3
  else bif c == "u" then wU
  else bif c == "t" then wT "paren" [wA "(", wSq [wIn 1, wA ";", wU], wA ")"]
  else bif c == "z" then wEx (wE "app" [(Lean.mkIdent `Nat.le_of_ble_eq_true).raw, wO [wI "rfl"]])
  else bif c == "h" then wEx (wE "app" [(Lean.mkIdent `Rm.h).raw, wO [wE "byTactic" [wA "by", wSq [wAs]]]])
  else bif c == "d" then wT "decide" [wA "decide", wT "optConfig" [wO []]]
  else wN `PyProof.Rows.tacticWalk_at_ [wA "walk_at", wN `str [wA ("\"" ++ c ++ "\"")]]
/-- the side goals, "NAME WAY NAME WAY", and what is done last, "; WAY" -/
def wSide (l : List String) : List Lean.Syntax :=
  (l.foldl (fun q c => bif q.1 == "" then (c, q.2)
    else ("", q.2 ++ [wA ";", bif q.1 == ";" then wAt c else wT "case" [wA "case", wO [wT "caseArg" [wN `Lean.binderIdent [wI q.1], wO []]], wA "=>", wSq [wAt c]]])) ("", ([] : List Lean.Syntax))).2
def wRed (t : Lean.Syntax) : Lean.Syntax := wT "withReducible" [wA "with_reducible", wSq [t]]
/-- "LEMMA a b _", or "! wpC eval 2": the goal is of this form -/
def wHead (l : List String) : Lean.Syntax :=
  let f := l.headD ""
  bif f == "!" then wT "show" [wA "show", wApp (l.getD 1 "") (wHoles 2 ++ wApp (l.getD 2 "") (wHoles (l.getD 3 "").toNat!) :: wHoles 3)]
  else bif f == "=" then wEx (wI (l.getD 1 ""))
  else bif f == "a" then wAs
  else wT "refine'" [wA "refine'", wApp f (wArgs l.tail)]
def wAlts (l : List String) : List Lean.Syntax := l.map fun s =>
  let h := s.splitOn " "
  wN `group [wA "|", wSq ((bif h.headD "" == "@" then wAt (h.getD 1 "") else wRed (wHead h)) :: wSide (wRest h))]
/-- the first way of these that can be gone -/
def ways (s : String) : Lean.MacroM Lean.Syntax := pure (wT "first" [wA "first", wO (wAlts (s.splitOn "|"))])
def wFacts (l : List String) : List Lean.Syntax := l.map fun s => wN `group [wA "|", wSq [wEx (wI s)]]
/-- the first of these facts that is asked -/
def facts (s : String) : Lean.MacroM Lean.Syntax := pure (wRed (wT "first" [wA "first", wO (wFacts (s.splitOn " "))]))
local macro_rules
  | `(tactic| walk_at "o") => `(tactic| lia)
  | `(tactic| walk_at "wo") => `(tactic| with_reducible refine' wpC_of ?_)
  | `(tactic| walk_at "ap") => `(tactic| dsimp only [List.nil_append, List.cons_append])
-- entering a def: the side goals
local macro_rules | `(tactic| walk_at "fn") => `(tactic| ((case ho => k_is); (case hcd => k_is); (case hb => exact BindsTo.of_eq (by kernel_rfl!)); (case hl => exact locs rfl); (case hc => decide); (case h1 => exact rfl); (case h2 => exact rfl); (case h3 => exact rfl); (case hr => exact rfl)))
local macro_rules | `(tactic| walk_at "lm") => ways "= Lm_hit|Lm_miss h1 h2 ; h1 k h2 lm"
local macro_rules | `(tactic| walk_at "gv") => facts "G_BLANKS G_Limits G_LuaSyntaxError G_is_number G_wrap G_is_blank_values G_digit_of G_read_digits G_skip_blanks G_str_to_number G_text_in_base G_number_text G_to_text G_c_text G_chunk_id G_END_OF_TEXT G_FIRST_RESERVED G_RESERVED G_TK_NIL G_TK_WHILE G_TK_CONCAT G_TK_DOTS G_TK_EQ G_TK_GE G_TK_LE G_TK_NE G_TK_NUMBER G_TK_NAME G_TK_STRING G_TK_EOS G_OTHER_TEXTS G_SOURCE_SIZE G_MOST_LINES G_NEWLINE G_RETURN G_QUOTE_DOUBLE G_QUOTE_SINGLE G_MINUS G_DOT G_LESS G_EQUALS G_GREATER G_BRACKET_OPEN G_BACKSLASH G_BRACKET_CLOSE G_UNDERSCORE G_TILDE G_is_digit G_is_letter G_is_name_sign G_is_blank_lexer G_is_newline G_escaped_sign G_reserved_kinds G_token_text G_Token G_Lexer G_all_tokens G__law_gaps G__law_signs G__law_digits G__law_octets G__law_text G__law_token G__law_is_word G__law_is_apart G__law_is_refused G_law"
local macro_rules | `(tactic| walk_at "nc") => facts "nc_sign nc_at nc_text nc_buffer nc_line nc_limits nc_kinds nc_current nc_ahead nc_chunk nc_last"
local macro_rules | `(tactic| walk_at "gl") => facts "gl_sign gl_at gl_text gl_buffer gl_line gl_limits gl_kinds gl_current gl_ahead gl_chunk gl_last"
local macro_rules | `(tactic| walk_at "nt") => facts "nt_sign nt_at nt_buffer nt_line nt_current nt_ahead nt_last"
local macro_rules | `(tactic| walk_at "sp") => facts "sp_sign sp_at sp_line sp_current sp_ahead sp_last"
local macro_rules | `(tactic| walk_at "bv") => facts "B_len B_bytes B_bytearray B_abs B_repr B_enumerate B_range B_isinstance B_int B_bool B_max"
local macro_rules | `(tactic| walk_at "bb") => facts "BB_len BB_bytes BB_bytearray BB_abs BB_repr BB_enumerate BB_range BB_isinstance BB_int BB_bool"
local macro_rules | `(tactic| walk_at "lx") => `(tactic| dsimp only [Lx.setAt, Lx.setSign, Lx.setLine, Lx.setLast, Lx.setCur, Lx.setBuf] at *)
-- statements
local macro_rules | `(tactic| walk_at "stx") => ways "x_if _|x_ret _|x_expr _ h1 h2 ; h1 r h2 r|x_assign _ h1 ; h1 r|x_attr _ h1 ; h1 r|x_aug _|x_augattr _|x_ret0 _|x_nilq _|x_nil _|x_pass _"
-- expressions
local macro_rules | `(tactic| walk_at "ste") => ways "e_self S hl hx ha hg hv _ ; S a ha nc hg gl hl k hx lm hv r ; i2|e_int S _ ; S a ; i3|e_bytes S _ ; S a ; i3|Constant_none _|Constant_bool _|n_loc S hl hv _ ; S a hl k hv lm|n_glb S hl e _ ; S a e gv hl k|n_blt S hl e hv hn _ ; S a e bv hv bb hl k hn k|wpAny_IfExp _|wpAny_Compare1 _ h1 ; h1 u|wpAny_BinOp _|Subscript_ _|Tuple_ _|List_ _|BoolOp_or _|BoolOp_and _|BoolOp_one _|Call_Name1 _ h1 ; h1 r|Call_Name0 _|Call_Name2 _ h1 ; h1 r|UnaryOp_ _|MethodCall_ _ h1 ; h1 r|Attribute_any_ _ h1 ; h1 u|Compare_chain _ h1 ; h1 u"
local macro_rules | `(tactic| walk_at "stt") => ways "wpAny_isTrue_Compare1 _ h1 ; h1 u|isTrue_and_nil _|isTrue_or_nil _|isTrue_and _|isTrue_or _|isTrue_not _|isTrue_IfExp _|isTrue_chain _ h1 ; h1 u|isTrue_plain _ h1 ; h1 r"
local macro_rules | `(tactic| walk_at "stc") => ways "o_eq _|o_lt _|o_le _|o_ne _|o_gt _|o_ge _|is_none _|isNot_none _"
local macro_rules | `(tactic| walk_at "sto") => ways "o_iadd S _ ; S a ; i3|o_add S _ ; S a ; i3|o_sub S _ ; S a ; i3|o_neg S _ ; S a ; i3|n_store S hl _ ; S a hl k ; i2|n_ldn S hl hv _ ; S a hl k hv lm|lx_get S ha hg hv _ ; S a ha nc hg gl hv r ; i2|lx_set S ha hl e hb _ ; S a ha nt e sp hl r hb r ; i2|wpAny_truthy_bool _|spliced_more _ h1 ; h1 r|spliced_none _|cw_b1 _|cw_b2 _|cw_t1 _|cw_f0 S h1 _ ; S a h1 is|cw_f1 h1 _ ; h1 is|cw_f2 h1 _ ; h1 is|cw_f3 h1 _ ; h1 is|mf0 S h1 _ ; S a h1 is|mf1 h1 h2 _ ; h1 is h2 r|mf2 h1 h2 _ ; h1 is h2 r|in_of S _ ; S a|chain_link _|chain_last _|test_link _|test_last _|chain_lastE _|test_lastE _|ite_t _|ite_f _"
local macro_rules | `(tactic| walk_at "st") => ways "! wpAny eval 2 ; ; ste|! wpAny execs 2 ; ; stx|! wpAny isTrue 3 ; ; stt|! wpAny compareOp 3 ; ; stc|@ sto"
theorem Clean.enter {Γ : PySem.Ctx} (c : Clean Γ) {k : Code} (hk : holds k = false) (h : Option Value) (p : Pos) : Clean (Γ.enter k h p) :=
  ⟨hk, fun x hx => by
    rcases List.mem_cons.mp (show x ∈ (Γ.code, p) :: Γ.below from hx) with rfl | hx
    · exact c.code
    · exact c.below x hx⟩
theorem Clean.goto {Γ : PySem.Ctx} (c : Clean Γ) {k : Code} (hk : holds k = false) : Clean (Γ.goto k) := ⟨hk, c.below⟩

noncomputable def codeC (M : Model) (A : Around) (c : Code) (R : Result → Shared → Prop) (s : Shared) : Prop :=
  ∀ Γ p, Γ.code = c → Γ.Below A → Clean Γ → wpCode M Γ R p s

section
variable {α β : Type} {M : Model} {A : Around} {E : Value → Shared → Prop} {s : Shared}

theorem wpC_of {t : Sem α} {Q : α → Shared → Prop} (h : wpAny M A t Q E s) : wpC M A t Q E s := fun Γ p hΓ _ => h Γ p hΓ
theorem wpC_pure {a : α} {Q : α → Shared → Prop} (h : Q a s) : wpC M A (pure a) Q E s := fun _ _ _ _ => h
theorem wpC_mono {t : Sem α} {Q Q' : α → Shared → Prop} {E' : Value → Shared → Prop} (h : wpC M A t Q E s) (hQ : ∀ a s, Q a s → Q' a s) (hE : ∀ e s, E e s → E' e s) : wpC M A t Q' E' s :=
  fun Γ p hΓ c => Sem.wp_mono M Γ t (fun a _ s => hQ a s) (fun e _ s => hE e s) p s (h Γ p hΓ c)
theorem wpC_bind {m : Sem α} {f : α → Sem β} {Q : β → Shared → Prop} (h : wpC M A m (fun a s' => wpC M A (f a) Q E s') E s) : wpC M A (m >>= f) Q E s := fun Γ p hΓ c => by
  rw [Sem.wp_bind']
  exact Sem.wp_mono M Γ m (fun a p' s' h' => h' Γ p' hΓ c) (fun _ _ _ h' => h') p s (h Γ p hΓ c)
theorem wpC_onRaise {m : Sem α} {k : Value → Sem Unit} {Q : α → Shared → Prop} (h : wpC M A m Q (fun e s' => wpC M A (k e) (fun _ s'' => E e s'') E s') s) : wpC M A (m.onRaise k) Q E s := fun Γ p hΓ c => by
  rw [Sem.wp_onRaise]
  exact Sem.wp_mono M Γ m (fun _ _ _ h' => h') (fun e p' s' h' => h' Γ p' hΓ c) p s (h Γ p hΓ c)
theorem wpC_tryCatch {m : Sem α} {k : Value → Sem α} {Q : α → Shared → Prop} (h : wpC M A m Q (fun e s' => wpC M A (k e) Q E s') s) : wpC M A (tryCatch m k) Q E s := fun Γ p hΓ c => by
  rw [Sem.wp_tryCatch']
  exact Sem.wp_mono M Γ m (fun _ _ _ h' => h') (fun e p' s' h' => h' Γ p' hΓ c) p s (h Γ p hΓ c)
theorem wpC_attempt {m : Sem α} {Q : Except Value α → Shared → Prop} (h : wpC M A m (fun a => Q (.ok a)) (fun e => Q (.error e)) s) : wpC M A m.attempt Q E s := fun Γ p hΓ c => by rw [Sem.wp_attempt]; exact h Γ p hΓ c
theorem wpC_holding {vs : List Value} {m : Sem α} {Q : α → Shared → Prop} (h : wpC M A m Q E s) : wpC M A (holding vs m) Q E s := fun Γ p hΓ c => by rw [Sem.wp_holding]; exact h Γ p hΓ c
theorem wpC_keep {vs : List Value} {m : Sem α} {Q : α → Shared → Prop} (h : wpC M A m Q E s) : wpC M A (m.keep vs) Q E s := fun Γ p hΓ c => by rw [Sem.wp_keep]; exact h Γ p hΓ c
theorem wpC_operate {vs : List Value} {m : Sem Value} {Q : Value → Shared → Prop} (h : wpC M A m Q E s) : wpC M A (operate vs m) Q E s := fun Γ p hΓ c => by rw [Sem.wp_operate]; exact h Γ p hΓ c
theorem wpC_standAt {pos : Pos} {Q : Unit → Shared → Prop} (h : Q () s) : wpC M A (standAt pos) Q E s := fun _ _ _ _ => h
theorem wpC_point {Q : Unit → Shared → Prop} (h : Q () s) : wpC M A point Q E s := fun _ _ _ _ => h
theorem wpC_release {vs keep : List Value} {Q : Unit → Shared → Prop} (h : Q () s) : wpC M A (release vs keep) Q E s := wpC_of (wpAny_release' h)
theorem wpC_ite {c : Prop} [Decidable c] {a b : Sem α} {Q : α → Shared → Prop} (h : if c then wpC M A a Q E s else wpC M A b Q E s) : wpC M A (if c then a else b) Q E s := by split <;> simp_all

theorem wpC_run {c : Code} {h : Option Value} {Q : Flow → Shared → Prop} (hc : codeC M (A.mark h) c (fun r s' => match r with | .ok f => Q f s' | .error e => E e s') s) (hk : holds c = false)
    (hnb : h ≠ some byPass := by intro x; cases x) : wpC M A (run c h) Q E s :=
  fun Γ p hΓ cl => by rw [Sem.wp_run]; exact hc _ p rfl (hΓ.enter c h p hnb) (cl.enter hk _ _)
theorem wpC_runValue {c : Code} {Q : Value → Shared → Prop} (hc : codeC M A c (fun r s' => match r with | .ok (.ret v) => Q v s' | .ok _ => False | .error e => E e s') s) (hk : holds c = false) : wpC M A (runValue c) Q E s :=
  fun Γ p hΓ cl => by rw [Sem.wp_runValue]; exact hc _ p rfl (hΓ.enter c none p (by intro x; cases x)) (cl.enter hk _ _)
theorem wpC_call {f : Value} {pos : List Value} {kw : List (Str × Value)} {Q : Value → Shared → Prop} (hc : codeC M A (.call f ⟨pos, kw⟩) (fun r s' => match r with | .ok (.ret v) => Q v s' | .ok _ => False | .error e => E e s') s) :
    wpC M A (call f pos kw) Q E s := wpC_runValue hc rfl
theorem codeC_of {c : Code} {R : Result → Shared → Prop} (h : codeAny M A c R s) : codeC M A c R s := fun Γ p hc hΓ _ => h Γ p hc hΓ
theorem codeC_mono {c : Code} {R R' : Result → Shared → Prop} (h : codeC M A c R s) (hR : ∀ r s, R r s → R' r s) : codeC M A c R' s := fun Γ p hc hΓ cl => wpCode_mono hR (h Γ p hc hΓ cl)
theorem codeC_of_tree {c : Code} {R : Result → Shared → Prop}
    (h : wpC M (A.under c) (M.den c) (fun fin s' => match fin with | .done f => R (.ok f) s' | .again c' => c'.quiet = true ∧ holds c' = false ∧ codeC M A c' R s') (fun e s' => R (.error e) s') s) : codeC M A c R s := fun Γ p hc hΓ cl => by
  rw [wpCode_iff_wp, hc]
  refine Sem.wp_mono M Γ _ (fun fin p' s' h' => ?_) (fun _ _ _ h' => h') p s (h Γ p (hc ▸ hΓ.in) cl)
  cases fin with
  | done f => exact h'
  | again c' => exact ⟨h'.1, h'.2.2 (Γ.goto c') p' rfl (hΓ.goto c') (cl.goto h'.2.1)⟩
theorem codeC_loop {c : Code} {R : Result → Shared → Prop} (hq : c.quiet = true) (hk : holds c = false) (I : Nat → Shared → Prop)
    (turn : ∀ n s, I n s → wpC M (A.under c) (M.den c) (fun fin s' => match fin with | .done f => R (.ok f) s' | .again c' => c' = c ∧ ∃ m, m < n ∧ I m s') (fun e s' => R (.error e) s') s)
    (n : Nat) (h : I n s) : codeC M A c R s := by
  induction n using Nat.strongRecOn generalizing s with
  | ind n ih =>
    refine codeC_of_tree (wpC_mono (turn n s h) (fun fin s' hf => ?_) fun _ _ h' => h')
    cases fin with
    | done f => exact hf
    | again c' => obtain ⟨rfl, m, hm, hI⟩ := hf; exact ⟨hq, hk, ih m hm hI⟩

noncomputable def notedC (M : Model) (A : Around) (env : Env) (E : Value → Shared → Prop) : Value → Shared → Prop := fun x s' => wpC M A (noteFrame x env) (fun _ s'' => E x s'') E s'
noncomputable def cameBackC (M : Model) (A : Around) (env : Env) (E : Value → Shared → Prop) : Value → Shared → Prop :=
  fun x s' => wpC M A (do
    if (← field x 1) == .none then unsupported "frame.own-activation:exception-without-traceback"
    setFlight x env.frame) (fun _ s'' => E x s'') E s'
theorem wpC_noted {env : Env} {m : Sem α} {Q : α → Shared → Prop} (h : wpC M A m Q (notedC M A env E) s) : wpC M A (m.onRaise fun x => do noteFrame x env; theTreesLotGoes x) Q E s :=
  wpC_onRaise (wpC_mono h (fun _ _ q => q) fun _ _ hx => wpC_bind (wpC_mono hx (fun _ _ e => wpC_of (wpAny_theTreesLotGoes e)) fun _ _ e => e))
theorem wpC_runOwn {env : Env} {c : Code} {h : Option Value} {Q : Flow → Shared → Prop} (hc : codeC M (A.mark h) c (fun r s' => match r with | .ok f => Q f s' | .error e => cameBackC M A env E e s') s) (hk : holds c = false)
    (hnb : h ≠ some byPass := by intro x; cases x) : wpC M A (runOwn c env h) Q E s := by
  unfold runOwn
  exact wpC_onRaise (wpC_run hc hk hnb)
end

section
variable {prog : Program} {w : World} {A : Around} {E : Value → Shared → Prop} {R : Result → Shared → Prop} {s : Shared}
theorem codeC_whileLoop {test body orelse env} (I : Nat → Shared → Prop)
    (turn : ∀ n s, I n s →
      wpC (model prog w) A (isTrue test env (eval test env)) (fun b s₂ =>
        if b then wpC (model prog w) A (execs body env) (fun f s₃ => match f with
            | .next | .cont => ∃ m, m < n ∧ I m s₃
            | .brk => R (.ok .next) s₃
            | .ret v => R (.ok (.ret v)) s₃) (notedC (model prog w) A env fun e s' => R (.error e) s') s₂
        else wpC (model prog w) A (execs orelse env) (fun f s₃ => R (.ok f) s₃) (notedC (model prog w) A env fun e s' => R (.error e) s') s₂)
        (notedC (model prog w) A env fun e s' => R (.error e) s') s)
    (n : Nat) (h : I n s) : codeC (model prog w) A (.whileLoop test body orelse env) R s := by
  refine codeC_loop rfl rfl I (fun n s hI => ?_) n h
  show wpC _ A ((whileTurn test body orelse env).onRaise (fun x => do noteFrame x env; theTreesLotGoes x)) _ _ s
  refine wpC_noted ?_
  simp only [whileTurn]
  refine wpC_bind (wpC_mono (turn n s hI) (fun b s₂ h₂ => ?_) fun _ _ h' => h')
  cases b with
  | false =>
    simp only [Bool.false_eq_true, if_false] at h₂ ⊢
    exact wpC_bind (wpC_mono h₂ (fun f s₃ h₃ => wpC_pure h₃) fun _ _ h' => h')
  | true =>
    simp only [if_true] at h₂ ⊢
    refine wpC_bind (wpC_mono h₂ (fun f s₃ h₃ => ?_) fun _ _ h' => h')
    cases f with
    | next => exact wpC_pure ⟨rfl, h₃⟩
    | cont => exact wpC_pure ⟨rfl, h₃⟩
    | brk => exact wpC_pure h₃
    | ret v => exact wpC_pure h₃
theorem codeC_func {body env}
    (h : wpC (model prog w) (A.deeper env) (execs body env) (fun f s' => R (.ok (.ret (match f with | .ret v => v | _ => .none))) s')
      (fun e s' => wpC (model prog w) (A.deeper env) (leaving env e) (fun _ s'' => R (.error e) s'') (fun e' s'' => R (.error e') s'') s') s) : codeC (model prog w) A (.func body env) R s := by
  refine codeC_of_tree ?_
  show wpC _ (A.deeper env) (do point; match ← (execs body env).onRaise (leaving env) with | .ret v => ret v | _ => ret .none) _ _ s
  refine wpC_bind (wpC_point (wpC_bind (wpC_onRaise (wpC_mono h (fun f s' h' => ?_) fun _ _ h' => h'))))
  cases f <;> exact wpC_pure h'
theorem codeC_call_def {a : Addr} {args : Args} {o : Obj} {fd : FuncData} {body : List Stmt} {binds : List (Str × Value)} (hroom : A.depth < recursionLimit)
    (ho : s.heap.get? a = some o) (hd' : o.data = .func fd) (hlim : s.heap.NoLimit) (hco : fd.scope.isCoroutine = false) (hgen : fd.scope.isGenerator = false) (hbody : fd.body = .stmts body) (hcd : s.heap.CodeRec fd.code fd.qualname)
    (hbind : BindsTo s fd args binds) (hcell : ∀ x ∈ fd.scope.names, x.2 ≠ .cell) (hloc : ∀ x ∈ binds, fd.scope.names.lookup x.1 = some .local) (hk : fd.scope.kind = .function)
    (h : ∀ h₀, h₀.Ns s.heap.objs.size (fun x => binds.reverse.lookup x) → (∀ b o, s.heap.get? b = some o → h₀.get? b = some o) →
      wpC (model prog w) (A.deeper (callEnv fd s.heap.objs.size a)) (execs body (callEnv fd s.heap.objs.size a)) (fun f s' => R (.ok (.ret (match f with | .ret v => v | _ => .none))) s')
        (fun e s' => wpC (model prog w) (A.deeper (callEnv fd s.heap.objs.size a)) (leaving (callEnv fd s.heap.objs.size a) e) (fun _ s'' => R (.error e) s'') (fun e' s'' => R (.error e') s'') s')
        { s with heap := h₀, toks := s.toks + binds.length }) :
    codeC (model prog w) A (.call (.ref a) args) R s := by
  refine codeC_of_tree ?_
  show wpC _ A.in1 (callAny (.ref a) args) _ _ s
  simp only [callAny]
  refine wpC_bind (wpC_of (wpAny_load ho ?_))
  obtain ⟨c, oc, vs, tq, hc, hoc, hdc, hq⟩ := hcd
  simp only [hd', callFunction, hco, hgen, hbody, hc]
  refine wpC_bind (m := field (.ref c) 1) (wpC_of (wpAny_field hoc hdc hq ?_))
  refine wpC_bind (wpC_pure ?_)
  refine wpC_bind (wpC_of (hbind _ _ _ _ ?_))
  refine wpC_bind (wpC_of (wpAny_newFunctionEnv hcell hloc (fun h₀ hns₀ hsb₀ => ?_) hk))
  refine wpC_bind (wpC_of (wpAny_enterFrame (hlim.fresh _ hsb₀) hroom ?_))
  have hfin := h h₀ hns₀ fun b o e => hsb₀.extBut b o (Nat.ne_of_lt (Heap.lt_size e)) (Heap.get?_push_of_some _ e)
  exact wpC_pure ⟨rfl, rfl, codeC_func (hc ▸ hfin)⟩
end
noncomputable def SeqC (M : Model) (A : Around) (ev : Env) (rest : List Stmt) (Q : Flow → Shared → Prop) (E : Value → Shared → Prop) : Flow → Shared → Prop :=
  fun f s' => match f with | .next => wpC M A (execs rest ev) Q E s' | f => Q f s'

section
variable {M : Model} {A : Around} {E : Value → Shared → Prop} {s : Shared} {ev : Env} {rest : List Stmt} {Q : Flow → Shared → Prop}

theorem y_cons {st : Stmt} (h : wpC M A (exec st ev) (SeqC M A ev rest Q E) E s) : wpC M A (execs (st :: rest) ev) Q E s := fun Γ p hΓ c => by
  rw [execs_cons, Sem.wp_bind']
  refine Sem.wp_mono M Γ _ (fun f p' s' h' => ?_) (fun _ _ _ h' => h') _ _ (h Γ p hΓ c)
  cases f <;> first | exact h' Γ p' hΓ c | exact h'
theorem y_nil (h : Q .next s) : wpC M A (execs [] ev) Q E s := fun _ _ _ _ => h
theorem y_nilq {ev' : Env} (h : wpC M A (execs rest ev) Q E s) : wpC M A (execs [] ev') (SeqC M A ev rest Q E) E s := y_nil h
theorem y_assign {x p value pos} (h : wpC M A (eval value ev) (fun v s₁ => wpC M A (storeName ev x v) (fun _ s₂ => wpC M A (execs rest ev) Q E s₂) E s₁) E s)
    (hs : swapsWith value (some (.Name x p)) pos.line ev = pure false) : wpC M A (execs (.Assign [.Name x p] value pos :: rest) ev) Q E s := by
  refine y_cons fun Γ p hΓ c => ?_
  simp only [exec_Assign_Name ev _ _ value pos hs, Sem.wp_bind', Sem.wp_cmd_standAt, Sem.wp_bindName, Sem.wp_pure']
  exact Sem.wp_mono M Γ _ (fun v _ s₁ h₁ => h₁ Γ _ hΓ c) (fun _ _ _ h' => h') _ _ (h Γ _ hΓ c)
theorem y_attr {o attr p value pos} (h : wpC M A (eval value ev) (fun v s₁ => wpC M A (eval o ev) (fun ov s₂ => wpC M A (setAttr ov attr v) (fun _ s₃ => wpC M A (execs rest ev) Q E s₃) E s₂) E s₁) E s)
    (hs : swapsWith value (some (.Attribute o attr p)) pos.line ev = pure false) : wpC M A (execs (.Assign [.Attribute o attr p] value pos :: rest) ev) Q E s := by
  refine y_cons fun Γ p hΓ c => ?_
  simp only [plainObj_exec_Assign_Attribute o attr _ value pos hs, assign_Attribute, Sem.wp_bind', Sem.wp_holding, Sem.wp_cmd_standAt, Sem.wp_release, Sem.wp_pure']
  exact Sem.wp_mono M Γ _ (fun v p₁ s₁ h₁ => Sem.wp_mono M Γ _ (fun ov _ s₂ h₂ => h₂ Γ _ hΓ c) (fun _ _ _ h' => h') _ _ (h₁ Γ p₁ hΓ c)) (fun _ _ _ h' => h') _ _ (h Γ _ hΓ c)
theorem y_expr {e pos} (h : wpC M A (eval e ev) (fun v s₁ => isRef v = false ∧ wpC M A (execs rest ev) Q E s₁) E s)
    (hi : interactive ev = false) (hs : swapsWith e none pos.line ev = pure false) : wpC M A (execs (.Expr e pos :: rest) ev) Q E s := by
  refine y_cons ?_
  rw [exec_Expr ev e pos hi hs]
  refine wpC_bind (wpC_standAt (wpC_bind (wpC_mono h (fun v s' h' => ?_) fun _ _ x => x)))
  have hv : ∀ a, v ≠ .ref a := fun a hva => by subst hva; cases h'.1
  rw [dropValue_plain hv]
  exact wpC_pure h'.2
theorem y_if {test body orelse pos}
    (h : wpC M A (isTrue test ev (eval test ev)) (fun b s₂ => if b then wpC M A (execs body ev) (SeqC M A ev rest Q E) E s₂ else wpC M A (execs orelse ev) (SeqC M A ev rest Q E) E s₂) E s) :
    wpC M A (execs (.If test body orelse pos :: rest) ev) Q E s := by
  refine y_cons ?_
  rw [exec_If]
  refine wpC_bind (wpC_standAt (wpC_bind (wpC_mono h (fun b s₂ h₂ => ?_) fun _ _ x => x)))
  cases b <;> exact h₂
theorem y_ret {e pos} (h : wpC M A (eval e ev) (fun v => Q (.ret v)) E s) : wpC M A (execs (.Return (some e) pos :: rest) ev) Q E s := by
  refine y_cons ?_
  rw [exec_Return_some]
  exact wpC_bind (wpC_standAt (wpC_bind (wpC_mono h (fun v s₂ h₂ => wpC_pure h₂) fun _ _ x => x)))
theorem y_ret0 {pos} (h : Q (.ret .none) s) : wpC M A (execs (.Return none pos :: rest) ev) Q E s := y_cons (wpC_of (wpAny_Return_none h))
theorem y_pass {pos} (h : wpC M A (execs rest ev) Q E s) : wpC M A (execs (.Pass pos :: rest) ev) Q E s := y_cons (wpC_of (wpAny_Pass h))
/-- any statement that is a leaf -/
theorem y_leaf {st : Stmt} (h : wpAny M A (exec st ev) (SeqC M A ev rest Q E) E s) : wpC M A (execs (st :: rest) ev) Q E s := y_cons (wpC_of h)
theorem y_aug {x p op value pos} (h : wpAny M A (loadName ev x) (fun old s₁ => wpAny M A (eval value ev) (fun v s₂ => wpAny M A (inplaceOp op old v)
      (fun r s₃ => wpAny M A (storeName ev x r) (fun _ s₄ => wpC M A (execs rest ev) Q E s₄) E s₃) E s₂) E s₁) E s) : wpC M A (execs (.AugAssign (.Name x p) op value pos :: rest) ev) Q E s :=
  y_leaf (wpAny_AugAssign_Name h)
theorem y_augattr {o attr p op value pos} (h : wpAny M A (eval o ev) (fun ov s₀ => wpAny M A (getAttr ov attr true) (fun old s₁ => wpAny M A (eval value ev) (fun v s₂ => wpAny M A (inplaceOp op old v)
      (fun r s₃ => wpAny M A (setAttr ov attr r) (fun _ s₄ => wpC M A (execs rest ev) Q E s₄) E s₃) E s₂) E s₁) E s₀) E s) : wpC M A (execs (.AugAssign (.Attribute o attr p) op value pos :: rest) ev) Q E s := by
  refine y_leaf ?_
  rw [arm_exec_AugAssign_2]
  refine wpAny_bind (wpAny_standAt ?_)
  refine wpAny_bind (wpAny_mono h (fun ov s₀ h₀ => ?_) fun _ _ x => x)
  refine wpAny_bind (wpAny_holding (wpAny_bind (wpAny_standAt ?_)))
  refine wpAny_bind (wpAny_mono h₀ (fun old s₁ h₁ => ?_) fun _ _ x => x)
  refine wpAny_bind (wpAny_holding (wpAny_mono h₁ (fun v s₂ h₂ => ?_) fun _ _ x => x))
  refine wpAny_bind (wpAny_standAt (wpAny_operate' (wpAny_mono h₂ (fun r s₃ h₃ => ?_) fun _ _ x => x)))
  refine wpAny_bind (wpAny_standAt ?_)
  refine wpAny_bind (wpAny_holding (wpAny_mono h₃ (fun _ s₄ h₄ => ?_) fun _ _ x => x))
  exact wpAny_bind (wpAny_release' (wpAny_pure h₄))
theorem y_while {prog : Program} {w : World} {A : Around} {E : Value → Shared → Prop} {s : Shared} {Q : Flow → Shared → Prop} {ev : Env} {rest : List Stmt} {test : Expr} {body : List Stmt} {pos : Pos}
    (I : Nat → Shared → Prop) (n : Nat) (h : I n s)
    (turn : ∀ n s E' (N : Shared → Prop), (∀ {s}, Nx I n s → N s) → I n s → wpC (model prog w) A (isTrue test ev (eval test ev)) (fun b s₂ =>
      if b then wpC (model prog w) A (execs body ev) (fun f s₃ => match f with
            | .next | .cont => N s₃
            | .brk => wpC (model prog w) A (execs rest ev) Q E s₃
            | .ret v => Q (.ret v) s₃) E' s₂
      else wpC (model prog w) A (execs rest ev) Q E s₂) E' s) :
    wpC (model prog w) A (execs (.While test body [] pos :: rest) ev) Q E s := by
  refine y_cons ?_
  rw [exec_While]
  refine wpC_bind (wpC_standAt (wpC_runOwn (codeC_whileLoop I (fun n s hI => wpC_mono (turn n s _ (Nx I n) (fun h => h) hI) (fun b s₂ h₂ => ?_) fun _ _ x => x) n h) rfl))
  cases b with
  | true => simp only [if_true] at h₂ ⊢; exact wpC_mono h₂ (fun f s₃ h₃ => by cases f <;> first | exact h₃ | exact (let ⟨m, a, b⟩ := h₃; ⟨m, a, b⟩)) fun _ _ x => x
  | false => simp only [Bool.false_eq_true, if_false] at h₂ ⊢; exact y_nil h₂

-- expressions
theorem y_plain {e : Expr} {whole : Sem Value} {Q : Bool → Shared → Prop} (h : wpC M A whole (fun v s₁ => wpC M A (truthy v) Q E s₁) E s)
    (he : isTrue e ev whole = (do let v ← whole; standAt e.pos; holding [v] (truthy v))) : wpC M A (isTrue e ev whole) Q E s := by
  rw [he]
  exact wpC_bind (wpC_mono h (fun v s₁ h₁ => wpC_bind (wpC_standAt (wpC_holding h₁))) fun _ _ x => x)
theorem y_not {x pos whole} {Q : Bool → Shared → Prop} (h : wpC M A (isTrue x ev (eval x ev)) (fun c s' => Q (!c) s') E s) : wpC M A (isTrue (.UnaryOp .Not x pos) ev whole) Q E s := by
  show wpC M A (do return !(← isTrue x ev (eval x ev))) Q E s
  exact wpC_bind (wpC_mono h (fun c s' h' => wpC_pure h') fun _ _ x => x)
theorem y_tcmp {l op r pos whole} {Q : Bool → Shared → Prop} (h : wpC M A (eval l ev) (fun a s₁ => wpC M A (eval r ev) (fun b s₂ => wpC M A (compareOp op a b) (fun c s₃ => wpC M A (truthy c) Q E s₃) E s₂) E s₁) E s)
    (hm : behindInMarks op r = false) : wpC M A (isTrue (.Compare l [op] [r] pos) ev whole) Q E s := fun Γ p hΓ cl => by
  simp only [isTrue_Compare1, markedBehindIn_of_false hm, Sem.wp_bind', Sem.wp_holding, Sem.wp_cmd_standAt, Sem.wp_operate]
  exact Sem.wp_mono M Γ _ (fun a p₁ s₁ h₁ => Sem.wp_mono M Γ _ (fun b _ s₂ h₂ => Sem.wp_mono M Γ _ (fun c p₃ s₃ h₃ => h₃ Γ p₃ hΓ cl)
    (fun _ _ _ h' => h') _ _ (h₂ Γ _ hΓ cl)) (fun _ _ _ h' => h') _ _ (h₁ Γ p₁ hΓ cl)) (fun _ _ _ h' => h') _ _ (h Γ p hΓ cl)
theorem y_tand {x rest pos whole} {Q : Bool → Shared → Prop}
    (h : wpC M A (isTrue x ev (eval x ev)) (fun c s' => if c then wpC M A (isTrue (.BoolOp .And rest pos) ev whole) Q E s' else Q false s') E s) : wpC M A (isTrue (.BoolOp .And (x :: rest) pos) ev whole) Q E s := by
  show wpC M A (do
    match BoolOp.And, ← isTrue x ev (eval x ev) with
    | .And, false => pure false
    | .Or, true => pure true
    | _, _ => allTrue .And rest ev) Q E s
  refine wpC_bind (wpC_mono h (fun c s' h' => ?_) fun _ _ x => x)
  cases c with
  | false => exact wpC_pure h'
  | true => exact h'

-- calls
theorem ySp_nil {Q : List Value → Shared → Prop} (h : Q [] s) : wpC M A (spliced []) Q E s := wpC_pure h
theorem ySp_cons {x : Sem Value} {rest : List (Bool × Sem Value)} {Q : List Value → Shared → Prop}
    (h : wpC M A x (fun v s₁ => wpC M A (spliced rest) (fun vs s₂ => Q (v :: vs) s₂) E s₁) E s) : wpC M A (spliced ((false, x) :: rest)) Q E s := by
  rw [spliced]
  refine wpC_bind (wpC_mono h (fun v s₁ h₁ => ?_) fun _ _ x => x)
  simp only [Bool.false_eq_true, if_false]
  exact wpC_bind (wpC_pure (wpC_bind (wpC_holding (wpC_mono h₁ (fun vs s₂ h₂ => wpC_pure h₂) fun _ _ x => x))))
theorem yEv_plain {f : Value} {x : Sem Value} {rest : List (Bool × Sem Value)} {Q : Args → Shared → Prop}
    (h : wpC M A (spliced ((false, x) :: rest)) (fun vs s' => Q ⟨vs, []⟩ s') E s) : wpC M A (evalArgs f true ((false, x) :: rest) []) Q E s := by
  unfold evalArgs
  show wpC M A (spliced ((false, x) :: rest) >>= _) Q E s
  refine wpC_bind (wpC_mono h (fun vs s' h' => ?_) fun _ _ x => x)
  refine wpC_holding ?_
  exact wpC_bind (wpC_pure (wpC_bind (wpC_pure (wpC_pure h'))))
theorem yCw {f : Value} {first : List Value} {pos : Pos} {P : Heap → Prop} {args : List (Bool × Sem Value)} {Q : Value → Shared → Prop} (hplain : args.any (·.1) = false)
    (hk : ∀ h, P h → ∃ k, (k = Keeper.frame ∨ k = Keeper.machine ∨ k = Keeper.boundFrame) ∧ Looks M h (keeperOf f) k)
    (h : wpC M A (evalArgs f true args []) (fun a s₁ => P s₁.heap ∧ wpC M A (call f (first ++ a.pos) a.kw) Q E s₁) E s) : wpC M A (callWith pos f first args []) Q E s := by
  unfold callWith
  refine wpC_bind (wpC_holding (wpC_mono h (fun a s₁ h₁ => wpC_bind (wpC_standAt ?_)) fun _ _ x => x))
  obtain ⟨k, hk', L⟩ := hk _ h₁.1
  simp only [hplain, List.any_nil, Bool.or_false]
  refine wpC_bind (wpC_of (L.here ?_))
  have tail : ∀ {t : Sem Value}, wpC M A t Q E s₁ → wpC M A (t >>= fun r => holding [r] point >>= fun _ => pure r) Q E s₁ :=
    fun ht => wpC_bind (wpC_mono ht (fun r s₂ hr => wpC_bind (wpC_holding (wpC_point (wpC_pure hr)))) fun _ _ x => x)
  have marked (mk : Value) : wpC M A (callMarked mk f (first ++ a.pos) a.kw) Q E s₁ := by unfold callMarked; exact wpC_keep h₁.2
  rcases hk' with rfl | rfl | rfl <;> dsimp only <;> first | exact tail h₁.2 | (split <;> first | exact tail h₁.2 | exact tail (marked _))
theorem yCw_b {id : String} {first : List Value} {pos : Pos} {args : List (Bool × Sem Value)} {Q : Value → Shared → Prop} (hplain : args.any (·.1) = false)
    (h : wpC M A (evalArgs (.builtin id) true args []) (fun a s₁ => wpC M A (call (.builtin id) (first ++ a.pos) a.kw) Q E s₁) E s) : wpC M A (callWith pos (.builtin id) first args []) Q E s := by
  unfold callWith
  refine wpC_bind (wpC_holding (wpC_mono h (fun a s₁ h₁ => wpC_bind (wpC_standAt ?_)) fun _ _ x => x))
  simp only [hplain, List.any_nil, Bool.or_false]
  refine wpC_bind (wpC_pure ?_)
  exact wpC_bind (wpC_mono h₁ (fun r s₂ hr => wpC_bind (wpC_holding (wpC_point (wpC_pure hr)))) fun _ _ x => x)
end

section
variable {w : World} {g : Heap} {L : Addr} {l : List (Str × Value)} {m : Str → Option Value} {R R' : Led} {r s : Shared} {A : Around} {E : Value → Shared → Prop} {cn : Str} {cs : Scope} {a : Addr} {ccd : Value} {pos pos' p1 p2 : Pos} {v : Value}
  {Q : Value → Shared → Prop} {i : Id} {σ : Lx} {buf : List UInt8} {nm x : Str} {ev : Env} {T T' : Tok} {c d : Int}

theorem yn_args0 {f : Value} {Q : Args → Shared → Prop} (h : Q ⟨[], []⟩ s) : wpC (model pw w) A (evalArgs f true [] []) Q E s := wpC_of (evalArgs_nil3 h)
/-- f(..) of the text's own -/
theorem y_call0 {f : Addr} {first : List Value} (S : St w g L m R r s) (hk : keepIn (LX.hdC.heap_1 w.params) (.ref f) = true) (h : wpC (model pw w) A (call (.ref f) (first ++ [])) Q E s) :
    wpC (model pw w) A (callWith pos (.ref f) first (backTo pos (starEach [] ev)) []) Q E s := yCw (args := []) rfl (keeps_K hk) (yn_args0 ⟨S.Xs, h⟩)
theorem y_call1 {f : Addr} {first : List Value} {e : Expr} (hk : keepIn (LX.hdC.heap_1 w.params) (.ref f) = true) (hs : starEach [e] ev = [(false, eval e ev)])
    (h : wpC (model pw w) A (eval e ev) (fun v s₁ => (LX.hdC.heap_1 w.params).In s₁.heap ∧ wpC (model pw w) A (call (.ref f) (first ++ [v])) Q E s₁) E s) :
    wpC (model pw w) A (callWith pos (.ref f) first (backTo pos (starEach [e] ev)) []) Q E s := by
  have e' : backTo pos (starEach [e] ev) = [(false, eval e ev)] := by rw [hs]; rfl
  rw [e']
  exact yCw rfl (keeps_K hk) (yEv_plain (ySp_cons (wpC_mono h (fun _ _ h => ySp_nil h) fun _ _ x => x)))
theorem y_call2 {f : Addr} {first : List Value} {e e₂ : Expr} (hk : keepIn (LX.hdC.heap_1 w.params) (.ref f) = true) (hs : starEach [e, e₂] ev = [(false, eval e ev), (false, eval e₂ ev)])
    (h : wpC (model pw w) A (eval e ev) (fun v s₁ => wpC (model pw w) A (eval e₂ ev) (fun v' s₂ => (LX.hdC.heap_1 w.params).In s₂.heap ∧ wpC (model pw w) A (call (.ref f) (first ++ [v, v'])) Q E s₂) E s₁) E s) :
    wpC (model pw w) A (callWith pos (.ref f) first (backTo pos (starEach [e, e₂] ev)) []) Q E s := by
  have e' : backTo pos (starEach [e, e₂] ev) = [(false, eval e ev), (false, eval e₂ ev)] := by rw [hs]; rfl
  rw [e']
  exact yCw rfl (keeps_K hk) (yEv_plain (ySp_cons (wpC_mono h (fun _ _ h => ySp_cons (wpC_mono h (fun _ _ h => ySp_nil h) fun _ _ x => x)) fun _ _ x => x)))
theorem y_call3 {f : Addr} {first : List Value} {e e₂ e₃ : Expr} (hk : keepIn (LX.hdC.heap_1 w.params) (.ref f) = true) (hs : starEach [e, e₂, e₃] ev = [(false, eval e ev), (false, eval e₂ ev), (false, eval e₃ ev)])
    (h : wpC (model pw w) A (eval e ev) (fun v s₁ => wpC (model pw w) A (eval e₂ ev) (fun v' s₂ => wpC (model pw w) A (eval e₃ ev) (fun v'' s₃ => (LX.hdC.heap_1 w.params).In s₃.heap ∧ wpC (model pw w) A (call (.ref f) (first ++ [v, v', v''])) Q E s₃) E s₂) E s₁) E s) :
    wpC (model pw w) A (callWith pos (.ref f) first (backTo pos (starEach [e, e₂, e₃] ev)) []) Q E s := by
  have e' : backTo pos (starEach [e, e₂, e₃] ev) = [(false, eval e ev), (false, eval e₂ ev), (false, eval e₃ ev)] := by rw [hs]; rfl
  rw [e']
  exact yCw rfl (keeps_K hk) (yEv_plain (ySp_cons (wpC_mono h (fun _ _ h => ySp_cons (wpC_mono h (fun _ _ h => ySp_cons (wpC_mono h (fun _ _ h => ySp_nil h) fun _ _ x => x)) fun _ _ x => x)) fun _ _ x => x)))
theorem yin_of {P : Prop} (S : St w g L m R r s) (h : P) : (LX.hdC.heap_1 w.params).In s.heap ∧ P := ⟨S.Xs, h⟩
theorem y_name {x : Str} {p pos : Pos} {args : List Expr}
    (h : wpC (model pw w) A (eval (.Name x p) ev) (fun f s₁ => wpC (model pw w) A (callWith pos f [] (backTo pos (starEach args ev)) []) Q E s₁) E s) :
    wpC (model pw w) A (eval (.Call (.Name x p) args [] pos) ev) Q E s := wpC_bind h
theorem y_meth {o : Expr} {name : Str} {apos pos : Pos} {args : List Expr} {pl : Sem Bool}
    (h : wpC (model pw w) A (eval o ev) (fun ov s₁ => wpC (model pw w) A (getMethod ov name pl) (fun fx s₂ => wpC (model pw w) A (callWith pos fx.1 fx.2 (backTo pos (starEach args ev)) []) Q E s₂) E s₁) E s)
    (he : eval (.Call (.Attribute o name apos) args [] pos) ev = (do
      let ov ← eval o ev
      standAt apos.atName
      let (f, first) ← holding [ov] (getMethod ov name pl)
      callWith pos f first (backTo pos (starEach args ev)) [])) :
    wpC (model pw w) A (eval (.Call (.Attribute o name apos) args [] pos) ev) Q E s := by
  rw [he]
  refine wpC_bind (wpC_mono h (fun ov s₁ h₁ => wpC_bind (wpC_standAt (wpC_bind (wpC_holding (wpC_mono h₁ (fun fx s₂ h₂ => ?_) fun _ _ x => x))))) fun _ _ x => x)
  exact h₂
end

section
variable {w : World} {A : Around} {R : Led} {s : Shared} {Q E : Value → Shared → Prop} {k : Nat}
  {name qual : Str} {params : Arguments} {body : List Stmt} {scope : Scope} {dV kV doc pm cdv ct oc : Value} {an od : Option Addr} {osl : Array (Option Value)} {f : Addr} {args : List Value} {binds lb : List (Str × Value)}
/-- a def of the text's is called, on a clean stack -/
theorem enterC (rm : Rm A (k + 1)) (H : Hs w R s)
    (ho : (LX.hdC.heap_1 w.params).lookup f = some ⟨oc, od, .func (fnOf name qual params body scope dV kV doc pm an cdv ct), osl⟩)
    (hcd : codeIn (LX.hdC.heap_1 w.params) cdv qual = true)
    (hbind : BindsTo s (fnOf name qual params body scope dV kV doc pm an cdv ct) ⟨args, []⟩ binds) (hloc : ∀ y ∈ binds, scope.names.lookup y.1 = some .local)
    (hcell : ∀ x ∈ scope.names, x.2 ≠ .cell) (hco : scope.isCoroutine = false) (hgen : scope.isGenerator = false) (hk : scope.kind = .function)
    (hlb : binds.reverse = lb)
    (h : ∀ L s1 E' A', St w (hideAll s.heap (R.map (·.1))) L (Lm lb) R s s1 → Rm A' k →
      wpC (model PySem.Challenge.pw_nt0646_01 w) A' (execs body (envOf qual scope L f cdv)) (RetQ Q) E' s1) :
    wpC (model PySem.Challenge.pw_nt0646_01 w) A (call (.ref f) args) Q E s := by
  obtain ⟨p, loose, mg, mb, T⟩ := H.base.T
  have hs : ∀ a o, (hideAll s.heap (R.map (·.1))).get? a = some o → s.heap.get? a = some o := fun a o e => of_hideAll _ e
  refine wpC_call (codeC_call_def (fd := fnOf name qual params body scope dV kV doc pm an cdv ct) (body := body) (binds := binds) (by have := rm.d; lia) ((H.base.X.keeps hs) _ _ ho) rfl (T.nolimit.keeps hs) hco hgen rfl (codeRec_of (H.base.X.keeps hs) hcd) hbind hcell hloc hk (fun h₁ hns hk₁ => ?_))
  subst hlb
  refine wpC_mono (h s.heap.objs.size { s with heap := h₁, toks := s.toks + binds.length } _ _ ⟨H.base, ⟨hns, fun b o e => hk₁ b o (hs b o e), Nat.le_of_eq (hideAll_size _ _)⟩, fun q hq => ⟨hk₁ _ _ (H.led q hq), Nat.ne_of_lt (Heap.lt_size (H.led q hq)), hideAll_none _ (List.mem_map_of_mem hq)⟩, H.nd, rfl, rfl, rfl⟩ rm.deeper)
    (fun fl s' hl => hl) (fun _ _ x => x)
end
section
open PySem.Builtin
section
variable {M : Model} {A : Around} {E : Value → Shared → Prop} {s : Shared}
theorem not_hold {id : String} (h : holdIds.contains id = false) (x : String) (hx : holdIds.contains x = true) : id ≠ x := fun e => by rw [e, hx] at h; cases h
theorem hold_f {id : String} {args : Args} {q : Pos} (hh : holds ((Code.builtin id args, q) : Code × Pos).1 = false) : holdIds.contains id = false := hh
theorem hold_dec {id : String} (h : holdIds.contains id = false) : Builtin.Bytes.decodersThatHold.contains id = false := by
  rw [holdIds, List.contains_eq_mem, decide_eq_false_iff_not, List.mem_append, not_or] at h
  rw [List.contains_eq_mem, decide_eq_false_iff_not]
  exact h.2
theorem any_clean {f : Code × Pos → Bool} {l : List (Code × Pos)} (hl : ∀ x ∈ l, holds x.1 = false) (hf : ∀ x, holds x.1 = false → f x = false) : l.any f = false :=
  List.any_eq_false.mpr fun x hx => by rw [hf x (hl x hx)]; decide
theorem exported_C {self : Value} {Q : Bool → Shared → Prop} (h : Q false s) : wpC M A (Bytes.exported self) Q E s := fun Γ p _ cl => by
  unfold Bytes.exported
  rw [Sem.wp_bind']
  show wp M Γ (.stack .pure) _ _ p s
  rw [Sem.wp_stack, Sem.wp_pure, Sem.wp_pure', any_clean (l := (Γ.code, p) :: Γ.below)]
  · exact h
  · intro x hx
    rcases List.mem_cons.mp hx with rfl | hx
    · exact cl.code
    · exact cl.below x hx
  · rintro ⟨c, q⟩ hh
    cases c with
    | builtin id args =>
      have H := hold_f hh
      unfold Bytes.exported.match_1
      refine (dif_neg (not_hold H "bytearray.__contains__" (by decide +kernel))).trans ((dif_neg (not_hold H "bytearray.__mod__" (by decide +kernel))).trans ((dif_neg (not_hold H "bytearray.__rmod__" (by decide +kernel))).trans
        ((dif_neg (not_hold H "_struct.pack_into.held" (by decide +kernel))).trans ((dif_neg (not_hold H "bytearray.find.held" (by decide +kernel))).trans ?_))))
      obtain ⟨pos, kw⟩ := args
      cases pos with
      | nil => rfl
      | cons a l =>
        show (_ && Builtin.Bytes.decodersThatHold.contains id) = false
        rw [hold_dec H, Bool.and_false]
    | _ => rfl
end

end
section
open PySem.Builtin
namespace FBA
theorem plainAttrs : PlainAttrs "bytearray" :=
  ⟨⟨"bytearray.__getattribute__", by rw [typeLookup_type, builtinLookup_eq_fast]; kernel_rfl, by decide +kernel⟩, by rw [typeLookup_type, builtinLookup_eq_fast]; kernel_rfl⟩
theorem owner : Manifest.owners.lookup (String.ofList ['y', 'a', 'r', 'r', 'a', 'e', 't', 'y', 'b'].reverse) = some Manifest.sig_bytearray := by kernel_rfl
theorem slot_len : Slot "bytearray" "__len__" "bytearray.__len__" :=
  .of (owner := "bytearray") (n := "__len__") (by rw [typeLookup_type, builtinLookup_eq_fast]; kernel_rfl) (by decide +kernel) (by decide +kernel) (by decide +kernel)
    (by first | exact .inl (by decide +kernel) | exact .inr (by decide +kernel)) (by rw [isSubtype_type]; kernel_rfl)
theorem slot_getitem : Slot "bytearray" "__getitem__" "bytearray.__getitem__" :=
  .of (owner := "bytearray") (n := "__getitem__") (by rw [typeLookup_type, builtinLookup_eq_fast]; kernel_rfl) (by decide +kernel) (by decide +kernel) (by decide +kernel)
    (by first | exact .inl (by decide +kernel) | exact .inr (by decide +kernel)) (by rw [isSubtype_type]; kernel_rfl)
theorem slot_append : Slot "bytearray" "append" "bytearray.append" :=
  .of (owner := "bytearray") (n := "append") (by rw [typeLookup_type, builtinLookup_eq_fast]; kernel_rfl) (by decide +kernel) (by decide +kernel) (by decide +kernel)
    (by first | exact .inl (by decide +kernel) | exact .inr (by decide +kernel)) (by rw [isSubtype_type]; kernel_rfl)
theorem slot_init : Slot "bytearray" "__init__" "bytearray.__init__" :=
  .of (owner := "bytearray") (n := "__init__") (by rw [typeLookup_type, builtinLookup_eq_fast]; kernel_rfl) (by decide +kernel) (by decide +kernel) (by decide +kernel)
    (by first | exact .inl (by decide +kernel) | exact .inr (by decide +kernel)) (by rw [isSubtype_type]; kernel_rfl)
theorem type_append : typeOf (.builtin "bytearray.append") = pure (.type "method_descriptor") := by show builtinType _ = _; rw [builtinType_eq_fast]; kernel_rfl
theorem entry_len : entryFor table "bytearray.__len__" = some Builtin.«bytearray.__len__» := entryFor_of_tree (by kernel_rfl)
theorem entry_getitem : entryFor table "bytearray.__getitem__" = some Builtin.«bytearray.__getitem__» := entryFor_of_tree (by kernel_rfl)
theorem entry_append : entryFor table "bytearray.append" = some Builtin.«bytearray.append» := entryFor_of_tree (by kernel_rfl)
theorem entry_init : entryFor table "bytearray.__init__" = some Builtin.«bytearray.__init__» := entryFor_of_tree (by kernel_rfl)
theorem tree_new : treeTable "bytearray.__new__" = none := by unfold treeTable; kernel_rfl
theorem canon_new : Manifest.canonical "bytearray.__new__" = "list.__new__" := by decide +kernel
theorem tame_new : String.map (fun c => if (c.isAlphanum || c == '_' || c == '.') = true then c else '_') "bytearray.__new__" = "bytearray.__new__" := by decide +kernel
theorem tree_list_new : treeTable "list.__new__" = some Builtin.«list.__new__» := by unfold treeTable; kernel_rfl
theorem entry_new : entryFor table "bytearray.__new__" = some Builtin.«list.__new__» :=
  entryFor_alias (id' := "list.__new__") (by rw [fastTable_eq_tree]; exact tree_new) (by decide +kernel) (by rw [tame_new, canon_new]; decide +kernel) (by rw [fastTable_eq_tree]; exact tree_list_new)
theorem args_len (a : Value) : argsOk "bytearray.__len__" ⟨[a], []⟩ := by
  unfold argsOk; rw [signature?_of (id := "bytearray.__len__") (n := ['_', '_', 'n', 'e', 'l', '_', '_']) (o := ['y', 'a', 'r', 'r', 'a', 'e', 't', 'y', 'b']) (by kernel_rfl) owner]; kernel_rfl
theorem args_getitem (a b : Value) : argsOk "bytearray.__getitem__" ⟨[a, b], []⟩ := by
  unfold argsOk; rw [signature?_of (id := "bytearray.__getitem__") (n := ['_', '_', 'm', 'e', 't', 'i', 't', 'e', 'g', '_', '_']) (o := ['y', 'a', 'r', 'r', 'a', 'e', 't', 'y', 'b']) (by kernel_rfl) owner]; kernel_rfl
theorem args_append (a b : Value) : argsOk "bytearray.append" ⟨[a, b], []⟩ := by
  unfold argsOk; rw [signature?_of (id := "bytearray.append") (n := ['d', 'n', 'e', 'p', 'p', 'a']) (o := ['y', 'a', 'r', 'r', 'a', 'e', 't', 'y', 'b']) (by kernel_rfl) owner]; kernel_rfl
theorem args_init (a : Value) : argsOk "bytearray.__init__" ⟨[a], []⟩ := by
  unfold argsOk; rw [signature?_of (id := "bytearray.__init__") (n := ['_', '_', 't', 'i', 'n', 'i', '_', '_']) (o := ['y', 'a', 'r', 'r', 'a', 'e', 't', 'y', 'b']) (by kernel_rfl) owner]; kernel_rfl
theorem look_buffer : typeLookup (.type "bytearray") "__buffer__" = pure (some (.builtin "bytearray.__buffer__")) := by rw [typeLookup_type, builtinLookup_eq_fast]; kernel_rfl
theorem look_release : typeLookup (.type "bytearray") "__release_buffer__" = pure (some (.builtin "bytearray.__release_buffer__")) := by rw [typeLookup_type, builtinLookup_eq_fast]; kernel_rfl
theorem noBytes : typeLookup (.type "bytearray") "__bytes__" = pure none := by rw [typeLookup_type, builtinLookup_eq_fast]; kernel_rfl
theorem noIndex : typeLookup (.type "bytearray") "__index__" = pure none := by rw [typeLookup_type, builtinLookup_eq_fast]; kernel_rfl
theorem mro : mroOf (.type "bytearray") = pure [.type "bytearray", .type "object"] := by rw [mroOf_type]; kernel_rfl
theorem look_new : typeLookup (.type "bytearray") "__new__" = pure (some (.builtin "bytearray.__new__")) := by rw [typeLookup_type, builtinLookup_eq_fast]; kernel_rfl
theorem sub : isSubtype (.type "bytearray") (.type "bytearray") = pure true := by rw [isSubtype_type]; kernel_rfl
theorem called : TypeCalled "bytearray" "bytearray.__new__" "bytearray.__init__" :=
  ⟨by decide +kernel, by decide +kernel, ⟨_, _, mro⟩, madeBy_type mro look_new (by decide +kernel), by decide +kernel, sub, slot_init⟩
theorem typeCall0 : checkTypeCall "bytearray" ⟨[], []⟩ = pure () := by kernel_rfl
theorem newCall0 : checkBuiltinCall "bytearray.__new__" ⟨[.type "bytearray"], []⟩ = pure () := by kernel_rfl
theorem plain_new : plainId "bytearray.__new__" = true := by decide +kernel
theorem plain_init : plainId "bytearray.__init__" = true := by decide +kernel
theorem plain_append : plainId "bytearray.append" = true := by decide +kernel
theorem bind0 : Builtin.Bytes.bindOptional "bytearray.__init__" "bytearray" ["source", "encoding", "errors"] [] [] = pure [none, none, none] := by kernel_rfl
end FBA

end
section
open PySem.Builtin
set_option maxRecDepth 1000000 in
set_option maxHeartbeats 4000000 in
theorem owner_ba_new : ("bytearray.__new__".splitOn ".__new__").headD "" = "bytearray" := by simp +decide [String.splitOn, String.splitOnAux]
section
variable {prog : Program} {w : World} {A : Around} {E : Value → Shared → Prop} {s : Shared} {R : Result → Shared → Prop}
theorem codeC_builtin {id : String} {args : Args} {b : Builtin} (hb : entryFor table id = some b)
    (h : wpC (model prog w) (A.under (.builtin id args)) (b args)
      (fun fin s' => match fin with | .done f => R (.ok f) s' | .again c' => c'.quiet = true ∧ holds c' = false ∧ codeC (model prog w) A c' R s') (fun e s' => R (.error e) s') s) :
    codeC (model prog w) A (.builtin id args) R s := by
  refine codeC_of_tree ?_
  show wpC _ _ (match entryFor table id with | some b => b args | none => unsupported ((withoutEnding? id "#data").getD id)) _ _ s
  rw [hb]; exact h
theorem codeC_call_builtin {id : String} {args : Args} {b : Builtin} (hp : plainId id = true) (hb : entryFor table id = some b) (hk : holdIds.contains id = false)
    (hc : ∀ (Q : Unit → Shared → Prop), Q () s → wpAny (model prog w) A.in1 (checkBuiltinCall id args) Q (fun e s' => R (.error e) s') s)
    (h : wpC (model prog w) A.in1 (b args)
      (fun fin s' => match fin with | .done f => R (.ok f) s' | .again c' => c'.quiet = true ∧ holds c' = false ∧ codeC (model prog w) A c' R s') (fun e s' => R (.error e) s') s) :
    codeC (model prog w) A (.call (.builtin id) args) R s := by
  refine codeC_of_tree ?_
  show wpC _ A.in1 (do checkBuiltinCall id args; again (.builtin id args)) _ _ s
  refine wpC_bind (wpC_of (hc _ (wpC_pure ⟨plainId_quiet hp _, hk, codeC_builtin hb ?_⟩)))
  rw [Around.under_plainId hp _]; exact h

theorem new_ba {Q₁ : Value → Shared → Prop} (h : Q₁ (.ref s.heap.objs.size) { s with heap := s.heap.push { cls := .type "bytearray", data := .bytearray #[] } }) :
    codeAny (model prog w) A (.call (.builtin "bytearray.__new__") ⟨[.type "bytearray"], []⟩) (wants Q₁ E) s := by
  refine codeAny_of_tree ?_
  show wpAny _ A.in1 (do checkBuiltinCall "bytearray.__new__" ⟨[.type "bytearray"], []⟩; again (.builtin "bytearray.__new__" ⟨[.type "bytearray"], []⟩)) _ _ s
  refine wpAny_bind (wpAny_of_eq FBA.newCall0 (wpAny_pure ⟨plainId_quiet FBA.plain_new _, codeAny_builtin_stack FBA.entry_new rfl fun p st => ?_⟩))
  rw [Around.under_plainId FBA.plain_new _]
  have hsub := FBA.sub
  have hown := owner_ba_new
  obtain ⟨hp, g, d, tk, os⟩ := s
  simp only [hown]
  wp_walk
  exact h

theorem ba_type {h : Heap} {b : Addr} {l : List UInt8} (e : h.get? b = some (baObj l)) {g d tk os} : (⟨h, g, d, tk, os⟩ : Shared).TypeIs (.ref b) "bytearray" := ⟨_, e, rfl⟩
theorem own_release_ba {M : Model} {b : Addr} {Q : Bool → Shared → Prop} (hT : s.TypeIs (.ref b) "bytearray") (h : Q false s) : wpAny M A (Bytes.ownRelease (.ref b)) Q E s := by
  unfold Bytes.ownRelease Bytes.slotIsOwn
  refine wpAny_bind (wpAny_bind (wpAny_specialOf hT FBA.look_release ?_))
  dsimp only
  rw [if_neg (by decide +kernel)]
  have e : ("bytearray.__release_buffer__".dropRight ("__release_buffer__".length + 1)) = "bytearray" := by decide +kernel
  rw [e]
  exact wpAny_isInstance hT FBA.sub (wpAny_pure h)
theorem write_ba {M : Model} {b : Addr} {l l' : List UInt8} {f : Array UInt8 → Array UInt8} {Q : Unit → Shared → Prop} (hb : s.heap.get? b = some (baObj l)) (hf : f l.toArray = l'.toArray) (hz : l'.length ≤ 16777216)
    (h : Q () { s with heap := s.heap.update b (Obj.mapBytearray f) }) : wpAny M A (Bytes.write (.ref b) f) Q E s := by
  unfold Bytes.write updateBytearray
  dsimp only
  refine wpAny_bind (wpAny_load hb ?_)
  refine wpAny_bind (wpAny_update hb ?_)
  refine wpAny_lookBehind (o := baObj l') ?_ ?_ h
  · have := Heap.get?_update_self (f := Obj.mapBytearray f) (h := s.heap) hb (by rfl)
    rw [this]
    show some (Obj.mapBytearray f (baObj l)) = _
    unfold Obj.mapBytearray baObj
    dsimp only
    rw [hf]
  · show (if l'.toArray.size > sizeLine then some "bytearray:memory" else none) = none
    rw [if_neg (by rw [sizeLine_eq, List.size_toArray]; lia)]
theorem init_ba {b : Addr} {l : List UInt8} {Q : Fin → Shared → Prop} (hb : s.heap.get? b = some (baObj l)) (h : Q (.done (.ret .none)) { s with heap := s.heap.update b (Obj.mapBytearray fun _ => #[]) }) :
    wpC (model prog w) A (Builtin.«bytearray.__init__» ⟨[.ref b], []⟩) Q E s := by
  unfold Builtin.«bytearray.__init__»
  dsimp only
  refine wpC_bind (wpC_of (own_release_ba ⟨_, hb, rfl⟩ ?_))
  rw [if_neg (by decide)]
  refine wpC_bind (wpC_of (wpAny_of_eq FBA.bind0 ?_))
  dsimp only
  refine wpC_bind (wpC_of (wpAny_of_eq (a := ()) rfl ?_))
  refine wpC_bind (wpC_of (wpAny_of_eq (a := ()) rfl ?_))
  refine wpC_bind ?_
  show wpC _ _ (Bytes.exported (.ref b) >>= _) _ _ _
  refine wpC_bind (exported_C ?_)
  show wpC _ _ (Bytes.exportsOf (.ref b) >>= _) _ _ _
  unfold Bytes.exportsOf
  refine wpC_bind (wpC_bind (wpC_of (wpAny_load hb ?_)))
  refine wpC_pure (wpC_pure ?_)
  rw [if_neg (by decide)]
  refine wpC_bind (wpC_of (write_ba (l' := []) hb rfl (Nat.zero_le _) ?_))
  rw [if_neg (by decide), if_neg (by decide)]
  exact wpC_bind (wpC_pure (wpC_pure h))
end

end
section
open PySem.Builtin
section
variable {prog : Program} {w : World} {A : Around} {E : Value → Shared → Prop} {s : Shared} {R : Result → Shared → Prop}
theorem type_ba {Q : Value → Shared → Prop} (h : Q (.ref s.heap.objs.size) { s with heap := (s.heap.push { cls := .type "bytearray", data := .bytearray #[] }).update s.heap.objs.size (Obj.mapBytearray fun _ => #[]) }) :
    wpC (model prog w) A (call (.type "bytearray") []) Q E s := by
  refine wpC_call (codeC_of_tree ?_)
  show wpC _ _ (callAny (.type "bytearray") _) _ _ _
  refine wpC_pure ⟨Code.quiet_builtin _ (by decide +kernel), by decide +kernel, codeC_builtin F.entry_type_call ?_⟩
  rw [Around.under_plain (weight_type_call_type "bytearray" [] []) rfl]
  unfold Builtin.«type.__call__»
  dsimp only
  rw [if_neg (by decide)]
  have h2 := FBA.called.canCreate
  refine wpC_bind (wpC_pure ?_)
  refine wpC_bind (wpC_of (wpAny_of_eq FBA.mro ?_))
  rw [if_neg (by decide)]
  refine wpC_bind (wpC_of (wpAny_of_eq FBA.called.made ?_))
  dsimp only
  refine wpC_bind (wpC_pure ?_)
  refine wpC_bind (wpC_holding (wpC_of (wpAny_call (new_ba (Q₁ := fun v s' => wpC (model prog w) _ _ _ _ s') ?_))))
  have hb : (s.heap.push { cls := .type "bytearray", data := .bytearray #[] }).get? s.heap.objs.size = some (baObj []) := Heap.get?_push_size _ rfl
  have hT : ({ s with heap := s.heap.push { cls := .type "bytearray", data := .bytearray #[] } } : Shared).TypeIs (.ref s.heap.objs.size) "bytearray" := ⟨_, hb, rfl⟩
  refine wpC_bind (wpC_of (wpAny_isInstance hT FBA.sub ?_))
  rw [if_neg (by decide)]
  refine wpC_bind (wpC_holding ?_)
  unfold callSpecial?
  refine wpC_bind (wpC_of (wpAny_specialOf hT FBA.slot_init.lookup ?_))
  dsimp only
  refine wpC_holding (wpC_bind (wpC_of (wpAny_of_eq (FBA.slot_init.bind _) ?_)))
  refine wpC_bind (wpC_call (codeC_call_builtin FBA.plain_init FBA.entry_init (by decide +kernel) ?_ ?_))
  · exact fun Q hq => FBA.slot_init.check _ _ _ _ _ _ _ _ hT (FBA.args_init _) hq
  · refine init_ba hb ?_
    refine wpC_pure ?_
    dsimp only
    rw [if_neg (by decide)]
    exact wpC_pure h

theorem append_ba {b : Addr} {l : List UInt8} {c : UInt8} {t : Tok} {Q : Value → Shared → Prop} (hb : s.heap.get? b = some (baObj l)) (hz : l.length ≤ 16000000)
    (h : Q .none { s with heap := s.heap.update b (Obj.mapBytearray (·.push c)) }) : wpC (model prog w) A (call (.builtin "bytearray.append") [.ref b, .int c.toNat t]) Q E s := by
  have hT : s.TypeIs (.ref b) "bytearray" := ⟨_, hb, rfl⟩
  refine wpC_call (codeC_call_builtin FBA.plain_append FBA.entry_append (by decide +kernel) (fun Q hq => FBA.slot_append.check _ _ _ _ _ _ _ _ hT (FBA.args_append _ _) hq) ?_)
  unfold Builtin.«bytearray.append»
  refine wpC_bind (wpC_of (wpAny_of_eq (a := (Value.ref b, Value.int c.toNat t)) rfl ?_))
  dsimp only
  unfold Bytes.byteValue asIndex asInt?
  refine wpC_bind (wpC_bind (wpC_bind (wpC_pure (wpC_pure ?_))))
  have hc : (decide ((c.toNat : Int) < 0) || decide ((c.toNat : Int) ≥ 256)) = false := by
    have := c.toNat_lt
    simp only [Bool.or_eq_false_iff, decide_eq_false_iff_not]; lia
  rw [hc, if_neg (by decide)]
  refine wpC_pure ?_
  unfold Bytes.checkResize
  refine wpC_bind (wpC_bind ?_)
  show wpC _ _ (Bytes.exported (.ref b) >>= _) _ _ _
  refine wpC_bind (exported_C ?_)
  show wpC _ _ (Bytes.exportsOf (.ref b) >>= _) _ _ _
  unfold Bytes.exportsOf
  refine wpC_bind (wpC_bind (wpC_of (wpAny_load hb ?_)))
  refine wpC_pure (wpC_pure ?_)
  rw [if_neg (by decide)]
  refine wpC_pure ?_
  have e : ((c.toNat : Int)).toNat.toUInt8 = c := by simp
  rw [e]
  refine wpC_bind (wpC_of (write_ba (l' := l ++ [c]) hb (by simp) (by simp; lia) ?_))
  exact wpC_pure h
end

section
variable {w : World} {g : Heap} {L : Addr} {l : List (Str × Value)} {m : Str → Option Value} {R R' : Led} {r s : Shared} {A : Around} {E : Value → Shared → Prop} {pos : Pos} {Q : Value → Shared → Prop} {i : Id} {σ : Lx} {buf : List UInt8} {ev : Env} {c : UInt8} {t : Tok}

theorem getMethod_ba {b : Addr} {pl : Sem Bool} {Q : Value × List Value → Shared → Prop} {bs : List UInt8} (hb : s.heap.get? b = some (baObj bs)) (h : Q (.builtin "bytearray.append", [.ref b]) s) : wpAny (model pw w) A (getMethod (.ref b) "append" pl) Q E s :=
  getMethod_builtin (T := "bytearray") ⟨_, hb, rfl⟩ FBA.plainAttrs FBA.slot_append FBA.type_append (fun a e => by cases e; exact ⟨_, hb, rfl⟩) h

/-- the buffer takes a sign -/
theorem s_append (S : St w g L m (lexL w.params i σ buf R) r s) (hz : buf.length ≤ 16000000) (h : ∀ s', St w g L m (lexL w.params i σ (buf ++ [c]) R) r s' → Q .none s') :
    wpC (model pw w) A (call (.builtin "bytearray.append") [.ref σ.buffer, .int c.toNat t]) Q E s := by
  obtain ⟨h1, h2, h3, h4⟩ := lexL_ne S.nd
  refine append_ba (S.N _ (.tail _ (.tail _ (.head _)))).1 hz ?_
  obtain ⟨F', N'⟩ := news_upd (pre := [(i.x, instObj 465 i.dx), (i.dx, dictOf (lexEs w.params σ) i.n)]) (post := R) (f := Obj.mapBytearray (·.push c)) (o' := baObj (buf ++ [c])) S.F S.N
    (by intro p hp; simp only [List.mem_cons, List.not_mem_nil, or_false] at hp; rcases hp with rfl | rfl; exact h2; exact h3)
    (fun p hp => (h4 p hp).2.2) (by simp [Obj.mapBytearray, baObj]) rfl
  exact h _ (S.heap _ F' N' (by simpa [lexL] using S.nd))
end

end
noncomputable abbrev tupO (vs : List Value) : Obj := { cls := .type "tuple", data := .seq vs.toArray }
noncomputable abbrev lstO (vs : List Value) (n : Nat) : Obj := { cls := .type "list", data := .seq vs.toArray n }

section
variable {w : World} {g : Heap} {L : Addr} {l : List (Str × Value)} {m : Str → Option Value} {R R' : Led} {r s : Shared} {A : Around} {E : Value → Shared → Prop} {pos : Pos} {Q : Value → Shared → Prop} {ev : Env} {c : Int} {t : Tok} {a : Addr} {vs : List Value} {ns : List Int}

theorem St.new_not (S : St w g L m R r s) : s.heap.objs.size ∉ R.map (·.1) := fun h => by
  obtain ⟨p, hp, e⟩ := List.mem_map.mp h
  exact absurd (Heap.lt_size (S.N p hp).1) (by rw [e]; exact Nat.lt_irrefl _)
theorem St.drop {p : Addr × Obj} (S : St w g L m (p :: R) r s) : St w g L m R r s := ⟨S.base, S.F, fun q hq => S.N q (.tail _ hq), (List.nodup_cons.mp S.nd).2, S.rest⟩
theorem St.more {o : Obj} {k : Nat} (S : St w g L m R r s) (F : Fr g L (s.heap.push o) m) (N : News g L (s.heap.push o) ((s.heap.objs.size, o) :: R)) : St w g L m ((s.heap.objs.size, o) :: R) r { s with heap := s.heap.push o, toks := k } :=
  ⟨S.base, F, N, List.nodup_cons.mpr ⟨S.new_not, S.nd⟩, S.rest⟩
theorem o_tuple (S : St w g L m R r s) (hz : vs.length ≤ 1000) (h : ∀ s' a, St w g L m ((a, tupO vs) :: R) r s' → Q (.ref a) s') : wpAny (model pw w) A (newTuple vs) Q E s := by
  have hz' : vs.length ≤ sizeLine := by rw [sizeLine_eq]; lia
  refine wpAny_newObj_type (h { s with heap := s.heap.push (tupO vs) } _ (S.more (S.F.push _) (S.N.push S.F _))) (by show vs.toArray.size ≤ sizeLine; rw [List.size_toArray]; exact hz')
theorem o_list (S : St w g L m R r s) (hz : vs.length ≤ 1000) (h : ∀ s' a, St w g L m ((a, lstO vs 0) :: R) r s' → Q (.ref a) s') : wpAny (model pw w) A (newList vs) Q E s := by
  have hz' : vs.length ≤ sizeLine := by rw [sizeLine_eq]; lia
  refine wpAny_newObj_type (h { s with heap := s.heap.push (lstO vs 0) } _ (S.more (S.F.push _) (S.N.push S.F _))) (by show vs.toArray.size ≤ sizeLine; rw [List.size_toArray]; exact hz')
theorem St.tup (S : St w g L m R r s) (h : (a, tupO vs) ∈ R) : IsTup s.heap a vs.toArray := ⟨_, (S.N _ h).1, rfl, 0, rfl⟩
theorem o_notin (S : St w g L m R r s) (h : (a, tupO vs) ∈ R) (hi : IntsAre vs ns) (hq : Q (.bool (!(ns.any (· == c)))) s) : wpAny (model pw w) A (compareOp .NotIn (.int c t) (.ref a)) Q E s :=
  notin_tuple_ints (S.tup h) hi hq
theorem o_in (S : St w g L m R r s) (h : (a, tupO vs) ∈ R) (hi : IntsAre vs ns) (hq : Q (.bool (ns.any (· == c))) s) : wpAny (model pw w) A (compareOp .In (.int c t) (.ref a)) Q E s :=
  in_tuple_ints (S.tup h) hi hq
end
section
variable {M : Model} {A : Around} {E : Value → Shared → Prop} {s : Shared} {ev : Env} {f : Expr} {p pos : Pos} {whole : Sem Value} {Q : Bool → Shared → Prop}
theorem y_plainC {a k} (h : wpC M A whole (fun v s₁ => wpC M A (truthy v) Q E s₁) E s) (he : isTrue (.Call f a k p) ev whole = (do let v ← whole; standAt (Expr.Call f a k p).pos; holding [v] (truthy v))) :
    wpC M A (isTrue (.Call f a k p) ev whole) Q E s := y_plain h he
theorem y_notC {a k} (h : wpC M A (isTrue (.Call f a k p) ev (eval (.Call f a k p) ev)) (fun c s' => Q (!c) s') E s) : wpC M A (isTrue (.UnaryOp .Not (.Call f a k p) pos) ev whole) Q E s := y_not h
theorem y_tcmpC {a k op r} (h : wpC M A (eval (.Call f a k p) ev) (fun a s₁ => wpC M A (eval r ev) (fun b s₂ => wpC M A (compareOp op a b) (fun c s₃ => wpC M A (truthy c) Q E s₃) E s₂) E s₁) E s)
    (hm : behindInMarks op r = false) : wpC M A (isTrue (.Compare (.Call f a k p) [op] [r] pos) ev whole) Q E s := y_tcmp h hm
theorem wpC_len {Q : Value → Shared → Prop} {a} (h : wpAny M A (call (.builtin "len") a) Q E s) : wpC M A (call (.builtin "len") a) Q E s := wpC_of h
theorem wpC_bytes {Q : Value → Shared → Prop} {a} (h : wpAny M A (call (.type "bytes") a) Q E s) : wpC M A (call (.type "bytes") a) Q E s := wpC_of h
theorem wpC_189 {Q : Value → Shared → Prop} {a} (h : wpAny M A (call (.ref 189) a) Q E s) : wpC M A (call (.ref 189) a) Q E s := wpC_of h
theorem wpC_224 {Q : Value → Shared → Prop} {a} (h : wpAny M A (call (.ref 224) a) Q E s) : wpC M A (call (.ref 224) a) Q E s := wpC_of h
end
local macro_rules | `(tactic| walk_at "yx") => ways "y_if _|y_ret _|y_expr _ h1 h2 ; h1 r h2 r|y_assign _ h1 ; h1 r|y_attr _ h1 ; h1 r|y_aug _|y_augattr _|y_ret0 _|y_nilq _|y_nil _|y_pass _"
local macro_rules | `(tactic| walk_at "ye") => ways "y_meth _ h1 ; h1 r|y_name _|wpC_of _"
local macro_rules | `(tactic| walk_at "yt") => ways "y_plainC _ h1 ; h1 r|y_notC _|wpC_of _"
local macro_rules | `(tactic| walk_at "yc") => ways "y_call0 S h1 _ ; S a h1 is ; ap|y_call1 h1 h2 _ ; h1 is h2 r ; ap|y_call2 h1 h2 _ ; h1 is h2 r ; ap|y_call3 h1 h2 _ ; h1 is h2 r ; ap"
local macro_rules | `(tactic| walk_at "yy") => ways "! wpC eval 2 ; ; ye|! wpC execs 2 ; ; yx|! wpC isTrue 3 ; ; yt|! wpC callWith 5 ; ; yc|! wpC storeName 3 ; ; wo|! wpC setAttr 3 ; ; wo|! wpC getMethod 3 ; ; wo|! wpC truthy 1 ; ; wo|m_get S hm hg _ ; S a hm mt hg gn|yin_of S _ ; S a|@ st"
section
variable {w : World} {P : Params} {σ : Lx}
noncomputable def mthL : List (Str × Addr) := [(Str.ofString "move", 322), (Str.ofString "keep", 329), (Str.ofString "keep_and_move", 336), (Str.ofString "keep_if", 343), (Str.ofString "clear", 350), (Str.ofString "end_line", 357), (Str.ofString "read", 364), (Str.ofString "skip_blank", 371), (Str.ofString "sign_behind", 378), (Str.ofString "skip_comment", 385), (Str.ofString "read_compared", 392), (Str.ofString "read_dots", 399), (Str.ofString "read_word", 406), (Str.ofString "read_numeral", 413), (Str.ofString "read_bracket", 420), (Str.ofString "read_level", 427), (Str.ofString "read_long", 434), (Str.ofString "read_inner", 441), (Str.ofString "read_string", 448), (Str.ofString "read_escape", 455), (Str.ofString "read_digits", 462), (Str.ofString "error", 301), (Str.ofString "near_text", 315), (Str.ofString "next", 287)]
theorem mth_all : (mthL.all fun p => findIn (LX.hdC.heap_1 w.params) (.ref 465) p.1 == some (some (.ref p.2)) && isFn (LX.hdC.heap_1 w.params) (.ref p.2) && keepIn (LX.hdC.heap_1 w.params) (.ref p.2)) = true := by kernel_rfl!
theorem mth_of {nm : Str} {f : Addr} (h : (nm, f) ∈ mthL) : mth w nm f := by
  have e := List.all_eq_true.mp (mth_all (w := w)) _ h
  simp only [Bool.and_eq_true, beq_iff_eq] at e
  exact ⟨e.1.1, e.1.2, e.2⟩
theorem gn_all : (mthL.all fun p => getL p.1 (lexEs P σ) == some none) = true := by kernel_rfl!
theorem gn_of {nm : Str} {f : Addr} (h : (nm, f) ∈ mthL) : getL nm (lexEs P σ) = some none := beq_iff_eq.mp (List.all_eq_true.mp gn_all _ h)
theorem mt_move : mth w "move" 322 := mth_of (.head _)
theorem gn_move : getL "move" (lexEs P σ) = some none := gn_of (f := 322) (.head _)
theorem mt_keep : mth w "keep" 329 := mth_of (.tail _ (.head _))
theorem gn_keep : getL "keep" (lexEs P σ) = some none := gn_of (f := 329) (.tail _ (.head _))
theorem mt_keep_and_move : mth w "keep_and_move" 336 := mth_of (.tail _ (.tail _ (.head _)))
theorem gn_keep_and_move : getL "keep_and_move" (lexEs P σ) = some none := gn_of (f := 336) (.tail _ (.tail _ (.head _)))
theorem mt_keep_if : mth w "keep_if" 343 := mth_of (.tail _ (.tail _ (.tail _ (.head _))))
theorem gn_keep_if : getL "keep_if" (lexEs P σ) = some none := gn_of (f := 343) (.tail _ (.tail _ (.tail _ (.head _))))
theorem mt_clear : mth w "clear" 350 := mth_of (.tail _ (.tail _ (.tail _ (.tail _ (.head _)))))
theorem gn_clear : getL "clear" (lexEs P σ) = some none := gn_of (f := 350) (.tail _ (.tail _ (.tail _ (.tail _ (.head _)))))
theorem mt_end_line : mth w "end_line" 357 := mth_of (.tail _ (.tail _ (.tail _ (.tail _ (.tail _ (.head _))))))
theorem gn_end_line : getL "end_line" (lexEs P σ) = some none := gn_of (f := 357) (.tail _ (.tail _ (.tail _ (.tail _ (.tail _ (.head _))))))
theorem mt_read : mth w "read" 364 := mth_of (.tail _ (.tail _ (.tail _ (.tail _ (.tail _ (.tail _ (.head _)))))))
theorem gn_read : getL "read" (lexEs P σ) = some none := gn_of (f := 364) (.tail _ (.tail _ (.tail _ (.tail _ (.tail _ (.tail _ (.head _)))))))
theorem mt_skip_blank : mth w "skip_blank" 371 := mth_of (.tail _ (.tail _ (.tail _ (.tail _ (.tail _ (.tail _ (.tail _ (.head _))))))))
theorem gn_skip_blank : getL "skip_blank" (lexEs P σ) = some none := gn_of (f := 371) (.tail _ (.tail _ (.tail _ (.tail _ (.tail _ (.tail _ (.tail _ (.head _))))))))
theorem mt_sign_behind : mth w "sign_behind" 378 := mth_of (.tail _ (.tail _ (.tail _ (.tail _ (.tail _ (.tail _ (.tail _ (.tail _ (.head _)))))))))
theorem gn_sign_behind : getL "sign_behind" (lexEs P σ) = some none := gn_of (f := 378) (.tail _ (.tail _ (.tail _ (.tail _ (.tail _ (.tail _ (.tail _ (.tail _ (.head _)))))))))
theorem mt_skip_comment : mth w "skip_comment" 385 := mth_of (.tail _ (.tail _ (.tail _ (.tail _ (.tail _ (.tail _ (.tail _ (.tail _ (.tail _ (.head _))))))))))
theorem gn_skip_comment : getL "skip_comment" (lexEs P σ) = some none := gn_of (f := 385) (.tail _ (.tail _ (.tail _ (.tail _ (.tail _ (.tail _ (.tail _ (.tail _ (.tail _ (.head _))))))))))
theorem mt_read_compared : mth w "read_compared" 392 := mth_of (.tail _ (.tail _ (.tail _ (.tail _ (.tail _ (.tail _ (.tail _ (.tail _ (.tail _ (.tail _ (.head _)))))))))))
theorem gn_read_compared : getL "read_compared" (lexEs P σ) = some none := gn_of (f := 392) (.tail _ (.tail _ (.tail _ (.tail _ (.tail _ (.tail _ (.tail _ (.tail _ (.tail _ (.tail _ (.head _)))))))))))
theorem mt_read_dots : mth w "read_dots" 399 := mth_of (.tail _ (.tail _ (.tail _ (.tail _ (.tail _ (.tail _ (.tail _ (.tail _ (.tail _ (.tail _ (.tail _ (.head _))))))))))))
theorem gn_read_dots : getL "read_dots" (lexEs P σ) = some none := gn_of (f := 399) (.tail _ (.tail _ (.tail _ (.tail _ (.tail _ (.tail _ (.tail _ (.tail _ (.tail _ (.tail _ (.tail _ (.head _))))))))))))
theorem mt_read_word : mth w "read_word" 406 := mth_of (.tail _ (.tail _ (.tail _ (.tail _ (.tail _ (.tail _ (.tail _ (.tail _ (.tail _ (.tail _ (.tail _ (.tail _ (.head _)))))))))))))
theorem gn_read_word : getL "read_word" (lexEs P σ) = some none := gn_of (f := 406) (.tail _ (.tail _ (.tail _ (.tail _ (.tail _ (.tail _ (.tail _ (.tail _ (.tail _ (.tail _ (.tail _ (.tail _ (.head _)))))))))))))
theorem mt_read_numeral : mth w "read_numeral" 413 := mth_of (.tail _ (.tail _ (.tail _ (.tail _ (.tail _ (.tail _ (.tail _ (.tail _ (.tail _ (.tail _ (.tail _ (.tail _ (.tail _ (.head _))))))))))))))
theorem gn_read_numeral : getL "read_numeral" (lexEs P σ) = some none := gn_of (f := 413) (.tail _ (.tail _ (.tail _ (.tail _ (.tail _ (.tail _ (.tail _ (.tail _ (.tail _ (.tail _ (.tail _ (.tail _ (.tail _ (.head _))))))))))))))
theorem mt_read_bracket : mth w "read_bracket" 420 := mth_of (.tail _ (.tail _ (.tail _ (.tail _ (.tail _ (.tail _ (.tail _ (.tail _ (.tail _ (.tail _ (.tail _ (.tail _ (.tail _ (.tail _ (.head _)))))))))))))))
theorem gn_read_bracket : getL "read_bracket" (lexEs P σ) = some none := gn_of (f := 420) (.tail _ (.tail _ (.tail _ (.tail _ (.tail _ (.tail _ (.tail _ (.tail _ (.tail _ (.tail _ (.tail _ (.tail _ (.tail _ (.tail _ (.head _)))))))))))))))
theorem mt_read_level : mth w "read_level" 427 := mth_of (.tail _ (.tail _ (.tail _ (.tail _ (.tail _ (.tail _ (.tail _ (.tail _ (.tail _ (.tail _ (.tail _ (.tail _ (.tail _ (.tail _ (.tail _ (.head _))))))))))))))))
theorem gn_read_level : getL "read_level" (lexEs P σ) = some none := gn_of (f := 427) (.tail _ (.tail _ (.tail _ (.tail _ (.tail _ (.tail _ (.tail _ (.tail _ (.tail _ (.tail _ (.tail _ (.tail _ (.tail _ (.tail _ (.tail _ (.head _))))))))))))))))
theorem mt_read_long : mth w "read_long" 434 := mth_of (.tail _ (.tail _ (.tail _ (.tail _ (.tail _ (.tail _ (.tail _ (.tail _ (.tail _ (.tail _ (.tail _ (.tail _ (.tail _ (.tail _ (.tail _ (.tail _ (.head _)))))))))))))))))
theorem gn_read_long : getL "read_long" (lexEs P σ) = some none := gn_of (f := 434) (.tail _ (.tail _ (.tail _ (.tail _ (.tail _ (.tail _ (.tail _ (.tail _ (.tail _ (.tail _ (.tail _ (.tail _ (.tail _ (.tail _ (.tail _ (.tail _ (.head _)))))))))))))))))
theorem mt_read_inner : mth w "read_inner" 441 := mth_of (.tail _ (.tail _ (.tail _ (.tail _ (.tail _ (.tail _ (.tail _ (.tail _ (.tail _ (.tail _ (.tail _ (.tail _ (.tail _ (.tail _ (.tail _ (.tail _ (.tail _ (.head _))))))))))))))))))
theorem gn_read_inner : getL "read_inner" (lexEs P σ) = some none := gn_of (f := 441) (.tail _ (.tail _ (.tail _ (.tail _ (.tail _ (.tail _ (.tail _ (.tail _ (.tail _ (.tail _ (.tail _ (.tail _ (.tail _ (.tail _ (.tail _ (.tail _ (.tail _ (.head _))))))))))))))))))
theorem mt_read_string : mth w "read_string" 448 := mth_of (.tail _ (.tail _ (.tail _ (.tail _ (.tail _ (.tail _ (.tail _ (.tail _ (.tail _ (.tail _ (.tail _ (.tail _ (.tail _ (.tail _ (.tail _ (.tail _ (.tail _ (.tail _ (.head _)))))))))))))))))))
theorem gn_read_string : getL "read_string" (lexEs P σ) = some none := gn_of (f := 448) (.tail _ (.tail _ (.tail _ (.tail _ (.tail _ (.tail _ (.tail _ (.tail _ (.tail _ (.tail _ (.tail _ (.tail _ (.tail _ (.tail _ (.tail _ (.tail _ (.tail _ (.tail _ (.head _)))))))))))))))))))
theorem mt_read_escape : mth w "read_escape" 455 := mth_of (.tail _ (.tail _ (.tail _ (.tail _ (.tail _ (.tail _ (.tail _ (.tail _ (.tail _ (.tail _ (.tail _ (.tail _ (.tail _ (.tail _ (.tail _ (.tail _ (.tail _ (.tail _ (.tail _ (.head _))))))))))))))))))))
theorem gn_read_escape : getL "read_escape" (lexEs P σ) = some none := gn_of (f := 455) (.tail _ (.tail _ (.tail _ (.tail _ (.tail _ (.tail _ (.tail _ (.tail _ (.tail _ (.tail _ (.tail _ (.tail _ (.tail _ (.tail _ (.tail _ (.tail _ (.tail _ (.tail _ (.tail _ (.head _))))))))))))))))))))
theorem mt_read_digits : mth w "read_digits" 462 := mth_of (.tail _ (.tail _ (.tail _ (.tail _ (.tail _ (.tail _ (.tail _ (.tail _ (.tail _ (.tail _ (.tail _ (.tail _ (.tail _ (.tail _ (.tail _ (.tail _ (.tail _ (.tail _ (.tail _ (.tail _ (.head _)))))))))))))))))))))
theorem gn_read_digits : getL "read_digits" (lexEs P σ) = some none := gn_of (f := 462) (.tail _ (.tail _ (.tail _ (.tail _ (.tail _ (.tail _ (.tail _ (.tail _ (.tail _ (.tail _ (.tail _ (.tail _ (.tail _ (.tail _ (.tail _ (.tail _ (.tail _ (.tail _ (.tail _ (.tail _ (.head _)))))))))))))))))))))
theorem mt_error : mth w "error" 301 := mth_of (.tail _ (.tail _ (.tail _ (.tail _ (.tail _ (.tail _ (.tail _ (.tail _ (.tail _ (.tail _ (.tail _ (.tail _ (.tail _ (.tail _ (.tail _ (.tail _ (.tail _ (.tail _ (.tail _ (.tail _ (.tail _ (.head _))))))))))))))))))))))
theorem gn_error : getL "error" (lexEs P σ) = some none := gn_of (f := 301) (.tail _ (.tail _ (.tail _ (.tail _ (.tail _ (.tail _ (.tail _ (.tail _ (.tail _ (.tail _ (.tail _ (.tail _ (.tail _ (.tail _ (.tail _ (.tail _ (.tail _ (.tail _ (.tail _ (.tail _ (.tail _ (.head _))))))))))))))))))))))
theorem mt_near_text : mth w "near_text" 315 := mth_of (.tail _ (.tail _ (.tail _ (.tail _ (.tail _ (.tail _ (.tail _ (.tail _ (.tail _ (.tail _ (.tail _ (.tail _ (.tail _ (.tail _ (.tail _ (.tail _ (.tail _ (.tail _ (.tail _ (.tail _ (.tail _ (.tail _ (.head _)))))))))))))))))))))))
theorem gn_near_text : getL "near_text" (lexEs P σ) = some none := gn_of (f := 315) (.tail _ (.tail _ (.tail _ (.tail _ (.tail _ (.tail _ (.tail _ (.tail _ (.tail _ (.tail _ (.tail _ (.tail _ (.tail _ (.tail _ (.tail _ (.tail _ (.tail _ (.tail _ (.tail _ (.tail _ (.tail _ (.tail _ (.head _)))))))))))))))))))))))
theorem mt_next : mth w "next" 287 := mth_of (.tail _ (.tail _ (.tail _ (.tail _ (.tail _ (.tail _ (.tail _ (.tail _ (.tail _ (.tail _ (.tail _ (.tail _ (.tail _ (.tail _ (.tail _ (.tail _ (.tail _ (.tail _ (.tail _ (.tail _ (.tail _ (.tail _ (.tail _ (.head _))))))))))))))))))))))))
theorem gn_next : getL "next" (lexEs P σ) = some none := gn_of (f := 287) (.tail _ (.tail _ (.tail _ (.tail _ (.tail _ (.tail _ (.tail _ (.tail _ (.tail _ (.tail _ (.tail _ (.tail _ (.tail _ (.tail _ (.tail _ (.tail _ (.tail _ (.tail _ (.tail _ (.tail _ (.tail _ (.tail _ (.tail _ (.head _))))))))))))))))))))))))
end
local macro_rules | `(tactic| walk_at "mt") => facts "mt_move mt_keep mt_keep_and_move mt_keep_if mt_clear mt_end_line mt_read mt_skip_blank mt_sign_behind mt_skip_comment mt_read_compared mt_read_dots mt_read_word mt_read_numeral mt_read_bracket mt_read_level mt_read_long mt_read_inner mt_read_string mt_read_escape mt_read_digits mt_error mt_near_text mt_next"
local macro_rules | `(tactic| walk_at "gn") => facts "gn_move gn_keep gn_keep_and_move gn_keep_if gn_clear gn_end_line gn_read gn_skip_blank gn_sign_behind gn_skip_comment gn_read_compared gn_read_dots gn_read_word gn_read_numeral gn_read_bracket gn_read_level gn_read_long gn_read_inner gn_read_string gn_read_escape gn_read_digits gn_error gn_near_text gn_next"
noncomputable def limEs (P : Params) (kt : Nat → Tok) : List DictEntry :=
  [en P "width" (kt 0) (.int 64 210), en P "registers" (kt 1) (.int 250 211), en P "upvalues" (kt 2) (.int 60 212), en P "local_names" (kt 3) (.int 200 213), en P "ccalls" (kt 4) (.int 40 214),
   en P "frames" (kt 5) (.int 200 215), en P "stack" (kt 6) (.int 2000 216), en P "flush" (kt 7) (.int 50 217), en P "steps" (kt 8) (.int 1000000000 218), en P "text" (kt 9) (.int 1000000 219)]
noncomputable def LimIn (w : World) (lim : Addr) (R : Led) : Prop := ∃ dl n kt, (lim, instObj 53 dl) ∈ R ∧ (dl, dictOf (limEs w.params kt) n) ∈ R

section
variable {w : World} {g : Heap} {L : Addr} {l : List (Str × Value)} {m : Str → Option Value} {R R' : Led} {r s : Shared} {A : Around} {E : Value → Shared → Prop} {pos : Pos} {Q : Value → Shared → Prop} {ev : Env} {c : Int} {t : Tok} {a : Addr} {vs : List Value} {ns : List Int}
  {i : Id} {σ : Lx} {buf : List UInt8} {e : Bool}
theorem lim_everything {kt : Nat → Tok} : getL "text" (limEs w.params kt) = some (some (.int 1000000 219)) ∧ getL "width" (limEs w.params kt) = some (some (.int 64 210)) ∧
    plainGet (LX.hdC.heap_1 w.params) 53 "a" = true ∧ hasDictIn (LX.hdC.heap_1 w.params) 53 = true ∧ findIn (LX.hdC.heap_1 w.params) (.ref 53) "text" = some none ∧ findIn (LX.hdC.heap_1 w.params) (.ref 53) "width" = some none := by and_intros <;> kernel_rfl!
theorem lim_text (S : St w g L m R r s) (h : LimIn w a R) (hq : ∀ s', St w g L m R r s' → Q (.int 1000000 219) s') : wpAny (model pw w) A (getAttr (.ref a) "text" e) Q E s := by
  obtain ⟨dl, n, kt, h1, h2⟩ := h
  obtain ⟨f1, f2, f3, f4, f5, f6⟩ := lim_everything (w := w) (kt := kt)
  exact at_get S h1 h2 f3 f4 f5 f1 rfl hq
theorem lim_width (S : St w g L m R r s) (h : LimIn w a R) (hq : ∀ s', St w g L m R r s' → Q (.int 64 210) s') : wpAny (model pw w) A (getAttr (.ref a) "width" e) Q E s := by
  obtain ⟨dl, n, kt, h1, h2⟩ := h
  obtain ⟨f1, f2, f3, f4, f5, f6⟩ := lim_everything (w := w) (kt := kt)
  exact at_get S h1 h2 f3 f4 f6 f2 rfl hq
theorem LimIn.tail {p : Addr × Obj} (h : LimIn w a R) : LimIn w a (p :: R) := by
  obtain ⟨dl, n, kt, h1, h2⟩ := h
  exact ⟨dl, n, kt, .tail _ h1, .tail _ h2⟩

theorem yb1 {id : String} {first : List Value} {x : Expr} (hs : starEach [x] ev = [(false, eval x ev)])
    (h : wpC (model pw w) A (eval x ev) (fun v s₁ => wpC (model pw w) A (call (.builtin id) (first ++ [v])) Q E s₁) E s) :
    wpC (model pw w) A (callWith pos (.builtin id) first (backTo pos (starEach [x] ev)) []) Q E s := by
  have e' : backTo pos (starEach [x] ev) = [(false, eval x ev)] := by rw [hs]; rfl
  rw [e']
  exact yCw_b rfl (yEv_plain (ySp_cons (wpC_mono h (fun _ _ h => ySp_nil h) fun _ _ x => x)))

/-- len of the buffer -/
theorem gives_ba_len {b : Addr} {bs : List UInt8} {Q : Fin → Shared → Prop} {M : Model} (hb : s.heap.get? b = some (baObj bs)) (h : Q (.done (.ret (.int bs.length s.toks))) { s with toks := s.toks + 1 }) :
    wpAny M A (Builtin.«bytearray.__len__» ⟨[.ref b], []⟩) Q E s := by
  unfold Builtin.«bytearray.__len__»
  refine wpAny_bind (wpAny_of_eq (a := (Value.ref b, [])) rfl ?_)
  dsimp only
  unfold Builtin.Bytes.payload Builtin.Bytes.payload?
  refine wpAny_bind (wpAny_bind (wpAny_bind (wpAny_load hb (wpAny_pure (wpAny_pure ?_)))))
  have e : (List.toArray bs).size = bs.length := List.size_toArray ..
  rw [e]
  exact fun _ _ _ => h

theorem len_ba {b : Addr} {bs : List UInt8} (S : St w g L m R r s) (hb : (b, baObj bs) ∈ R) (hz : bs.length ≤ 16777216) (h : ∀ s' t, St w g L m R r s' → Q (.int bs.length t) s') : wpAny (model pw w) A (call (.builtin "len") [.ref b]) Q E s := by
  have hb' := (S.N _ hb).1
  have hT : s.TypeIs (.ref b) "bytearray" := ⟨_, hb', rfl⟩
  refine call_function_entry kind_len plain_len entry_len (args_len1 _) ?_
  unfold Builtin.«len»
  refine wpAny_bind (wpAny_of_eq (a := Value.ref b) rfl ?_)
  refine wpAny_bind (m := callSpecial? (.ref b) (Str.ofString "__len__")) (wpAny_callSpecial?_slot (name := Str.ofString "__len__") hT FBA.slot_len
    (wpAny_call_entry FBA.slot_len hT FBA.entry_len (gives_ba_len hb' ⟨_, rfl, ?_⟩) (FBA.args_len _)))
  refine wpAny_bind (wpAny_holding (wpAny_pure ?_))
  refine wpAny_bind (wpAny_letGo ?_)
  show wpAny _ _ (if ((bs.length : Nat) : Int) < 0 then _ else _) _ _ _
  rw [if_neg (by lia)]
  show wpAny _ _ (if ((bs.length : Nat) : Int) ≥ 2 ^ 63 then _ else _) _ _ _
  rw [if_neg (by lia)]
  exact wpAny_bind (wpAny_mkInt (wpAny_pure ⟨_, rfl, h _ _ ((S.tok _).tok _)⟩))

theorem lexL_buf {P : Params} : (σ.buffer, baObj buf) ∈ lexL P i σ buf R := .tail _ (.tail _ (.head _))
theorem lexL_rest {P : Params} {p : Addr × Obj} (h : p ∈ R) : p ∈ lexL P i σ buf R := .tail _ (.tail _ (.tail _ h))
theorem LimIn.lex {P : Params} (h : LimIn w a R) : LimIn w a (lexL P i σ buf R) := h.tail.tail.tail
theorem m_append {pl : Sem Bool} {Q : Value × List Value → Shared → Prop} (S : St w g L m (lexL w.params i σ buf R) r s) (h : Q (.builtin "bytearray.append", [.ref σ.buffer]) s) : wpAny (model pw w) A (getMethod (.ref σ.buffer) "append" pl) Q E s :=
  getMethod_ba (S.N _ lexL_buf).1 h
end
local macro_rules | `(tactic| walk_at "lim") => `(tactic| first | assumption | exact LimIn.lex (by assumption))
local macro_rules | `(tactic| walk_at "sto") => ways "lim_text S h _ ; S a h lim ; i2|lim_width S h _ ; S a h lim ; i2|m_append S _ ; S a|o_tuple S hz _ ; S a hz d ; i3"
local macro_rules | `(tactic| walk_at "yc") => ways "yb1 h1 _ ; h1 r ; ap"
noncomputable def sgn : List UInt8 → Int
  | [] => -1
  | c :: _ => c.toNat

structure Vw (σ : Lx) (buf l : List UInt8) : Prop where
  pre : ∃ p, σ.text = p ++ l ∧ σ.at_ = (p.length : Int)
  sign : σ.sign = sgn l
  fit : σ.text.length ≤ 800000
  ln0 : 0 ≤ σ.line
  ln : σ.line + l.length ≤ 1000000
  bf : buf.length + l.length ≤ 900000

theorem Vw.at_ {σ : Lx} {buf l : List UInt8} (V : Vw σ buf l) : 0 ≤ σ.at_ ∧ σ.at_ + l.length = σ.text.length := by
  obtain ⟨p, h1, h2⟩ := V.pre
  rw [h1, h2, List.length_append]; lia

section
variable {w : World} {g : Heap} {R R' : Led} {r s : Shared} {A : Around} {E : Value → Shared → Prop} {Q : Value → Shared → Prop} {i : Id} {σ : Lx} {buf l : List UInt8} {c : UInt8} {k : Nat}

theorem c_move {bf : List UInt8} (rm : Rm A (k + 3)) (H : Hs w (lexL w.params i σ bf R) s) (V : Vw σ buf (c :: l))
    (h : ∀ s' t1 t2, Ef (lexL w.params i σ bf R) s (lexL w.params i ((σ.setAt (σ.at_ + 1) t1).setSign (sgn l) t2) bf R) s' → Q .none s') :
    wpAny (model pw w) A (call (.ref 322) [.ref i.x]) Q E s := by
  refine' enter (binds := [("self", .ref i.x)]) (lb := [("self", .ref i.x)]) rm H ?ho ?hcd ?hb ?hl ?hc ?h1 ?h2 ?h3 ?hr ?_
  walk_at "fn"
  intro L s E A S rm
  repeat' (walk_at "st")
  rename St _ _ _ _ _ _ _ => S
  with_reducible refine c_len (b := σ.text) S (by have := V.fit; lia) ?_
  intro s S t
  repeat' (walk_at "st")
  obtain ⟨a0, a1⟩ := V.at_
  obtain ⟨p, e1, e2⟩ := V.pre
  with_reducible refine ite_d (fun hc => ?_) (fun hc => ?_) <;> dsimp only [Lx.setAt] at hc
  · repeat' (walk_at "st")
    rename St _ _ _ _ _ _ _ => S
    with_reducible refine o_item (b := σ.text) (c := σ.at_ + 1) S (by have := V.fit; lia) (by lia) (by lia) ?_ rfl (fun _ => rfl)
    intro s S t
    have e3 : ((σ.text.getD (σ.at_ + 1).toNat 0).toNat : Int) = sgn l := by
      rw [e1, e2, show ((p.length : Int) + 1).toNat = p.length + 1 by lia, List.getD_eq_getElem?_getD, List.getElem?_append_right (by lia), Nat.add_sub_cancel_left]
      cases l with
      | nil => rw [e1] at hc; simp at hc; lia
      | cons d l => rfl
    rw [e3]
    repeat' (walk_at "st")
    rename St _ _ _ _ _ _ _ => S
    exact h _ _ _ S.ef
  · have e3 : l = [] := by
      cases l with
      | nil => rfl
      | cons d l => simp at a1; lia
    subst e3
    repeat' (walk_at "st")
    rename St _ _ _ _ _ _ _ => S
    exact h _ _ _ S.ef
end
section
variable {w : World} {g : Heap} {R R' : Led} {r s : Shared} {A : Around} {E : Value → Shared → Prop} {Q : Value → Shared → Prop} {i : Id} {σ : Lx} {buf l : List UInt8} {c : UInt8} {k : Nat} {t : Tok} {n : Int}

theorem c_keep (rm : Rm A (k + 3)) (H : Hs w (lexL w.params i σ buf R) s) (hl : LimIn w σ.limits R) (hz : buf.length < 1000000)
    (h : ∀ s', Ef (lexL w.params i σ buf R) s (lexL w.params i σ (buf ++ [c]) R) s' → Q .none s') :
    wpC (model pw w) A (call (.ref 329) [.ref i.x, .int c.toNat t]) Q E s := by
  refine' enterC (binds := [("self", .ref i.x), ("sign", .int c.toNat t)]) (lb := [("sign", .int c.toNat t), ("self", .ref i.x)]) rm H ?ho ?hcd ?hb ?hl ?hc ?h1 ?h2 ?h3 ?hr ?_
  walk_at "fn"
  intro L s E A S rm
  repeat' (walk_at "yy")
  rename St _ _ _ _ _ _ _ => S
  with_reducible refine len_ba (bs := buf) S lexL_buf (by lia) ?_
  intro s t S
  repeat' (walk_at "yy")
  with_reducible refine ite_d (fun hc => ?_) (fun hc => ?_)
  · lia
  repeat' (walk_at "yy")
  rename St _ _ _ _ _ _ _ => S
  with_reducible refine s_append S (by lia) ?_
  intro s S
  refine ⟨rfl, ?_⟩
  repeat' (walk_at "yy")
  exact h _ S.ef

/-- the view behind a step -/
structure Same (σ σ' : Lx) : Prop where
  same : σ' = { σ with at_ := σ'.at_, tat := σ'.tat, sign := σ'.sign, tsign := σ'.tsign, line := σ'.line, tline := σ'.tline, buffer := σ'.buffer }
theorem Same.rfl' {σ : Lx} : Same σ σ := ⟨rfl⟩
theorem Same.trans {σ σ' σ'' : Lx} (a : Same σ σ') (b : Same σ' σ'') : Same σ σ'' := ⟨by rw [b.same, a.same]⟩
theorem Same.limits {σ σ' : Lx} (a : Same σ σ') : σ'.limits = σ.limits := by rw [a.same]
theorem Same.kinds {σ σ' : Lx} (a : Same σ σ') : σ'.kinds = σ.kinds := by rw [a.same]
theorem Same.chunk {σ σ' : Lx} (a : Same σ σ') : σ'.chunk = σ.chunk := by rw [a.same]
theorem Same.text {σ σ' : Lx} (a : Same σ σ') : σ'.text = σ.text := by rw [a.same]

/-- one sign is passed -/
theorem Vw.move {bf : List UInt8} (V : Vw σ buf (c :: l)) (t1 t2 : Tok) (hb : bf.length ≤ buf.length + 1) : Vw ((σ.setAt (σ.at_ + 1) t1).setSign (sgn l) t2) bf l := by
  obtain ⟨p, e1, e2⟩ := V.pre
  have h1 := V.ln
  have h2 := V.bf
  simp only [List.length_cons] at h1 h2
  exact ⟨⟨p ++ [c], by simp [e1], by simp [e2]⟩, rfl, V.fit, V.ln0, by show σ.line + _ ≤ _; lia, by lia⟩
theorem Vw.buf0 {bf : List UInt8} (V : Vw σ buf l) (h : bf.length ≤ buf.length) : Vw σ bf l := ⟨V.pre, V.sign, V.fit, V.ln0, V.ln, by have := V.bf; lia⟩
theorem same_move {t1 t2 : Tok} {a b : Int} : Same σ ((σ.setAt a t1).setSign b t2) := ⟨rfl⟩

theorem d_move {bf : List UInt8} (rm : Rm A (k + 3)) (H : Hs w (lexL w.params i σ bf R) s) (V : Vw σ buf (c :: l)) (hb : bf.length ≤ buf.length + 1)
    (h : ∀ s' σ', Ef (lexL w.params i σ bf R) s (lexL w.params i σ' bf R) s' → Same σ σ' → Vw σ' bf l → Q .none s') :
    wpAny (model pw w) A (call (.ref 322) [.ref i.x]) Q E s :=
  c_move rm H V fun s' t1 t2 e => h s' _ e same_move (V.move t1 t2 hb)

theorem c_keep_and_move (rm : Rm A (k + 4)) (H : Hs w (lexL w.params i σ buf R) s) (hl : LimIn w σ.limits R) (V : Vw σ buf (c :: l))
    (h : ∀ s' σ', Ef (lexL w.params i σ buf R) s (lexL w.params i σ' (buf ++ [c]) R) s' → Same σ σ' → Vw σ' (buf ++ [c]) l → Q .none s') :
    wpC (model pw w) A (call (.ref 336) [.ref i.x]) Q E s := by
  refine' enterC (binds := [("self", .ref i.x)]) (lb := [("self", .ref i.x)]) rm H ?ho ?hcd ?hb ?hl ?hc ?h1 ?h2 ?h3 ?hr ?_
  walk_at "fn"
  intro L s E A S rm
  repeat' (walk_at "yy")
  rename St _ _ _ _ _ _ _ => S
  have e0 : σ.sign = c.toNat := V.sign
  rw [e0]
  with_reducible refine c_keep rm S.hs hl (by have := V.bf; lia) ?_
  intro s e
  have S := S.call e
  refine ⟨rfl, ?_⟩
  repeat' (walk_at "yy")
  rename St _ _ _ _ _ _ _ => S
  with_reducible refine wpC_of (d_move rm S.hs V (by simp) ?_)
  intro s σ' e sm V'
  have S := S.call e
  refine ⟨rfl, ?_⟩
  repeat' (walk_at "yy")
  exact h _ _ S.ef sm V'

/-- a run of one sign's tests -/
theorem c_is_newline (rm : Rm A (k + 1)) (H : Hs w R s) (h : ∀ s', Ef R s R s' → Q (.bool (decide (n = 10 ∨ n = 13))) s') : wpAny (model pw w) A (call (.ref 224) [.int n t]) Q E s := by
  refine' enter (binds := [("sign", .int n t)]) (lb := [("sign", .int n t)]) rm H ?ho ?hcd ?hb ?hl ?hc ?h1 ?h2 ?h3 ?hr ?_
  walk_at "fn"
  intro L s E A S rm
  repeat' (walk_at "st")
  rename St _ _ _ _ _ _ _ => S
  with_reducible refine o_in S List.mem_cons_self (.cons _ _ (.cons _ _ .nil)) ?_
  have S := S.drop
  have e : ([10, 13] : List Int).any (· == n) = decide (n = 10 ∨ n = 13) := by
    simp only [List.any_cons, List.any_nil, Bool.or_false]
    rw [Bool.eq_iff_iff]; simp; lia
  rw [e]
  exact h _ S.ef
theorem c_is_digit (rm : Rm A (k + 1)) (H : Hs w R s) (h : ∀ s', Ef R s R s' → Q (.bool (decide (48 ≤ n ∧ n ≤ 57))) s') : wpAny (model pw w) A (call (.ref 189) [.int n t]) Q E s := by
  refine' enter (binds := [("sign", .int n t)]) (lb := [("sign", .int n t)]) rm H ?ho ?hcd ?hb ?hl ?hc ?h1 ?h2 ?h3 ?hr ?_
  walk_at "fn"
  intro L s E A S rm
  repeat' (walk_at "st")
  with_reducible refine ite_d (fun hc => ?_) (fun hc => ?_)
  · repeat' (walk_at "st")
    rename St _ _ _ _ _ _ _ => S
    have := h _ S.ef
    simp only [hc, true_and] at this
    exact this
  · rename St _ _ _ _ _ _ _ => S
    have := h _ S.ef
    simp only [hc, false_and, decide_false] at this
    simp only [hc, decide_false]
    exact this
end
section
variable {w : World} {g : Heap} {R R' : Led} {r s : Shared} {A : Around} {E : Value → Shared → Prop} {Q : Value → Shared → Prop} {i : Id} {σ : Lx} {buf l : List UInt8} {c : UInt8} {k : Nat} {t : Tok} {n : Int}

theorem c_is_letter (rm : Rm A (k + 1)) (H : Hs w R s) (h : ∀ s' b, Ef R s R s' → (b = true ↔ (65 ≤ n ∧ n ≤ 90) ∨ (97 ≤ n ∧ n ≤ 122) ∨ n = 95) → Q (.bool b) s') : wpAny (model pw w) A (call (.ref 196) [.int n t]) Q E s := by
  refine' enter (binds := [("sign", .int n t)]) (lb := [("sign", .int n t)]) rm H ?ho ?hcd ?hb ?hl ?hc ?h1 ?h2 ?h3 ?hr ?_
  walk_at "fn"
  intro L s E A S rm
  repeat' (first | walk_at "st" | with_reducible refine ite_d (fun hc => ?_) (fun hc => ?_))
  all_goals (rename St _ _ _ _ _ _ _ => S; exact h _ _ S.ef (by simp only [decide_eq_true_eq]; lia))
theorem c_is_name (rm : Rm A (k + 2)) (H : Hs w R s) (h : ∀ s' b, Ef R s R s' → (b = true ↔ (65 ≤ n ∧ n ≤ 90) ∨ (97 ≤ n ∧ n ≤ 122) ∨ n = 95 ∨ (48 ≤ n ∧ n ≤ 57)) → Q (.bool b) s') : wpAny (model pw w) A (call (.ref 203) [.int n t]) Q E s := by
  refine' enter (binds := [("sign", .int n t)]) (lb := [("sign", .int n t)]) rm H ?ho ?hcd ?hb ?hl ?hc ?h1 ?h2 ?h3 ?hr ?_
  walk_at "fn"
  intro L s E A S rm
  repeat' (walk_at "st")
  rename St _ _ _ _ _ _ _ => S
  with_reducible refine c_is_letter rm S.hs fun s b e hb => ?_
  have S := S.call e
  repeat' (walk_at "st")
  with_reducible refine ite_b (fun hc => ?_) (fun hc => ?_)
  · exact h _ _ S.ef (by rw [hb]; rw [hc] at hb; simp only [true_iff] at hb; lia)
  repeat' (walk_at "st")
  rename St _ _ _ _ _ _ _ => S
  with_reducible refine c_is_digit rm S.hs fun s e => ?_
  have S := S.call e
  exact h _ _ S.ef (by rw [hc] at hb; simp only [decide_eq_true_eq]; simp only [Bool.false_eq_true, false_iff] at hb; lia)
theorem c_is_blank (rm : Rm A (k + 1)) (H : Hs w R s) (h : ∀ s' b, Ef R s R s' → (b = true ↔ n = 32 ∨ (9 ≤ n ∧ n ≤ 13)) → Q (.bool b) s') : wpAny (model pw w) A (call (.ref 210) [.int n t]) Q E s := by
  refine' enter (binds := [("sign", .int n t)]) (lb := [("sign", .int n t)]) rm H ?ho ?hcd ?hb ?hl ?hc ?h1 ?h2 ?h3 ?hr ?_
  walk_at "fn"
  intro L s E A S rm
  repeat' (first | walk_at "st" | with_reducible refine ite_d (fun hc => ?_) (fun hc => ?_))
  all_goals (rename St _ _ _ _ _ _ _ => S; exact h _ _ S.ef (by simp only [decide_eq_true_eq]; lia))
end
theorem Rm.one {A : Around} {k j : Nat} (x : Rm A (k + (j + 1))) : Rm A (j + 1) := x.le (by lia)
/-- what stands behind an end of line that opens with c -/
noncomputable def eol (c : UInt8) : List UInt8 → List UInt8
  | [] => []
  | d :: l => if (d = 10 ∨ d = 13) ∧ d ≠ c then l else d :: l
theorem eol_le (c : UInt8) (l : List UInt8) : (eol c l).length ≤ l.length := by
  cases l with
  | nil => exact Nat.le_refl _
  | cons d l =>
    show (if (d = 10 ∨ d = 13) ∧ d ≠ c then l else d :: l).length ≤ _
    split <;> simp

theorem toNat_ne {c d : UInt8} : ((c.toNat : Int) ≠ d.toNat) ↔ c ≠ d := by
  constructor
  · intro h e; exact h (by rw [e])
  · intro h e; exact h (UInt8.toNat_inj.mp (by lia))
theorem toNat_10 {c : UInt8} : ((c.toNat : Int) = 10) ↔ c = 10 := by
  constructor
  · intro h; exact UInt8.toNat_inj.mp (by show c.toNat = 10; lia)
  · intro h; rw [h]; rfl
theorem toNat_13 {c : UInt8} : ((c.toNat : Int) = 13) ↔ c = 13 := by
  constructor
  · intro h; exact UInt8.toNat_inj.mp (by show c.toNat = 13; lia)
  · intro h; rw [h]; rfl

set_option hygiene false in
local macro_rules | `(tactic| walk_at "stp") => `(tactic| (repeat' (walk_at "yy"); rename St _ _ _ _ _ _ _ => S))
set_option hygiene false in
local macro_rules | `(tactic| walk_at "stq") => `(tactic| (repeat' (walk_at "yy")))
section
variable {w : World} {g : Heap} {R R' : Led} {r s : Shared} {A : Around} {E : Value → Shared → Prop} {Q : Value → Shared → Prop} {i : Id} {σ σ' : Lx} {buf bf l l' : List UInt8} {c : UInt8} {k : Nat} {t : Tok} {n : Int}

theorem Vw.line {b : List UInt8} (V : Vw σ bf l) (W : Vw σ' b l') (h : σ'.line = σ.line) (hl : l'.length + 1 ≤ l.length) : Vw (σ'.setLine (σ'.line + 1) t) b l' :=
  ⟨W.pre, W.sign, W.fit, by have := W.ln0; show 0 ≤ σ'.line + 1; lia, by have := V.ln; show σ'.line + 1 + _ ≤ _; lia, W.bf⟩
theorem same_line {v : Int} : Same σ (σ.setLine v t) := ⟨rfl⟩

theorem e_move (rm : Rm A (k + 3)) (H : Hs w (lexL w.params i σ bf R) s) (V : Vw σ buf (c :: l)) (hb : bf.length ≤ buf.length + 1)
    (h : ∀ s' σ', Ef (lexL w.params i σ bf R) s (lexL w.params i σ' bf R) s' → Same σ σ' → σ'.line = σ.line → Vw σ' bf l → Q .none s') :
    wpAny (model pw w) A (call (.ref 322) [.ref i.x]) Q E s :=
  c_move rm H V fun s' t1 t2 e => h s' _ e same_move rfl (V.move t1 t2 hb)

theorem c_end_line (rm : Rm A (k + 4)) (H : Hs w (lexL w.params i σ bf R) s) (V : Vw σ buf (c :: l)) (hc : c = 10 ∨ c = 13) (hb : bf.length ≤ buf.length + 1)
    (h : ∀ s' σ', Ef (lexL w.params i σ bf R) s (lexL w.params i σ' bf R) s' → Same σ σ' → Vw σ' bf (eol c l) → Q .none s') :
    wpAny (model pw w) A (call (.ref 357) [.ref i.x]) Q E s := by
  refine' enter (binds := [("self", .ref i.x)]) (lb := [("self", .ref i.x)]) rm H ?ho ?hcd ?hb ?hl ?hc ?h1 ?h2 ?h3 ?hr ?_
  walk_at "fn"
  intro L s E A S rm
  repeat' (walk_at "yy")
  rename St _ _ _ _ _ _ _ => S
  have e0 : σ.sign = c.toNat := V.sign
  with_reducible refine e_move rm S.hs V hb ?_
  intro s σ₁ e sm ln V₁
  have S := S.call e
  refine ⟨rfl, ?_⟩
  have e1 : σ₁.sign = sgn l := V₁.sign
  repeat' (walk_at "yy")
  rename St _ _ _ _ _ _ _ => S
  with_reducible refine c_is_newline rm.one S.hs fun s e => ?_
  have S := S.call e
  walk_at "stp"
  refine ite_d (fun hd => ?_) (fun hd => ?_)
  · walk_at "stp"
    refine ite_d (fun hn => ?_) (fun hn => ?_)
    · cases l with
      | nil => exfalso; rw [e1] at hd; simp [sgn] at hd
      | cons d l =>
        have e1 : σ₁.sign = d.toNat := V₁.sign
        have hdc : (d = 10 ∨ d = 13) ∧ d ≠ c := by
          rw [e1, toNat_10, toNat_13] at hd
          refine ⟨hd, fun e => ?_⟩
          rw [e1, e0, e] at hn; exact absurd hn (by simp)
        walk_at "stp"
        with_reducible refine e_move rm S.hs V₁ (by lia) ?_
        intro s σ₂ e sm2 ln2 V₂
        have S := S.call e
        refine ⟨rfl, ?_⟩
        walk_at "stp"
        have b : ¬ (2147483645 ≤ σ₂.line + 1) := by
          have := V.ln; have := V.ln0; have := V.fit; lia
        refine ite_d (fun hm => absurd (by simpa using hm) b) (fun hm => ?_)
        walk_at "stp"
        refine h _ _ S.ef ((sm.trans sm2).trans same_line) ?_
        rw [show eol c (d :: l) = l from if_pos hdc]
        exact V.line V₂ (ln2.trans ln) (by simp only [List.length_cons]; lia)
    · walk_at "stp"
      have b : ¬ (2147483645 ≤ σ₁.line + 1) := by
        have := V.ln; have := V.ln0; have := V.fit; lia
      refine ite_d (fun hm => absurd (by simpa using hm) b) (fun hm => ?_)
      walk_at "stp"
      refine h _ _ S.ef (sm.trans same_line) ?_
      have V9 : ∀ t, Vw (σ₁.setLine (σ₁.line + 1) t) bf l := fun t => V.line V₁ ln (by simp only [List.length_cons]; lia)
      cases l with
      | nil => exact V9 _
      | cons d l =>
        have e1 : σ₁.sign = d.toNat := V₁.sign
        have : ¬ ((d = 10 ∨ d = 13) ∧ d ≠ c) := by
          rintro ⟨_, h2⟩
          rw [e1, e0] at hn; exact absurd hn (by simpa using toNat_ne.mpr h2)
        rw [show eol c (d :: l) = d :: l from if_neg this]
        exact V9 _
  · walk_at "stp"
    have b : ¬ (2147483645 ≤ σ₁.line + 1) := by
      have := V.ln; have := V.ln0; have := V.fit; lia
    refine ite_d (fun hm => absurd (by simpa using hm) b) (fun hm => ?_)
    walk_at "stp"
    refine h _ _ S.ef (sm.trans same_line) ?_
    have V9 : ∀ t, Vw (σ₁.setLine (σ₁.line + 1) t) bf l := fun t => V.line V₁ ln (by simp only [List.length_cons]; lia)
    cases l with
    | nil => exact V9 _
    | cons d l =>
      have e1 : σ₁.sign = d.toNat := V₁.sign
      have : ¬ ((d = 10 ∨ d = 13) ∧ d ≠ c) := by
        rintro ⟨h2, _⟩
        rw [e1, toNat_10, toNat_13] at hd
        exact absurd h2 (by simpa using hd)
      rw [show eol c (d :: l) = d :: l from if_neg this]
      exact V9 _
end
section
variable {w : World} {g : Heap} {L : Addr} {m : Str → Option Value} {R R' : Led} {r s : Shared} {A : Around} {E : Value → Shared → Prop} {Q : Value → Shared → Prop} {i : Id} {σ : Lx} {buf : List UInt8} {a : Addr} {o : Obj} {vs : List Value} {P : Params}
theorem St.perm (S : St w g L m R r s) (h : R.Perm R') : St w g L m R' r s :=
  ⟨S.base, S.F, fun p hp => S.N p (h.mem_iff.mpr hp), (h.map _).nodup_iff.mp S.nd, S.rest⟩
theorem St.sub (S : St w g L m R r s) (h : R'.Sublist R) : St w g L m R' r s :=
  ⟨S.base, S.F, fun p hp => S.N p (h.subset hp), List.Nodup.sublist (h.map _) S.nd, S.rest⟩
theorem lexL_into {p : Addr × Obj} : (p :: lexL P i σ buf R).Perm (lexL P i σ buf (p :: R)) := by
  unfold lexL
  have h3 : (p :: (σ.buffer, baObj buf) :: R).Perm ((σ.buffer, baObj buf) :: p :: R) := .swap _ _ _
  exact (List.Perm.swap _ _ _).trans (.cons _ ((List.Perm.swap _ _ _).trans (.cons _ h3)))
theorem St.into {p : Addr × Obj} (S : St w g L m (p :: lexL w.params i σ buf R) r s) : St w g L m (lexL w.params i σ buf (p :: R)) r s := S.perm lexL_into
theorem lexL_sub (h : R'.Sublist R) : (lexL P i σ buf R').Sublist (lexL P i σ buf R) := ((h.cons₂ _).cons₂ _).cons₂ _
theorem St.less (S : St w g L m (lexL w.params i σ buf R) r s) (h : R'.Sublist R) : St w g L m (lexL w.params i σ buf R') r s := S.sub (lexL_sub h)
theorem St.dropL {p : Addr × Obj} (S : St w g L m (lexL w.params i σ buf (p :: R)) r s) : St w g L m (lexL w.params i σ buf R) r s := S.less (List.sublist_cons_self _ _)
theorem ol_tuple (S : St w g L m (lexL w.params i σ buf R) r s) (hz : vs.length ≤ 1000) (h : ∀ s' a, St w g L m (lexL w.params i σ buf ((a, tupO vs) :: R)) r s' → Q (.ref a) s') : wpAny (model pw w) A (newTuple vs) Q E s :=
  o_tuple S hz fun s' a S => h s' a S.into
end
section
variable {M : Model} {A : Around} {E : Value → Shared → Prop} {s : Shared} {b : UInt8}
noncomputable def eqs : List UInt8 → Nat
  | [] => 0
  | c :: l => if c = 61 then eqs l + 1 else 0
noncomputable def past (l : List UInt8) : List UInt8 := l.drop (eqs l)
theorem eqs_eq {l : List UInt8} : eqs (61 :: l) = eqs l + 1 := rfl
theorem past_eq {l : List UInt8} : past (61 :: l) = past l := rfl
theorem eqs_ne {c : UInt8} {l : List UInt8} (h : c ≠ 61) : eqs (c :: l) = 0 := if_neg h
theorem past_ne {c : UInt8} {l : List UInt8} (h : c ≠ 61) : past (c :: l) = c :: l := by unfold past; rw [eqs_ne h]; rfl
theorem past_len : ∀ l : List UInt8, (past l).length + eqs l = l.length
  | [] => rfl
  | c :: l => by
    by_cases h : c = 61
    · subst h; rw [past_eq, eqs_eq, List.length_cons]; have := past_len l; lia
    · rw [past_ne h, eqs_ne h]; rfl
/-- what a bracket's level is said to be -/
noncomputable def lev (b : UInt8) (l : List UInt8) : Int := if sgn (past l) = b.toNat then eqs l else -(eqs l) - 1
end
local macro_rules | `(tactic| walk_at "lm") => ways "= Lm_hit|a|Lm_miss h1 h2 ; h1 k h2 lm"
local macro_rules | `(tactic| walk_at "sto") => ways "ol_tuple S hz _ ; S a hz d ; i3"
section
open PySem.Builtin
noncomputable def cut (b : List UInt8) (lo hi : Option Int) : List UInt8 := (b.drop (lo.elim 0 (clipAt b.length))).take (hi.elim b.length (clipAt b.length) - lo.elim 0 (clipAt b.length))
theorem cut_eq (b : List UInt8) (lo hi : Option Int) : KBy.picked b.toArray lo hi = (cut b lo hi).toArray := by
  rw [KBc.picked_eq]; unfold cut
  have e : (List.toArray b).size = b.length := List.size_toArray ..
  rw [e]
theorem cut_le (b : List UInt8) (lo hi : Option Int) : (cut b lo hi).length ≤ b.length := by
  unfold cut; rw [List.length_take, List.length_drop]; lia
section
variable {prog : Program} {w : World} {A : Around} {E : Value → Shared → Prop} {s : Shared} {R : Result → Shared → Prop} {l u : Value} {lo hi : Option Int}
theorem own_buffer_ba {M : Model} {b : Addr} {Q : Bool → Shared → Prop} (hT : s.TypeIs (.ref b) "bytearray") (h : Q true s) : wpAny M A (Bytes.slotIsOwn (.ref b) "__buffer__") Q E s := by
  unfold Bytes.slotIsOwn
  refine wpAny_bind (wpAny_specialOf hT FBA.look_buffer ?_)
  dsimp only
  rw [if_neg (by decide +kernel)]
  have e : ("bytearray.__buffer__".dropRight ("__buffer__".length + 1)) = "bytearray" := by decide +kernel
  rw [e]
  exact wpAny_isInstance hT FBA.sub h
theorem payload_ba {M : Model} {b : Addr} {bs : List UInt8} {Q : Array UInt8 → Shared → Prop} (hb : s.heap.get? b = some (baObj bs)) (h : Q bs.toArray s) : wpAny M A (Bytes.payload (.ref b)) Q E s := by
  unfold Bytes.payload Bytes.payload?
  exact wpAny_bind (wpAny_bind (wpAny_load hb (wpAny_pure (wpAny_pure h))))
theorem buffer_ba {M : Model} {b : Addr} {bs : List UInt8} {id : String} {full : Bool} {Q : Option (Array UInt8) → Shared → Prop} (hb : s.heap.get? b = some (baObj bs)) (h : Q (some bs.toArray) s) : wpAny M A (Bytes.buffer? id (.ref b) full) Q E s := by
  have hT : s.TypeIs (.ref b) "bytearray" := ⟨_, hb, rfl⟩
  unfold Bytes.buffer?
  refine wpAny_bind (wpAny_specialOf hT FBA.look_buffer ?_)
  refine wpAny_bind (own_buffer_ba hT ?_)
  rw [if_neg (by decide)]
  refine wpAny_bind (wpAny_specialOf hT FBA.look_buffer ?_)
  dsimp only
  refine wpAny_bind (own_release_ba hT ?_)
  rw [if_neg (by decide)]
  exact wpAny_bind (payload_ba hb (wpAny_pure h))

theorem bytes_new_ba {b : Addr} {bs : List UInt8} {Q : Value → Shared → Prop} (hb : s.heap.get? b = some (baObj bs)) (hz : bs.length ≤ 16777216)
    (hQ : ∀ t k, Q (.bytes bs.toArray t) { s with toks := k }) : codeAny (model prog w) A (.call (.builtin "bytes.__new__") ⟨[.type "bytes", .ref b], []⟩) (wants Q E) s := by
  refine codeAny_of_tree ?_
  show wpAny _ A.in1 (do checkBuiltinCall "bytes.__new__" ⟨[.type "bytes", .ref b], []⟩; again (.builtin "bytes.__new__" ⟨[.type "bytes", .ref b], []⟩)) _ _ s
  refine wpAny_bind (wpAny_of_eq (F.bm_newCall _) (wpAny_pure ⟨plainId_quiet F.bm_plain _, codeAny_builtin F.bm_entry ?_⟩))
  rw [Around.under_plainId F.bm_plain _]
  have hT : s.TypeIs (.ref b) "bytearray" := ⟨_, hb, rfl⟩
  unfold Builtin.«bytes.__new__»
  refine wpAny_bind (wpAny_of_eq (a := true) rfl ?_)
  refine bm_if_false rfl ?_
  refine wpAny_bind (wpAny_of_eq F.bm_sub ?_)
  refine bm_if_false rfl ?_
  refine wpAny_bind (wpAny_of_eq (F.bm_bind _) ?_)
  refine wpAny_bind (wpAny_of_eq (a := ()) rfl ?_)
  refine wpAny_bind (wpAny_of_eq (a := ()) rfl ?_)
  refine bm_if_false rfl ?_
  refine wpAny_bind (wpAny_specialOf hT FBA.noBytes ?_)
  refine wpAny_bind (wpAny_bind ?_)
  show wpAny _ _ (load b >>= _) _ _ _
  refine wpAny_bind (wpAny_load hb ?_)
  refine wpAny_pure (wpAny_pure ?_)
  refine bm_if_false rfl ?_
  refine wpAny_bind (wpAny_specialOf hT FBA.noIndex ?_)
  refine bm_if_true rfl ?_
  first
    | show wpAny _ _ (Builtin.Bytes.buffer? "bytes.__new__" (.ref b) true >>= _) _ _ _
    | (refine wpAny_bind ?_; show wpAny _ _ (Builtin.Bytes.buffer? "bytes.__new__" (.ref b) true >>= _) _ _ _)
  refine wpAny_bind (buffer_ba hb ?_)
  refine wpAny_bind (wpAny_rule ?_)
  refine wpAny_bind (wpAny_mkBytes ?_ (by rw [sizeLine_eq, List.size_toArray]; exact hz))
  refine bm_if_true (by decide) ?_
  first
    | exact wpAny_pure (hQ _ _)
    | exact wpAny_bind (wpAny_pure (wpAny_pure (hQ _ _)))

theorem call_bytes_ba {b : Addr} {bs : List UInt8} {Q : Value → Shared → Prop} (hb : s.heap.get? b = some (baObj bs)) (hz : bs.length ≤ 16777216)
    (hQ : ∀ t k, Q (.bytes bs.toArray t) { s with toks := k }) : wpAny (model prog w) A (call (.type "bytes") [.ref b]) Q E s := by
  refine callType_codes (Q₁ := fun obj s₁ => s₁.TypeIs obj "bytes" ∧ Q obj s₁) F.bm_called (F.bm_typeCall _) F.entry_object_init
    (bytes_new_ba hb hz fun t k => ⟨PySem.W.typeIs_bytes _ _ _, hQ t k⟩) fun obj s₁ h₁ => ?_
  exact ⟨h₁.1, F.args_object_init_2 obj _, object_init_meets F.bm_called.init.lookup F.bm_called.made (by decide) prog w A.in1 _ s₁ ⟨h₁.1, rfl, h₁.2⟩⟩

theorem getitem_ba {b a : Addr} {bs : List UInt8} (hl : IsPart l lo) (hu : IsPart u hi) :
    Meets («bytearray.__getitem__» ⟨[.ref b, .ref a], []⟩) (fun _ R s => s.heap.get? b = some (baObj bs) ∧ bs.length ≤ 16777216 ∧ s.heap.IsSliceOf a l u .none ∧ R (.ok (.ret (.ref s.heap.objs.size))) { s with heap := s.heap.push (baObj (cut bs lo hi)) }) := by
  refine .of_wp fun prog w A R s hS => ?_
  obtain ⟨hb, hz, ⟨o, ho, hc, hd⟩, h⟩ := hS
  have hT : s.TypeIs (.ref a) "slice" := ⟨o, ho, hc⟩
  unfold Builtin.«bytearray.__getitem__»
  refine wpAny_bind (wpAny_of_eq (a := (Value.ref b, [Value.ref a])) rfl ?_)
  dsimp only
  show wpAny _ _ (Bytes.subscript? (.ref a) >>= fun r => _) _ _ s
  refine wpAny_bind ?_
  unfold Bytes.subscript?
  refine wpAny_bind (wpAny_specialOf hT slice_no_index (wpAny_pure ?_))
  refine wpAny_bind (wpAny_typeOf hT ?_)
  show wpAny _ _ (Bytes.sliceParts (.ref a) >>= fun r => _) _ _ s
  refine wpAny_bind ?_
  unfold Bytes.sliceParts
  refine wpAny_bind (wpAny_field (x := .none) ho hd rfl ?_)
  kby_none
  refine wpAny_ite (KBy.ite_no (show ¬ ((Value.none == rawInt 0) = true) from Bool.false_ne_true) ?_)
  refine wpAny_bind (wpAny_field (x := l) ho hd rfl ?_)
  have go : wpAny (model prog w) A.in1 (sliceIndices (rawPart lo) (rawPart hi) (rawPart none) bs.toArray.size) (fun r s' => r = sliceBounds lo hi none bs.toArray.size ∧ s' = s) (fun _ _ => False) s :=
    wpAny_of_eq (sliceIndices_raw lo hi none bs.toArray.size (fun e => nomatch e)) ⟨rfl, rfl⟩
  cases hl <;> cases hu <;> (first
    | (kby_none; (refine wpAny_bind (wpAny_field (x := .none) ho hd rfl ?_)); kby_none)
    | (kby_none; (refine wpAny_bind (wpAny_field (x := .int _ _) ho hd rfl ?_)); kby_int)
    | (kby_int; (refine wpAny_bind (wpAny_field (x := .none) ho hd rfl ?_)); kby_none)
    | (kby_int; (refine wpAny_bind (wpAny_field (x := .int _ _) ho hd rfl ?_)); kby_int)) <;> refine wpAny_pure ?_
  all_goals
    refine wpAny_bind (payload_ba hb ?_)
    refine wpAny_bind (wpAny_mono go (fun r s' hr => ?_) fun _ _ e => e.elim)
    obtain ⟨hr1, hr2⟩ := hr
    subst hr1 hr2
    refine wpAny_bind ?_
    unfold Bytes.newBytearray
    refine wpAny_newObj_type ?_ ?_
    · have := h
      rw [show baObj (cut bs _ _) = { cls := .type "bytearray", data := .bytearray (cut bs _ _).toArray } from rfl, ← cut_eq] at this
      exact wpAny_pure ⟨_, rfl, this⟩
    · show (KBy.picked bs.toArray _ _).size ≤ sizeLine
      rw [cut_eq, List.size_toArray, sizeLine_eq]
      exact Nat.le_trans (cut_le _ _ _) hz
end

end
section
variable {w : World} {A : Around} {R : Led} {s : Shared} {Q E : Value → Shared → Prop} {k : Nat}
  {name qual : Str} {params : Arguments} {body : List Stmt} {scope : Scope} {dV kV doc pm cdv ct oc : Value} {an od : Option Addr} {osl : Array (Option Value)} {f : Addr} {args : List Value} {binds lb : List (Str × Value)} {W : Result → Shared → Prop}
theorem enterCode (rm : Rm A (k + 1)) (H : Hs w R s)
    (ho : (LX.hdC.heap_1 w.params).lookup f = some ⟨oc, od, .func (fnOf name qual params body scope dV kV doc pm an cdv ct), osl⟩)
    (hcd : codeIn (LX.hdC.heap_1 w.params) cdv qual = true)
    (hbind : BindsTo s (fnOf name qual params body scope dV kV doc pm an cdv ct) ⟨args, []⟩ binds) (hloc : ∀ y ∈ binds, scope.names.lookup y.1 = some .local)
    (hcell : ∀ x ∈ scope.names, x.2 ≠ .cell) (hco : scope.isCoroutine = false) (hgen : scope.isGenerator = false) (hk : scope.kind = .function)
    (hlb : binds.reverse = lb)
    (h : ∀ L s1 E' A', St w (hideAll s.heap (R.map (·.1))) L (Lm lb) R s s1 → Rm A' k →
      wpAny (model PySem.Challenge.pw_nt0646_01 w) A' (execs body (envOf qual scope L f cdv)) (RetQ (fun v s' => W (.ok (.ret v)) s')) E' s1) :
    codeAny (model PySem.Challenge.pw_nt0646_01 w) A (.call (.ref f) ⟨args, []⟩) W s := by
  obtain ⟨p, loose, mg, mb, T⟩ := H.base.T
  have hs : ∀ a o, (hideAll s.heap (R.map (·.1))).get? a = some o → s.heap.get? a = some o := fun a o e => of_hideAll _ e
  refine codeAny_call_def (fd := fnOf name qual params body scope dV kV doc pm an cdv ct) (body := body) (binds := binds) (by have := rm.d; lia) ((H.base.X.keeps hs) _ _ ho) rfl (T.nolimit.keeps hs) (codeRec_of (H.base.X.keeps hs) hcd) rfl hbind hcell hloc (fun h₁ hns hk₁ => ?_) hco hgen hk
  subst hlb
  refine wpAny_mono (h s.heap.objs.size { s with heap := h₁, toks := s.toks + binds.length } _ _ ⟨H.base, ⟨hns, fun b o e => hk₁ b o (hs b o e), Nat.le_of_eq (hideAll_size _ _)⟩, fun q hq => ⟨hk₁ _ _ (H.led q hq), Nat.ne_of_lt (Heap.lt_size (H.led q hq)), hideAll_none _ (List.mem_map_of_mem hq)⟩, H.nd, rfl, rfl, rfl⟩ rm.deeper)
    (fun fl s' hl => hl) (fun _ _ x => x)
theorem Rm.under {C : Addr} {rest : List Value} {kw : List (Str × Value)} (rm : Rm A (k + 1)) : Rm (A.under (.builtin "type.__call__" ⟨.ref C :: rest, kw⟩)) k := by
  refine ⟨?_, ?_, rm.h⟩
  · have := rm.d
    show A.depth + 1 + k < _
    lia
  · have := rm.u
    show A.units + 1 + 8 * k < _
    lia
end
section
variable {w : World} {g : Heap} {L : Addr} {m : Str → Option Value} {R R' : Led} {r s : Shared} {A : Around} {E : Value → Shared → Prop} {Q : Value → Shared → Prop} {C fI : Addr} {pos : List Value} {k : Nat} {kind value : Value}
theorem o_make (rm : Rm A (k + 1)) (S : St w g L m R r s) (hm : makesIn (LX.hdC.heap_1 w.params) C = true) (hi : findIn (LX.hdC.heap_1 w.params) (.ref C) "__init__" = some (some (.ref fI))) (hf : isFn (LX.hdC.heap_1 w.params) (.ref fI) = true)
    (h : ∀ x dx s' A', St w g L m ((x, instObj C dx) :: (dx, dictOf [] 0) :: R) r s' → Rm A' k →
      codeAny (model pw w) A' (.call (.ref fI) ⟨.ref x :: pos, []⟩) (InitBack x fun r s' => match r with | .ok (.ret v) => Q v s' | .ok _ => False | .error e => E e s') s') :
    wpAny (model pw w) A (call (.ref C) pos) Q E s :=
  call_cls S.F S.X S.N hm hi hf fun x dx h' F' N' a b => h x dx _ _ (S.heap _ F' N' (by
    have hd : ∀ q ∈ R.map (·.1), q < dx := fun q hq => by obtain ⟨p, hp, rfl⟩ := List.mem_map.mp hq; exact a p hp
    simp only [List.map_cons, List.nodup_cons, List.mem_cons, not_or]
    exact ⟨⟨Nat.ne_of_gt b, fun hq => absurd (hd _ hq) (Nat.lt_asymm b)⟩, fun hq => Nat.lt_irrefl _ (hd _ hq), S.nd⟩)) rm.under

noncomputable def tokEs (P : Params) (k1 k2 : Tok) (kind value : Value) : List DictEntry := [en P "kind" k1 kind, en P "value" k2 value]
noncomputable def tokL (P : Params) (x dx : Addr) (k1 k2 : Tok) (kind value : Value) : Led := [(x, instObj 262 dx), (dx, dictOf (tokEs P k1 k2 kind value) 2)]
theorem tok_facts : makesIn (LX.hdC.heap_1 w.params) 262 = true ∧ findIn (LX.hdC.heap_1 w.params) (.ref 262) "__init__" = some (some (.ref 259)) ∧ isFn (LX.hdC.heap_1 w.params) (.ref 259) = true ∧
  findIn (LX.hdC.heap_1 w.params) (.ref 262) "__setattr__" = some (some (.builtin "object.__setattr__")) ∧ plainOver (LX.hdC.heap_1 w.params) 262 = true ∧ takerIn (LX.hdC.heap_1 w.params) 262 "kind" = some none ∧ takerIn (LX.hdC.heap_1 w.params) 262 "value" = some none ∧
  hasDictIn (LX.hdC.heap_1 w.params) 262 = true ∧ plainGet (LX.hdC.heap_1 w.params) 262 "a" = true ∧ findIn (LX.hdC.heap_1 w.params) (.ref 262) "kind" = some none ∧ findIn (LX.hdC.heap_1 w.params) (.ref 262) "value" = some none := by and_intros <;> kernel_rfl!
theorem tk_put1 {P : Params} : ∀ t, (putL "kind" (PyData.keyHash P "kind") (.str "kind" t) kind [], putN "kind" [] 0) = ([en P "kind" t kind], 1) := fun t => by kernel_rfl!
theorem tk_put2 {P : Params} {u : Tok} : ∀ t, (putL "value" (PyData.keyHash P "value") (.str "value" t) value [en P "kind" u kind], putN "value" [en P "kind" u kind] 1) = (tokEs P u t kind value, 2) := fun t => by kernel_rfl!
theorem tk_get1 {P : Params} {u t : Tok} : getL "kind" (tokEs P u t kind value) = some (some kind) := by kernel_rfl!
theorem tk_get2 {P : Params} {u t : Tok} : getL "value" (tokEs P u t kind value) = some (some value) := by kernel_rfl!
theorem tk_no2 {P : Params} {u : Tok} : getL "value" [en P "kind" u kind] = some none := by kernel_rfl!
end
section
variable {w : World} {g : Heap} {L : Addr} {m : Str → Option Value} {R R' : Led} {r s : Shared} {A : Around} {E : Value → Shared → Prop} {Q : Value → Shared → Prop} {C fI : Addr} {pos : List Value} {k : Nat} {kind value v : Value} {x dx : Addr} {es es' : List DictEntry} {n n' : Nat} {nm : Str} {W : Result → Shared → Prop}
  {i : Id} {σ : Lx} {buf : List UInt8}
theorem head_set {es' : Tok → List DictEntry} {Q : Unit → Shared → Prop} (S : St w g L m ((x, instObj C dx) :: (dx, dictOf es n) :: R) r s)
    (hs : findIn (LX.hdC.heap_1 w.params) (.ref C) "__setattr__" = some (some (.builtin "object.__setattr__"))) (hp : plainOver (LX.hdC.heap_1 w.params) C = true) (ht : takerIn (LX.hdC.heap_1 w.params) C nm = some none)
    (hh : hasDictIn (LX.hdC.heap_1 w.params) C = true) (hl : (getL nm es).isSome = true)
    (e : ∀ t, (putL nm (PyData.keyHash w.params nm) (.str nm t) v es, putN nm es n) = (es' t, n')) (hz : ∀ t, (es' t).length ≤ 1000)
    (h : ∀ s' t, St w g L m ((x, instObj C dx) :: (dx, dictOf (es' t) n') :: R) r s' → Q () s') : wpAny (model pw w) A (setAttr (.ref x) nm v) Q E s := by
  have nd := S.nd
  simp only [List.map_cons, List.nodup_cons, List.mem_cons, not_or] at nd
  refine set_dict (es' := es' (s.toks + 1)) S.F S.X S.N (InstAt.of_news S.N List.mem_cons_self (List.mem_cons_of_mem _ List.mem_cons_self)) rfl hs hp ht hh hl (e _) (.tail nd.1.1 (.head fun p hp => fun q => nd.2.1 (q ▸ List.mem_map_of_mem hp))) (hz _)
    fun h' F' N' => h _ _ (S.heap _ F' N' S.nd)

theorem tk_iss {P : Params} {u : Tok} : (getL "value" [en P "kind" u kind]).isSome = true := by rw [tk_no2]; rfl
theorem init_token (rm : Rm A (k + 1)) (H : Hs w ((x, instObj 262 dx) :: (dx, dictOf [] 0) :: R) s)
    (h : ∀ k1 k2 s', Ef ((x, instObj 262 dx) :: (dx, dictOf [] 0) :: R) s (tokL w.params x dx k1 k2 kind value ++ R) s' → W (.ok (.ret .none)) s') :
    codeAny (model pw w) A (.call (.ref 259) ⟨[.ref x, kind, value], []⟩) W s := by
  refine' enterCode (binds := [("self", .ref x), ("kind", kind), ("value", value)]) (lb := [("value", value), ("kind", kind), ("self", .ref x)]) rm H ?ho ?hcd ?hb ?hl ?hc ?h1 ?h2 ?h3 ?hr ?_
  walk_at "fn"
  intro L s E A S rm
  obtain ⟨f1, f2, f3, f4, f5, f6, f7, f8, f9, f10, f11⟩ := tok_facts (w := w)
  walk_at "stq"
  rename St _ _ _ _ _ _ _ => S
  with_reducible refine head_set (es' := fun t => [en w.params "kind" t kind]) S f4 f5 f6 f8 rfl tk_put1 (fun _ => Nat.le_of_ble_eq_true rfl) ?_
  intro s t S
  walk_at "stq"
  with_reducible refine head_set (es' := fun u => tokEs w.params t u kind value) S f4 f5 f7 f8 tk_iss tk_put2 (fun _ => Nat.le_of_ble_eq_true rfl) ?_
  intro s t S
  walk_at "stq"
  exact h _ _ _ S.ef

theorem o_token (rm : Rm A (k + 2)) (S : St w g L m R r s) (h : ∀ x dx k1 k2 s', St w g L m (tokL w.params x dx k1 k2 kind value ++ R) r s' → Q (.ref x) s') :
    wpAny (model pw w) A (call (.ref 262) [kind, value]) Q E s := by
  obtain ⟨f1, f2, f3, f4, f5, f6, f7, f8, f9, f10, f11⟩ := tok_facts (w := w)
  refine o_make rm S f1 f2 f3 fun x dx s' A' S' rm' => ?_
  exact init_token rm' S'.hs fun k1 k2 s' e => ⟨rfl, h _ _ _ _ _ (S'.call e)⟩
theorem ol_token (rm : Rm A (k + 2)) (S : St w g L m (lexL w.params i σ buf R) r s) (h : ∀ x dx k1 k2 s', St w g L m (lexL w.params i σ buf (tokL w.params x dx k1 k2 kind value ++ R)) r s' → Q (.ref x) s') :
    wpAny (model pw w) A (call (.ref 262) [kind, value]) Q E s :=
  o_token rm S fun x dx k1 k2 s' S => h x dx k1 k2 s' (S.perm ((List.Perm.cons _ lexL_into).trans lexL_into))
end
section
variable {w : World} {g : Heap} {L : Addr} {m : Str → Option Value} {R R' : Led} {r s : Shared} {A : Around} {E : Value → Shared → Prop} {Q : Value → Shared → Prop} {a b : Addr} {bs : List UInt8} {l u : Value} {lo hi : Option Int} {value slice : PySem.Expr} {pos : Pos} {ev : Env} {t : Tok}
  {i : Id} {σ : Lx} {buf : List UInt8}
theorem o_slice_ba (S : St w g L m R r s) (hb : (b, baObj bs) ∈ R) (hl : IsPart l lo) (hu : IsPart u hi) (hz : bs.length ≤ 16777216)
    (hs : subscripted slice false (.ref b) (.ref s.heap.objs.size) = operate [.ref s.heap.objs.size, .ref b] (getItem (.ref b) (.ref s.heap.objs.size)))
    (h : ∀ s' a, St w g L m ((a, baObj (cut bs lo hi)) :: R) r s' → Q (.ref a) s') :
    wpAny (model pw w) A (subscriptTail value slice (.ref b) (.ref s.heap.objs.size)) Q E { s with heap := s.heap.push { cls := .type "slice", data := .fields #[l, u, .none] } } := by
  have S1 : St w g L m R r { s with heap := s.heap.push { cls := .type "slice", data := .fields #[l, u, .none] } } := (S.more (k := s.toks) (S.F.push _) (S.N.push S.F _)).drop
  have hb' := (S1.N _ hb).1
  have hT : ({ s with heap := s.heap.push { cls := .type "slice", data := .fields #[l, u, .none] } } : Shared).TypeIs (.ref b) "bytearray" := ⟨_, hb', rfl⟩
  unfold subscriptTail
  refine wpAny_bind ?_
  rw [getitemInPython_of_ne hT.not_modules]
  refine wpAny_bind (wpAny_specialOf hT FBA.slot_getitem.lookup ?_)
  have gi : wpAny (model pw w) A (getItem (.ref b) (.ref s.heap.objs.size)) Q E { s with heap := s.heap.push { cls := .type "slice", data := .fields #[l, u, .none] } } :=
    getItem_meets hT (by decide) FBA.slot_getitem FBA.entry_getitem (FBA.args_getitem _ _) (getitem_ba hl hu) ⟨hb', hz, Heap.IsSliceOf.new _ _ _ _, h _ _ (S1.more (S1.F.push _) (S1.N.push S1.F _))⟩
  have fin : wpAny (model pw w) A (subscripted slice false (.ref b) (.ref s.heap.objs.size)) (fun r s₃ => wpAny (model pw w) A (letTemporaryGo value (.ref b) r >>= fun _ => pure r) Q E s₃) E { s with heap := s.heap.push { cls := .type "slice", data := .fields #[l, u, .none] } } := by
    rw [hs]
    exact wpAny_operating (wpAny_mono gi (fun r s₃ h₃ => wpAny_bind (wpAny_letTemporaryGo (wpAny_pure h₃))) fun _ _ x => x)
  first
    | exact wpAny_pure (wpAny_bind fin)
    | exact wpAny_bind (wpAny_pure (wpAny_bind fin))
    | exact wpAny_bind fin
theorem o_slice_by (S : St w g L m R r s) (hl : IsPart l lo) (hu : IsPart u hi) (hz : bs.length ≤ 16777216)
    (hs : subscripted slice false (.bytes bs.toArray t) (.ref s.heap.objs.size) = operate [.ref s.heap.objs.size, .bytes bs.toArray t] (getItem (.bytes bs.toArray t) (.ref s.heap.objs.size)))
    (ht : ∀ r, letTemporaryGo value (.bytes bs.toArray t) r = pure ())
    (h : ∀ s' t', St w g L m R r s' → Q (.bytes (cut bs lo hi).toArray t') s') :
    wpAny (model pw w) A (subscriptTail value slice (.bytes bs.toArray t) (.ref s.heap.objs.size)) Q E { s with heap := s.heap.push { cls := .type "slice", data := .fields #[l, u, .none] } } :=
  tail_of_ItemOn ⟨"bytes", _, FB.slot_bytes_getitem.lookup, typeIs_bytes _ _ _, getItem_meets (typeIs_bytes _ _ _) (by decide) FB.slot_bytes_getitem FB.entry_bytes_getitem (FB.args_bytes_getitem_2 _ _) (KBc.meets_slice2 bs.toArray t _ hl hu)
    ⟨Heap.IsSliceOf.new _ _ _ _, by rw [cut_eq, List.size_toArray, sizeLine_eq]; exact Nat.le_trans (cut_le _ _ _) hz, fun t' k => by rw [cut_eq]; exact h _ _ (S.more (k := k) (S.F.push _) (S.N.push S.F _)).drop⟩⟩ hs ht
theorem o_bytes_ba (S : St w g L m R r s) (hb : (b, baObj bs) ∈ R) (hz : bs.length ≤ 16777216) (h : ∀ s' t, St w g L m R r s' → Q (.bytes bs.toArray t) s') : wpAny (model pw w) A (call (.type "bytes") [.ref b]) Q E s :=
  call_bytes_ba (S.N _ hb).1 hz fun t k => h _ t (S.tok k)
theorem y_newba (S : St w g L m R r s) (h : ∀ s' a, St w g L m ((a, baObj []) :: R) r s' → Q (.ref a) s') : wpC (model pw w) A (call (.type "bytearray") []) Q E s := by
  have S1 := S.more (o := baObj []) (k := s.toks) (S.F.push _) (S.N.push S.F _)
  have hR : ∀ p ∈ R, p.1 ≠ s.heap.objs.size := fun p hp e => S.new_not (e ▸ List.mem_map_of_mem hp)
  obtain ⟨F', N'⟩ := news_upd (pre := []) (post := R) (f := Obj.mapBytearray (fun _ => #[])) (o' := baObj []) S1.F S1.N (fun p hp => by cases hp) hR rfl rfl
  exact type_ba (h _ _ (S1.heap _ F' N' S1.nd))
theorem sp_buffer {P : Params} : ∀ u n, (putL "buffer" (PyData.keyHash P "buffer") (.str "buffer" u) (.ref a) (lexEs P σ), putN "buffer" (lexEs P σ) n) = (lexEs P (σ.setBuf a), n) := fun u n => by kernel_rfl!
theorem lx_setbuf {Q : Unit → Shared → Prop} (S : St w g L m ((a, baObj bs) :: lexL w.params i σ buf R) r s) (h : ∀ s', St w g L m (lexL w.params i (σ.setBuf a) bs R) r s' → Q () s') :
    wpAny (model pw w) A (setAttr (.ref i.x) "buffer" (.ref a)) Q E s := by
  have nd := S.nd
  have S0 : St w g L m ((i.x, instObj 465 i.dx) :: (i.dx, dictOf (lexEs w.params σ) i.n) :: (a, baObj bs) :: R) r s := by
    refine (S.sub (R' := (a, baObj bs) :: (i.x, instObj 465 i.dx) :: (i.dx, dictOf (lexEs w.params σ) i.n) :: R) ?_).perm ?_
    · exact (((List.sublist_cons_self _ _).cons₂ _).cons₂ _).cons₂ _
    · exact (List.Perm.swap _ _ _).trans (.cons _ (.swap _ _ _))
  refine head_set (es' := fun _ => lexEs w.params (σ.setBuf a)) S0 cl_setattr cl_plainOver nt_buffer cl_hasDict (by rw [gl_buffer]; rfl) (fun t => sp_buffer t i.n) (fun _ => by show 12 ≤ 1000; decide) fun s' _ S' => h s' S'
theorem y_t0 {T : String} (h : wpC (model pw w) A (call (.type T) []) Q E s) : wpC (model pw w) A (callWith pos (.type T) [] (backTo pos (starEach [] ev)) []) Q E s := by
  show wpC (model pw w) A (callWith pos (.type T) [] [] []) Q E s
  unfold callWith
  refine wpC_bind (wpC_holding (yn_args0 (wpC_bind (wpC_standAt ?_))))
  refine wpC_bind (wpC_pure ?_)
  exact wpC_bind (wpC_mono h (fun r s₂ hr => wpC_bind (wpC_holding (wpC_point (wpC_pure hr)))) fun _ _ x => x)
theorem y_t1 {T : String} {x : Expr} (hs : starEach [x] ev = [(false, eval x ev)])
    (h : wpC (model pw w) A (eval x ev) (fun v s₁ => wpC (model pw w) A (call (.type T) [v]) Q E s₁) E s) :
    wpC (model pw w) A (callWith pos (.type T) [] (backTo pos (starEach [x] ev)) []) Q E s := by
  have e' : backTo pos (starEach [x] ev) = [(false, eval x ev)] := by rw [hs]; rfl
  rw [e']
  unfold callWith
  refine wpC_bind (wpC_holding (yEv_plain (ySp_cons (wpC_mono h (fun v s₁ h => ySp_nil (wpC_bind (wpC_standAt ?_))) fun _ _ x => x))))
  refine wpC_bind (wpC_pure ?_)
  exact wpC_bind (wpC_mono h (fun r s₂ hr => wpC_bind (wpC_holding (wpC_point (wpC_pure hr)))) fun _ _ x => x)
end
local macro_rules | `(tactic| walk_at "mem") => `(tactic| with_reducible first | exact List.mem_cons_self | exact lexL_buf | exact List.mem_cons_of_mem _ lexL_buf | assumption | exact lexL_rest List.mem_cons_self | exact lexL_rest (by assumption))
local macro_rules | `(tactic| walk_at "sto") => ways "o_slice_ba S hb hl hu hz hs _ ; S a hb mem hl c hu c hz o hs u ; i3|o_slice_by S hl hu hz hs ht _ ; S a hl c hu c hz o hs u ht t ; i3|o_bytes_ba S hb hz _ ; S a hb mem hz o ; i3|len_ba S hb hz _ ; S a hb mem hz o ; i3|lx_setbuf S _ ; S a ; i2|wpAny_Slice _|evalPart_none_step _|evalPart_some_step _"
local macro_rules | `(tactic| walk_at "yt") => ways "y_tcmpC _ h1 ; h1 u"
local macro_rules | `(tactic| walk_at "yc") => ways "y_t0 _|y_t1 h1 _ ; h1 r"
local macro_rules | `(tactic| walk_at "yy") => ways "! wpAny eval 2 ; ; ste|! wpAny execs 2 ; ; stx|! wpAny isTrue 3 ; ; stt|y_newba S _ ; S a ; i3|wpC_bytes _|! wpC compareOp 3 ; ; wo"
section
variable {w : World} {g : Heap} {R R' : Led} {r s s0 : Shared} {A : Around} {E : Value → Shared → Prop} {Q : Value → Shared → Prop} {i : Id} {σ σ' : Lx} {buf bf l l' : List UInt8} {c : UInt8} {k : Nat} {t : Tok} {n : Int} {a : Addr} {vs : List Value} {ns : List Int} {b : UInt8}

theorem c_keep_if (rm : Rm A (k + 5)) (H : Hs w (lexL w.params i σ buf R) s) (hl : LimIn w σ.limits R) (V : Vw σ buf l) (ht : (a, tupO vs) ∈ R) (hi : IntsAre vs ns) (hn : ns.any (· == -1) = false)
    (h0 : ns.any (· == sgn l) = false → ∀ s', Ef (lexL w.params i σ buf R) s (lexL w.params i σ buf R) s' → Q (.bool false) s')
    (h1 : ∀ c l', l = c :: l' → ns.any (· == (c.toNat : Int)) = true → ∀ s' σ', Ef (lexL w.params i σ buf R) s (lexL w.params i σ' (buf ++ [c]) R) s' → Same σ σ' → Vw σ' (buf ++ [c]) l' → Q (.bool true) s') :
    wpC (model pw w) A (call (.ref 343) [.ref i.x, .ref a]) Q E s := by
  refine' enterC (binds := [("self", .ref i.x), ("signs", .ref a)]) (lb := [("signs", .ref a), ("self", .ref i.x)]) rm H ?ho ?hcd ?hb ?hl ?hc ?h1 ?h2 ?h3 ?hr ?_
  walk_at "fn"
  intro L s E A S rm
  walk_at "stp"
  have e0 : σ.sign = sgn l := V.sign
  with_reducible refine o_notin S (lexL_rest ht) hi ?_
  walk_at "stp"
  rw [e0]
  refine ite_b (fun hc => ?_) (fun hc => ?_)
  · walk_at "stp"
    exact h0 (by simpa using hc) _ S.ef
  · walk_at "stp"
    cases l with
    | nil => simp only [sgn] at hc; rw [hn] at hc; cases hc
    | cons c l =>
      with_reducible refine c_keep_and_move rm S.hs hl V ?_
      intro s σ' e sm V'
      have S := S.call e
      refine ⟨rfl, ?_⟩
      walk_at "stp"
      exact h1 c l rfl (by simpa [sgn] using hc) _ _ S.ef sm V'

theorem c_sign_behind (rm : Rm A (k + 3)) (H : Hs w (lexL w.params i σ bf R) s) (V : Vw σ buf (c :: l))
    (h : ∀ s' t, Ef (lexL w.params i σ bf R) s (lexL w.params i σ bf R) s' → Q (.int (sgn l) t) s') :
    wpAny (model pw w) A (call (.ref 378) [.ref i.x]) Q E s := by
  refine' enter (binds := [("self", .ref i.x)]) (lb := [("self", .ref i.x)]) rm H ?ho ?hcd ?hb ?hl ?hc ?h1 ?h2 ?h3 ?hr ?_
  walk_at "fn"
  intro L s E A S rm
  walk_at "stp"
  with_reducible refine c_len (b := σ.text) S (by have := V.fit; lia) ?_
  intro s S t
  walk_at "stq"
  obtain ⟨a0, a1⟩ := V.at_
  obtain ⟨p, e1, e2⟩ := V.pre
  with_reducible refine ite_d (fun hc => ?_) (fun hc => ?_)
  · walk_at "stp"
    with_reducible refine o_item (b := σ.text) (c := σ.at_ + 1) S (by have := V.fit; lia) (by lia) (by lia) ?_ rfl (fun _ => rfl)
    intro s S t
    have e3 : ((σ.text.getD (σ.at_ + 1).toNat 0).toNat : Int) = sgn l := by
      rw [e1, e2, show ((p.length : Int) + 1).toNat = p.length + 1 by lia, List.getD_eq_getElem?_getD, List.getElem?_append_right (by lia), Nat.add_sub_cancel_left]
      cases l with
      | nil => rw [e1] at hc; simp at hc; lia
      | cons d l => rfl
    rw [e3]
    exact h _ _ S.ef
  · have e3 : l = [] := by
      cases l with
      | nil => rfl
      | cons d l => simp at a1; lia
    subst e3
    walk_at "stp"
    exact h _ _ S.ef

theorem c_read_level (rm : Rm A (k + 5)) (H : Hs w (lexL w.params i σ buf R) s0) (hl : LimIn w σ.limits R) (V : Vw σ buf (b :: l))
    (h : ∀ s' σ' t, Ef (lexL w.params i σ buf R) s0 (lexL w.params i σ' (buf ++ b :: List.replicate (eqs l) 61) R) s' → Same σ σ' → Vw σ' (buf ++ b :: List.replicate (eqs l) 61) (past l) → Q (.int (lev b l) t) s') :
    wpC (model pw w) A (call (.ref 427) [.ref i.x]) Q E s0 := by
  refine' enterC (binds := [("self", .ref i.x)]) (lb := [("self", .ref i.x)]) rm H ?ho ?hcd ?hb ?hl ?hc ?h1 ?h2 ?h3 ?hr ?_
  walk_at "fn"
  intro L s E A S rm
  walk_at "stp"
  with_reducible refine c_keep_and_move rm S.hs hl V ?_
  intro s σ₁ e sm V₁
  have S := S.call e
  refine ⟨rfl, ?_⟩
  have e0 : σ.sign = b.toNat := V.sign
  with_reducible refine y_while (fun n s => E6 fun (v : Int) (j : Nat) (σ₂ : Lx) (l₂ : List UInt8) (ls : List (Str × Value)) (t : Tok) => A10 (v = j) (eqs l = j + eqs l₂) (past l = past l₂) (Same σ σ₂) (Vw σ₂ (buf ++ b :: List.replicate j 61) l₂) (n = l₂.length) (St w (hideAll s0.heap ((lexL w.params i σ buf R).map (·.1))) L (Lm ls) (lexL w.params i σ₂ (buf ++ b :: List.replicate j 61) R) s0 s) (Lm ls "self" = some (.ref i.x)) (Lm ls "many" = some (.int v t)) (Lm ls "bracket" = some (.int σ.sign σ.tsign))) l.length ?_ ?_
  · exact ⟨0, 0, σ₁, l, _, _, rfl, (Nat.zero_add _).symm, rfl, sm, V₁, rfl, S, by walk_at "lm", by walk_at "lm", by walk_at "lm"⟩
  intro n s E' N hN hI
  obtain ⟨v, j, σ₂, l₂, ls, t, q0, q1, q2, sm2, V₂, rfl, S, m1, m2, m3⟩ := hI
  have e2 : σ₂.sign = sgn l₂ := V₂.sign
  walk_at "stp"
  rw [e2]
  refine ite_d (fun hc => ?_) (fun hc => ?_)
  · cases l₂ with
    | nil => exact absurd hc (by decide)
    | cons c l₃ =>
      have hc' : c = 61 := UInt8.toNat_inj.mp (by have h61 : (61 : UInt8).toNat = 61 := rfl; simp only [sgn] at hc; lia)
      subst hc'
      walk_at "stp"
      with_reducible refine c_keep_and_move rm S.hs (by rw [sm2.limits]; exact hl) V₂ ?_
      intro s σ₃ e sm3 V₃
      have S := S.call e
      refine ⟨rfl, ?_⟩
      walk_at "stp"
      have hb : (buf ++ b :: List.replicate j 61) ++ [61] = buf ++ b :: List.replicate (j + 1) 61 := by simp [List.replicate_succ']
      rw [hb] at V₃ S
      exact hN ⟨l₃.length, by simp, v + 1, j + 1, σ₃, l₃, _, _, by lia, by rw [q1, eqs_eq]; lia, by rw [q2, past_eq], sm2.trans sm3, V₃, rfl, S, by walk_at "lm", by walk_at "lm", by walk_at "lm"⟩
  · have hp : past l₂ = l₂ ∧ eqs l₂ = 0 := by
      cases l₂ with
      | nil => exact ⟨rfl, rfl⟩
      | cons c l₃ =>
        have : c ≠ 61 := fun e => hc (by rw [e]; rfl)
        exact ⟨past_ne this, eqs_ne this⟩
    obtain ⟨p1, p2⟩ := hp
    rw [p1] at q2; rw [p2, Nat.add_zero] at q1
    subst q1 q0
    walk_at "stp"
    have hL : lev b l = if sgn l₂ = b.toNat then ((eqs l : Nat) : Int) else -((eqs l : Nat) : Int) - 1 := by unfold lev; rw [q2]
    rw [← q2] at V₂
    refine ite_d (fun hd => ?_) (fun hd => ?_)
    · walk_at "stp"
      rw [if_pos (by lia)] at hL
      have := h _ _ ‹Tok› S.ef sm2 V₂
      rw [hL] at this
      exact this
    · walk_at "stp"
      rw [if_neg (by lia)] at hL
      have := fun t => h _ _ t S.ef sm2 V₂
      rw [hL] at this
      exact this _
end
section
variable {w : World} {g : Heap} {R R' : Led} {r s s0 : Shared} {A : Around} {E : Value → Shared → Prop} {Q : Value → Shared → Prop} {i : Id} {σ σ' : Lx} {buf bf l l' : List UInt8} {c : UInt8} {k : Nat} {t : Tok} {n : Int} {a : Addr} {vs : List Value} {ns : List Int} {b : UInt8}

theorem same_buf : Same σ (σ.setBuf a) := ⟨rfl⟩
theorem Vw.setBuf (V : Vw σ buf l) : Vw (σ.setBuf a) buf l := ⟨V.pre, V.sign, V.fit, V.ln0, V.ln, V.bf⟩
theorem c_clear (rm : Rm A (k + 2)) (H : Hs w (lexL w.params i σ buf R) s) (V : Vw σ buf l)
    (h : ∀ s' σ', Ef (lexL w.params i σ buf R) s (lexL w.params i σ' [] R) s' → Same σ σ' → Vw σ' [] l → Q .none s') :
    wpC (model pw w) A (call (.ref 350) [.ref i.x]) Q E s := by
  refine' enterC (binds := [("self", .ref i.x)]) (lb := [("self", .ref i.x)]) rm H ?ho ?hcd ?hb ?hl ?hc ?h1 ?h2 ?h3 ?hr ?_
  walk_at "fn"
  intro L s E A S rm
  walk_at "stp"
  exact h _ _ S.ef same_buf ((V.buf0 (Nat.zero_le _)).setBuf)

/-- a bracket within a long text: no second opening at level 0 -/
theorem c_read_inner (rm : Rm A (k + 6)) (H : Hs w (lexL w.params i σ buf R) s) (hl : LimIn w σ.limits R) (V : Vw σ buf (91 :: l)) {v : Int} (hv : 0 ≤ v)
    (h0 : lev 91 l ≠ v → ∀ s' σ', Ef (lexL w.params i σ buf R) s (lexL w.params i σ' (buf ++ 91 :: List.replicate (eqs l) 61) R) s' → Same σ σ' → Vw σ' (buf ++ 91 :: List.replicate (eqs l) 61) (past l) → Q .none s')
    (h1 : ∀ l', past l = 91 :: l' → v ≠ 0 → lev 91 l = v → ∀ s' σ', Ef (lexL w.params i σ buf R) s (lexL w.params i σ' ((buf ++ 91 :: List.replicate (eqs l) 61) ++ [91]) R) s' → Same σ σ' → Vw σ' ((buf ++ 91 :: List.replicate (eqs l) 61) ++ [91]) l' → Q .none s')
    (hno : lev 91 l = v → v ≠ 0) :
    wpC (model pw w) A (call (.ref 441) [.ref i.x, .int v t]) Q E s := by
  refine' enterC (binds := [("self", .ref i.x), ("level", .int v t)]) (lb := [("level", .int v t), ("self", .ref i.x)]) rm H ?ho ?hcd ?hb ?hl ?hc ?h1 ?h2 ?h3 ?hr ?_
  walk_at "fn"
  intro L s E A S rm
  walk_at "stp"
  with_reducible refine c_read_level rm S.hs hl V ?_
  intro s σ₁ t1 e sm V₁
  have S := S.call e
  walk_at "stp"
  refine ite_d (fun hc => ?_) (fun hc => ?_)
  · obtain ⟨l', hl'⟩ : ∃ l', past l = 91 :: l' := by
      have h91 : (91 : UInt8).toNat = 91 := rfl
      unfold lev at hc
      split at hc
      · rename_i hs
        cases hp : past l with
        | nil => rw [hp] at hs; simp only [sgn] at hs; lia
        | cons d l' => rw [hp] at hs; simp only [sgn] at hs; exact ⟨l', by rw [UInt8.toNat_inj.mp (show d.toNat = (91 : UInt8).toNat by lia)]⟩
      · lia
    rw [hl'] at V₁
    walk_at "stp"
    with_reducible refine c_keep_and_move rm S.hs (by rw [sm.limits]; exact hl) V₁ ?_
    intro s σ₂ e sm2 V₂
    have S := S.call e
    refine ⟨rfl, ?_⟩
    walk_at "stp"
    refine ite_d (fun hd => absurd hd (hno hc)) (fun hd => ?_)
    walk_at "stp"
    exact h1 l' hl' hd hc _ _ S.ef (sm.trans sm2) V₂
  · walk_at "stp"
    exact h0 hc _ _ S.ef sm V₁
end
inductive Long (lv : Nat) : List UInt8 → List UInt8 → List UInt8 → Prop
  | close {l r} : lev 93 l = lv → past l = 93 :: r → Long lv (93 :: l) [] r
  | shut {l c r} : lev 93 l ≠ lv → Long lv (past l) c r → Long lv (93 :: l) (93 :: List.replicate (eqs l) 61 ++ c) r
  | open1 {l c r} : lev 91 l ≠ lv → Long lv (past l) c r → Long lv (91 :: l) (91 :: List.replicate (eqs l) 61 ++ c) r
  | open2 {l l' c r} : lev 91 l = lv → lv ≠ 0 → past l = 91 :: l' → Long lv l' c r → Long lv (91 :: l) ((91 :: List.replicate (eqs l) 61 ++ [91]) ++ c) r
  | line {d l c r} : (d = 10 ∨ d = 13) → Long lv (eol d l) c r → Long lv (d :: l) (10 :: c) r
  | other {d l c r} : d ≠ 10 → d ≠ 13 → d ≠ 91 → d ≠ 93 → Long lv l c r → Long lv (d :: l) (d :: c) r
noncomputable def eol1 : List UInt8 → List UInt8
  | [] => []
  | d :: l => if d = 10 ∨ d = 13 then eol d l else d :: l
theorem past_le (l : List UInt8) : (past l).length ≤ l.length := by have := past_len l; lia
theorem sgn_eq_iff {c : UInt8} {l : List UInt8} : sgn l = c.toNat ↔ ∃ l', l = c :: l' := by
  constructor
  · intro h
    cases l with
    | nil => simp only [sgn] at h; lia
    | cons d l => simp only [sgn] at h; exact ⟨l, by rw [UInt8.toNat_inj.mp (show d.toNat = c.toNat by lia)]⟩
  · rintro ⟨l', rfl⟩; rfl
theorem lev_nat {b : UInt8} {l : List UInt8} {lv : Nat} (h : lev b l = lv) : eqs l = lv ∧ ∃ l', past l = b :: l' := by
  unfold lev at h
  split at h
  · rename_i hs; exact ⟨by lia, sgn_eq_iff.mp hs⟩
  · lia
theorem cut_mid {a b c : List UInt8} {lo hi : Int} (h1 : lo = a.length) (h2 : hi = a.length + b.length) : cut (a ++ b ++ c) (some lo) (some hi) = b := by
  subst h1 h2
  unfold cut
  simp only [Option.elim]
  rw [show ((a.length : Int) + b.length) = ((a.length + b.length : Nat) : Int) by simp, clipAt_nat, clipAt_nat]
  have e1 : min a.length (a ++ b ++ c).length = a.length := by simp only [List.length_append]; lia
  have e2 : min (a.length + b.length) (a ++ b ++ c).length = a.length + b.length := by simp only [List.length_append]; lia
  rw [e1, e2, List.append_assoc, List.drop_left, Nat.add_sub_cancel_left, List.take_left]
section
variable {M : Model} {A : Around} {E : Value → Shared → Prop} {s : Shared} {ev : Env} {st : Stmt} {rest : List Stmt} {Q : Flow → Shared → Prop}
theorem y_join (P : Shared → Prop) (h1 : ∀ N : Shared → Prop, (∀ {s}, P s → N s) → wpC M A (execs [st] ev) (fun f s' => f = .next ∧ N s') E s) (h2 : ∀ s, P s → wpC M A (execs rest ev) Q E s) : wpC M A (execs (st :: rest) ev) Q E s := by
  refine y_cons fun Γ p hΓ c => ?_
  have := h1 P (fun h => h) Γ p hΓ c
  rw [execs_cons, Sem.wp_bind'] at this
  refine Sem.wp_mono M Γ _ (fun f p' s' h' => ?_) (fun _ _ _ h' => h') _ _ this
  cases f with
  | next => exact h2 s' (h' : _ = Flow.next ∧ P s').2
  | cont => exact absurd (h' : Flow.cont = Flow.next ∧ P s').1 (by intro x; cases x)
  | brk => exact absurd (h' : Flow.brk = Flow.next ∧ P s').1 (by intro x; cases x)
  | ret v => exact absurd (h' : Flow.ret v = Flow.next ∧ P s').1 (by intro x; cases x)
theorem x_join (P : Shared → Prop) (h1 : ∀ N : Shared → Prop, (∀ {s}, P s → N s) → wpAny M A (execs [st] ev) (fun f s' => f = .next ∧ N s') E s) (h2 : ∀ s, P s → wpAny M A (execs rest ev) Q E s) : wpAny M A (execs (st :: rest) ev) Q E s := by
  refine x_cons fun Γ p hΓ => ?_
  have := h1 P (fun h => h) Γ p hΓ
  rw [execs_cons, Sem.wp_bind'] at this
  refine Sem.wp_mono M Γ _ (fun f p' s' h' => ?_) (fun _ _ _ h' => h') _ _ this
  cases f with
  | next => exact h2 s' (h' : _ = Flow.next ∧ P s').2
  | cont => exact absurd (h' : Flow.cont = Flow.next ∧ P s').1 (by intro x; cases x)
  | brk => exact absurd (h' : Flow.brk = Flow.next ∧ P s').1 (by intro x; cases x)
  | ret v => exact absurd (h' : Flow.ret v = Flow.next ∧ P s').1 (by intro x; cases x)
end
theorem ite_dn {c : Prop} [Decidable c] {p q : Prop} (h1 : ¬ c) (h2 : q) : if decide c = true then p else q := by
  rw [if_neg (by simp [h1])]; exact h2
theorem ite_dy {c : Prop} [Decidable c] {p q : Prop} (h1 : c) (h2 : p) : if decide c = true then p else q := by
  rw [if_pos (decide_eq_true h1)]; exact h2
local macro_rules | `(tactic| walk_at "yy") => ways "! wpAny eval 2 ; ; ste|! wpAny execs 2 ; ; stx|! wpAny isTrue 3 ; ; stt|wpC_len _|wpC_189 _|wpC_224 _"
section
variable {w : World} {g : Heap} {R R' : Led} {r s s0 : Shared} {A : Around} {E : Value → Shared → Prop} {Q : Value → Shared → Prop} {i : Id} {σ σ' : Lx} {buf bf l l' rest ct : List UInt8} {c : UInt8} {k : Nat} {t : Tok} {n : Int} {a : Addr} {vs : List Value} {ns : List Int} {b : UInt8} {lv : Nat}

theorem d_keep (rm : Rm A (k + 3)) (H : Hs w (lexL w.params i σ buf R) s) (hl : LimIn w σ.limits R) (hn : n = c.toNat) (hz : buf.length < 1000000)
    (h : ∀ s', Ef (lexL w.params i σ buf R) s (lexL w.params i σ (buf ++ [c]) R) s' → Q .none s') :
    wpC (model pw w) A (call (.ref 329) [.ref i.x, .int n t]) Q E s := by subst hn; exact c_keep rm H hl hz h

theorem c_read_long_text (rm : Rm A (k + 7)) (H : Hs w (lexL w.params i σ buf R) s0) (hl : LimIn w σ.limits R) (V : Vw σ buf (b :: l)) (hL : Long lv (eol1 l) ct rest)
    (h : ∀ s' σ' bf t, Ef (lexL w.params i σ buf R) s0 (lexL w.params i σ' bf R) s' → Same σ σ' → Vw σ' bf rest → Q (.bytes ct.toArray t) s') :
    wpC (model pw w) A (call (.ref 434) [.ref i.x, .int lv t, .bool true]) Q E s0 := by
  refine' enterC (binds := [("self", .ref i.x), ("level", .int lv t), ("is_text", .bool true)]) (lb := [("is_text", .bool true), ("level", .int lv t), ("self", .ref i.x)]) rm H ?ho ?hcd ?hb ?hl ?hc ?h1 ?h2 ?h3 ?hr ?_
  walk_at "fn"
  intro L s E A S rm
  walk_at "stp"
  with_reducible refine c_keep_and_move rm.one S.hs hl V ?_
  intro s σ₁ e sm V₁
  have S := S.call e
  refine ⟨rfl, ?_⟩
  have e1 : σ₁.sign = sgn l := V₁.sign
  generalize hpre : buf ++ [b] = pre at S V₁
  with_reducible refine y_join (fun s => E1 fun σ₂ => A3 (Same σ σ₂) (Vw σ₂ pre (eol1 l)) (St w (hideAll s0.heap ((lexL w.params i σ buf R).map (·.1))) L (Lm [("is_text", .bool true), ("level", .int lv t), ("self", .ref i.x)]) (lexL w.params i σ₂ pre R) s0 s)) ?_ ?_
  · intro N hN
    walk_at "stp"
    with_reducible refine c_is_newline rm.one S.hs fun s e => ?_
    have S := S.call e
    walk_at "stp"
    refine ite_d (fun hd => ?_) (fun hd => ?_)
    · cases l with
      | nil => exfalso; rw [e1] at hd; simp [sgn] at hd
      | cons d l =>
        have e1 : σ₁.sign = d.toNat := V₁.sign
        rw [e1, toNat_10, toNat_13] at hd
        walk_at "stp"
        with_reducible refine wpC_of (c_end_line rm.one S.hs V₁ hd (by lia) ?_)
        intro s σ₂ e sm2 V₂
        have S := S.call e
        refine ⟨rfl, ?_⟩
        walk_at "stp"
        exact ⟨rfl, hN ⟨σ₂, sm.trans sm2, by rw [show eol1 (d :: l) = eol d l from if_pos hd]; exact V₂, S⟩⟩
    · walk_at "stp"
      have : eol1 l = l := by
        cases l with
        | nil => rfl
        | cons d l =>
          have e1 : σ₁.sign = d.toNat := V₁.sign
          rw [e1, toNat_10, toNat_13] at hd
          exact if_neg hd
      exact ⟨rfl, hN ⟨σ₁, sm, by rw [this]; exact V₁, S⟩⟩
  clear V₁ S e1
  intro s hP
  obtain ⟨σ₂, sm2, V₂, S⟩ := hP
  have z := V₂.bf
  walk_at "stp"
  with_reducible refine y_while (fun n s => E7 fun (σ₂ : Lx) (l₂ c d : List UInt8) (v : Int) (ls : List (Str × Value)) (t' : Tok) => A11 (Long lv l₂ c rest) (ct = d ++ c) (v = pre.length) (Same σ σ₂) (Vw σ₂ (pre ++ d) l₂) (n = l₂.length) (St w (hideAll s0.heap ((lexL w.params i σ buf R).map (·.1))) L (Lm ls) (lexL w.params i σ₂ (pre ++ d) R) s0 s) (Lm ls "self" = some (.ref i.x)) (Lm ls "level" = some (.int lv t)) (Lm ls "is_text" = some (.bool true)) (Lm ls "begin" = some (.int v t'))) (eol1 l).length ?_ ?_
  · exact ⟨σ₂, eol1 l, ct, [], _, _, _, hL, rfl, rfl, sm2, by rw [List.append_nil]; exact V₂, rfl, by rw [List.append_nil]; exact S, by walk_at "lm", by walk_at "lm", by walk_at "lm", by walk_at "lm"⟩
  clear S V₂ sm2 z
  intro n s E' N hN hI
  obtain ⟨σ₂, l₂, c, d, v, ls, t', hl2, q1, q2, sm2, V₂, rfl, S, m1, m2, m3, m4⟩ := hI
  have e2 : σ₂.sign = sgn l₂ := V₂.sign
  have z := V₂.bf
  have hlim : LimIn w σ₂.limits R := by rw [sm2.limits]; exact hl
  walk_at "stp"
  have n91 : (91 : UInt8).toNat = 91 := rfl
  have n93 : (93 : UInt8).toNat = 93 := rfl
  cases hl2 with
  | @close l r h1 h2 =>
    simp only [sgn] at e2
    refine ite_dn (by lia) ?_
    walk_at "stp"
    refine ite_dn (by lia) ?_
    walk_at "stp"
    refine ite_dy (by lia) ?_
    walk_at "stp"
    with_reducible refine c_read_level rm.one S.hs hlim V₂ ?_
    intro s σ₃ t3 e sm3 V₃
    have S := S.call e
    walk_at "stp"
    refine ite_dy (by lia) ?_
    walk_at "stp"
    rw [h2] at V₃
    with_reducible refine c_keep_and_move rm.one S.hs (by rw [sm3.limits]; exact hlim) V₃ ?_
    intro s σ₄ e sm4 V₄
    have S := S.call e
    refine ⟨rfl, ?_⟩
    have z4 := V₄.bf
    obtain ⟨h1', _⟩ := lev_nat h1
    walk_at "stp"
    have ec : cut (((pre ++ d) ++ 93 :: List.replicate (eqs l) 61) ++ [93]) (some v) (some ((((pre ++ d) ++ 93 :: List.replicate (eqs l) 61) ++ [93]).length - (lv : Int) - 2)) = ct := by
      rw [q1, List.append_nil, List.append_assoc (pre ++ d)]
      refine cut_mid q2 ?_
      simp only [List.length_append, List.length_cons, List.length_replicate, List.length_nil]
      lia
    rw [ec] at S
    have zc : ct.length ≤ 16777216 := by rw [← ec]; exact Nat.le_trans (cut_le _ _ _) (by lia)
    with_reducible refine o_bytes_ba S List.mem_cons_self zc ?_
    intro s t9 S
    exact h _ _ _ _ S.drop.ef ((sm2.trans sm3).trans sm4) V₄
  | @shut l c r h1 h2 =>
    simp only [sgn] at e2
    refine ite_dn (by lia) ?_
    walk_at "stp"
    refine ite_dn (by lia) ?_
    walk_at "stp"
    refine ite_dy (by lia) ?_
    walk_at "stp"
    with_reducible refine c_read_level rm.one S.hs hlim V₂ ?_
    intro s σ₃ t3 e sm3 V₃
    have S := S.call e
    walk_at "stp"
    refine ite_dn h1 ?_
    walk_at "stp"
    rw [List.append_assoc] at V₃ S
    exact hN ⟨_, by have := past_le l; simp only [List.length_cons]; lia, σ₃, _, _, _, _, ls, _, h2, by rw [q1, List.append_assoc], q2, sm2.trans sm3, V₃, rfl, S, m1, m2, m3, m4⟩
  | @open1 l c r h1 h2 =>
    simp only [sgn] at e2
    refine ite_dn (by lia) ?_
    walk_at "stp"
    refine ite_dy (by lia) ?_
    walk_at "stp"
    with_reducible refine c_read_inner rm S.hs hlim V₂ (by lia) ?_ (fun _ _ _ h => absurd h h1) (fun h => absurd h h1)
    intro _ s σ₃ e sm3 V₃
    have S := S.call e
    refine ⟨rfl, ?_⟩
    walk_at "stp"
    rw [List.append_assoc] at V₃ S
    exact hN ⟨_, by have := past_le l; simp only [List.length_cons]; lia, σ₃, _, _, _, _, ls, _, h2, by rw [q1, List.append_assoc], q2, sm2.trans sm3, V₃, rfl, S, m1, m2, m3, m4⟩
  | @open2 l l' c r h1 h2 h3 h4 =>
    simp only [sgn] at e2
    refine ite_dn (by lia) ?_
    walk_at "stp"
    refine ite_dy (by lia) ?_
    walk_at "stp"
    with_reducible refine c_read_inner rm S.hs hlim V₂ (by lia) (fun h => absurd h1 h) ?_ (fun _ => by lia)
    intro l₅ h5 _ _ s σ₃ e sm3 V₃
    rw [h3] at h5
    cases h5
    have S := S.call e
    refine ⟨rfl, ?_⟩
    walk_at "stp"
    rw [List.append_assoc pre, List.append_assoc pre] at V₃ S
    exact hN ⟨_, by have := past_le l; rw [h3] at this; simp only [List.length_cons] at this ⊢; lia, σ₃, _, _, _, _, ls, _, h4, by rw [q1]; simp, q2, sm2.trans sm3, V₃, rfl, S, m1, m2, m3, m4⟩
  | @line d1 l c r h1 h2 =>
    simp only [sgn] at e2
    have hd : (d1.toNat : Int) = 10 ∨ (d1.toNat : Int) = 13 := by rw [toNat_10, toNat_13]; exact h1
    refine ite_dn (by lia) ?_
    walk_at "stp"
    refine ite_dn (by lia) ?_
    walk_at "stp"
    refine ite_dn (by lia) ?_
    walk_at "stp"
    with_reducible refine c_is_newline rm.one S.hs fun s e => ?_
    have S := S.call e
    walk_at "stp"
    refine ite_dy (by lia) ?_
    walk_at "stp"
    with_reducible refine d_keep (c := 10) rm.one S.hs hlim rfl (by lia) ?_
    intro s e
    have S := S.call e
    refine ⟨rfl, ?_⟩
    walk_at "stp"
    with_reducible refine wpC_of (c_end_line rm.one S.hs V₂ h1 (by simp only [List.length_append, List.length_cons, List.length_nil]; lia) ?_)
    intro s σ₃ e sm3 V₃
    have S := S.call e
    refine ⟨rfl, ?_⟩
    walk_at "stp"
    refine ite_f ?_
    walk_at "stp"
    rw [List.append_assoc] at V₃ S
    exact hN ⟨_, by have := eol_le d1 l; simp only [List.length_cons]; lia, σ₃, _, _, _, _, ls, _, h2, by rw [q1, List.append_assoc]; rfl, q2, sm2.trans sm3, V₃, rfl, S, m1, m2, m3, m4⟩
  | @other d1 l c r h1 h2 h3 h4 h5 =>
    simp only [sgn] at e2
    have i1 : (d1.toNat : Int) ≠ 10 := by rw [Ne, toNat_10]; exact h1
    have i2 : (d1.toNat : Int) ≠ 13 := by rw [Ne, toNat_13]; exact h2
    have i3 : (d1.toNat : Int) ≠ 91 := fun e => h3 (UInt8.toNat_inj.mp (by lia))
    have i4 : (d1.toNat : Int) ≠ 93 := fun e => h4 (UInt8.toNat_inj.mp (by lia))
    refine ite_dn (by lia) ?_
    walk_at "stp"
    refine ite_dn (by lia) ?_
    walk_at "stp"
    refine ite_dn (by lia) ?_
    walk_at "stp"
    with_reducible refine c_is_newline rm.one S.hs fun s e => ?_
    have S := S.call e
    walk_at "stp"
    refine ite_dn (by lia) ?_
    walk_at "stp"
    with_reducible refine c_keep_and_move rm.one S.hs hlim V₂ ?_
    intro s σ₃ e sm3 V₃
    have S := S.call e
    refine ⟨rfl, ?_⟩
    walk_at "stp"
    rw [List.append_assoc] at V₃ S
    exact hN ⟨_, by simp only [List.length_cons]; lia, σ₃, _, _, _, _, ls, _, h5, by rw [q1, List.append_assoc]; rfl, q2, sm2.trans sm3, V₃, rfl, S, m1, m2, m3, m4⟩
end
section
variable {w : World} {g : Heap} {R R' : Led} {r s s0 : Shared} {A : Around} {E : Value → Shared → Prop} {Q : Value → Shared → Prop} {i : Id} {σ σ' : Lx} {buf bf l l' rest ct : List UInt8} {c : UInt8} {k : Nat} {t : Tok} {n : Int} {a : Addr} {vs : List Value} {ns : List Int} {b : UInt8} {lv : Nat}
theorem Vw.cut {lo hi : Option Int} (V : Vw σ buf l) : Vw σ (LX.cut buf lo hi) l := V.buf0 (cut_le _ _ _)

theorem c_read_long_comment (rm : Rm A (k + 7)) (H : Hs w (lexL w.params i σ buf R) s0) (hl : LimIn w σ.limits R) (V : Vw σ buf (b :: l)) (hL : Long lv (eol1 l) ct rest)
    (h : ∀ s' σ' bf v, Ef (lexL w.params i σ buf R) s0 (lexL w.params i σ' bf R) s' → Same σ σ' → Vw σ' bf rest → isRef v = false → Q v s') :
    wpC (model pw w) A (call (.ref 434) [.ref i.x, .int lv t, .bool false]) Q E s0 := by
  refine' enterC (binds := [("self", .ref i.x), ("level", .int lv t), ("is_text", .bool false)]) (lb := [("is_text", .bool false), ("level", .int lv t), ("self", .ref i.x)]) rm H ?ho ?hcd ?hb ?hl ?hc ?h1 ?h2 ?h3 ?hr ?_
  walk_at "fn"
  intro L s E A S rm
  walk_at "stp"
  with_reducible refine c_keep_and_move rm.one S.hs hl V ?_
  intro s σ₁ e sm V₁
  have S := S.call e
  refine ⟨rfl, ?_⟩
  have e1 : σ₁.sign = sgn l := V₁.sign
  generalize hpre : buf ++ [b] = pre at S V₁
  with_reducible refine y_join (fun s => E1 fun σ₂ => A3 (Same σ σ₂) (Vw σ₂ pre (eol1 l)) (St w (hideAll s0.heap ((lexL w.params i σ buf R).map (·.1))) L (Lm [("is_text", .bool false), ("level", .int lv t), ("self", .ref i.x)]) (lexL w.params i σ₂ pre R) s0 s)) ?_ ?_
  · intro N hN
    walk_at "stp"
    with_reducible refine c_is_newline rm.one S.hs fun s e => ?_
    have S := S.call e
    walk_at "stp"
    refine ite_d (fun hd => ?_) (fun hd => ?_)
    · cases l with
      | nil => exfalso; rw [e1] at hd; simp [sgn] at hd
      | cons d l =>
        have e1 : σ₁.sign = d.toNat := V₁.sign
        rw [e1, toNat_10, toNat_13] at hd
        walk_at "stp"
        with_reducible refine wpC_of (c_end_line rm.one S.hs V₁ hd (by lia) ?_)
        intro s σ₂ e sm2 V₂
        have S := S.call e
        refine ⟨rfl, ?_⟩
        walk_at "stp"
        exact ⟨rfl, hN ⟨σ₂, sm.trans sm2, by rw [show eol1 (d :: l) = eol d l from if_pos hd]; exact V₂, S⟩⟩
    · walk_at "stp"
      have : eol1 l = l := by
        cases l with
        | nil => rfl
        | cons d l =>
          have e1 : σ₁.sign = d.toNat := V₁.sign
          rw [e1, toNat_10, toNat_13] at hd
          exact if_neg hd
      exact ⟨rfl, hN ⟨σ₁, sm, by rw [this]; exact V₁, S⟩⟩
  clear V₁ S e1
  intro s hP
  obtain ⟨σ₂, sm2, V₂, S⟩ := hP
  have z := V₂.bf
  walk_at "stp"
  with_reducible refine y_while (fun n s => E7 fun (σ₂ : Lx) (l₂ c bf : List UInt8) (v : Int) (ls : List (Str × Value)) (t' : Tok) => A9 (Long lv l₂ c rest) (Same σ σ₂) (Vw σ₂ bf l₂) (n = l₂.length) (St w (hideAll s0.heap ((lexL w.params i σ buf R).map (·.1))) L (Lm ls) (lexL w.params i σ₂ bf R) s0 s) (Lm ls "self" = some (.ref i.x)) (Lm ls "level" = some (.int lv t)) (Lm ls "is_text" = some (.bool false)) (Lm ls "begin" = some (.int v t'))) (eol1 l).length ?_ ?_
  · exact ⟨σ₂, eol1 l, ct, _, _, _, _, hL, sm2, V₂, rfl, S, by walk_at "lm", by walk_at "lm", by walk_at "lm", by walk_at "lm"⟩
  clear S V₂ sm2 z
  intro n s E' N hN hI
  obtain ⟨σ₂, l₂, c, bf, v, ls, t', hl2, sm2, V₂, rfl, S, m1, m2, m3, m4⟩ := hI
  have e2 : σ₂.sign = sgn l₂ := V₂.sign
  have z := V₂.bf
  have hlim : LimIn w σ₂.limits R := by rw [sm2.limits]; exact hl
  walk_at "stp"
  have n91 : (91 : UInt8).toNat = 91 := rfl
  have n93 : (93 : UInt8).toNat = 93 := rfl
  cases hl2 with
  | @close l r h1 h2 =>
    simp only [sgn] at e2
    refine ite_dn (by lia) ?_
    walk_at "stp"
    refine ite_dn (by lia) ?_
    walk_at "stp"
    refine ite_dy (by lia) ?_
    walk_at "stp"
    with_reducible refine c_read_level rm.one S.hs hlim V₂ ?_
    intro s σ₃ t3 e sm3 V₃
    have S := S.call e
    walk_at "stp"
    refine ite_dy (by lia) ?_
    walk_at "stp"
    rw [h2] at V₃
    with_reducible refine c_keep_and_move rm.one S.hs (by rw [sm3.limits]; exact hlim) V₃ ?_
    intro s σ₄ e sm4 V₄
    have S := S.call e
    refine ⟨rfl, ?_⟩
    have z4 := V₄.bf
    walk_at "stp"
    have zc := cut_le ((bf ++ 93 :: List.replicate (eqs l) 61) ++ [93]) (some v) (some ((((bf ++ 93 :: List.replicate (eqs l) 61) ++ [93]).length : Int) - (lv : Int) - 2))
    with_reducible refine o_bytes_ba S List.mem_cons_self (by lia) ?_
    intro s t9 S
    exact h _ _ _ _ S.drop.ef ((sm2.trans sm3).trans sm4) V₄ rfl
  | @shut l c r h1 h2 =>
    simp only [sgn] at e2
    refine ite_dn (by lia) ?_
    walk_at "stp"
    refine ite_dn (by lia) ?_
    walk_at "stp"
    refine ite_dy (by lia) ?_
    walk_at "stp"
    with_reducible refine c_read_level rm.one S.hs hlim V₂ ?_
    intro s σ₃ t3 e sm3 V₃
    have S := S.call e
    walk_at "stp"
    refine ite_dn h1 ?_
    walk_at "stp"
    exact hN ⟨_, by have := past_le l; simp only [List.length_cons]; lia, σ₃, _, _, _, _, ls, _, h2, sm2.trans sm3, V₃, rfl, S, m1, m2, m3, m4⟩
  | @open1 l c r h1 h2 =>
    simp only [sgn] at e2
    refine ite_dn (by lia) ?_
    walk_at "stp"
    refine ite_dy (by lia) ?_
    walk_at "stp"
    with_reducible refine c_read_inner rm S.hs hlim V₂ (by lia) ?_ (fun _ _ _ h => absurd h h1) (fun h => absurd h h1)
    intro _ s σ₃ e sm3 V₃
    have S := S.call e
    refine ⟨rfl, ?_⟩
    walk_at "stp"
    exact hN ⟨_, by have := past_le l; simp only [List.length_cons]; lia, σ₃, _, _, _, _, ls, _, h2, sm2.trans sm3, V₃, rfl, S, m1, m2, m3, m4⟩
  | @open2 l l' c r h1 h2 h3 h4 =>
    simp only [sgn] at e2
    refine ite_dn (by lia) ?_
    walk_at "stp"
    refine ite_dy (by lia) ?_
    walk_at "stp"
    with_reducible refine c_read_inner rm S.hs hlim V₂ (by lia) (fun h => absurd h1 h) ?_ (fun _ => by lia)
    intro l₅ h5 _ _ s σ₃ e sm3 V₃
    rw [h3] at h5
    cases h5
    have S := S.call e
    refine ⟨rfl, ?_⟩
    walk_at "stp"
    exact hN ⟨_, by have := past_le l; rw [h3] at this; simp only [List.length_cons] at this ⊢; lia, σ₃, _, _, _, _, ls, _, h4, sm2.trans sm3, V₃, rfl, S, m1, m2, m3, m4⟩
  | @line d1 l c r h1 h2 =>
    simp only [sgn] at e2
    have hd : (d1.toNat : Int) = 10 ∨ (d1.toNat : Int) = 13 := by rw [toNat_10, toNat_13]; exact h1
    refine ite_dn (by lia) ?_
    walk_at "stp"
    refine ite_dn (by lia) ?_
    walk_at "stp"
    refine ite_dn (by lia) ?_
    walk_at "stp"
    with_reducible refine c_is_newline rm.one S.hs fun s e => ?_
    have S := S.call e
    walk_at "stp"
    refine ite_dy (by lia) ?_
    walk_at "stp"
    with_reducible refine d_keep (c := 10) rm.one S.hs hlim rfl (by lia) ?_
    intro s e
    have S := S.call e
    refine ⟨rfl, ?_⟩
    walk_at "stp"
    with_reducible refine wpC_of (c_end_line rm.one S.hs V₂ h1 (by simp only [List.length_append, List.length_cons, List.length_nil]; lia) ?_)
    intro s σ₃ e sm3 V₃
    have S := S.call e
    have z3 := V₃.bf
    refine ⟨rfl, ?_⟩
    walk_at "stp"
    refine ite_t ?_
    walk_at "stp"
    exact hN ⟨_, by have := eol_le d1 l; simp only [List.length_cons]; lia, _, _, _, _, _, ls, _, h2, (sm2.trans sm3).trans same_buf, V₃.cut.setBuf, rfl, S, m1, m2, m3, m4⟩
  | @other d1 l c r h1 h2 h3 h4 h5 =>
    simp only [sgn] at e2
    have i1 : (d1.toNat : Int) ≠ 10 := by rw [Ne, toNat_10]; exact h1
    have i2 : (d1.toNat : Int) ≠ 13 := by rw [Ne, toNat_13]; exact h2
    have i3 : (d1.toNat : Int) ≠ 91 := fun e => h3 (UInt8.toNat_inj.mp (by lia))
    have i4 : (d1.toNat : Int) ≠ 93 := fun e => h4 (UInt8.toNat_inj.mp (by lia))
    refine ite_dn (by lia) ?_
    walk_at "stp"
    refine ite_dn (by lia) ?_
    walk_at "stp"
    refine ite_dn (by lia) ?_
    walk_at "stp"
    with_reducible refine c_is_newline rm.one S.hs fun s e => ?_
    have S := S.call e
    walk_at "stp"
    refine ite_dn (by lia) ?_
    walk_at "stp"
    with_reducible refine wpC_of (e_move rm.one S.hs V₂ (by lia) ?_)
    intro s σ₃ e sm3 _ V₃
    have S := S.call e
    refine ⟨rfl, ?_⟩
    walk_at "stp"
    exact hN ⟨_, by simp only [List.length_cons]; lia, σ₃, _, _, _, _, ls, _, h5, sm2.trans sm3, V₃, rfl, S, m1, m2, m3, m4⟩
end
section
open PySem.Builtin
namespace FBY
theorem slot_find : Slot "bytes" "find" "bytes.find" :=
  .of (owner := "bytes") (n := "find") (by rw [typeLookup_type, builtinLookup_eq_fast]; kernel_rfl) (by decide +kernel) (by decide +kernel) (by decide +kernel)
    (by first | exact .inl (by decide +kernel) | exact .inr (by decide +kernel)) (by rw [isSubtype_type]; kernel_rfl)
theorem type_find : typeOf (.builtin "bytes.find") = pure (.type "method_descriptor") := by show builtinType _ = _; rw [builtinType_eq_fast]; kernel_rfl
theorem entry_find : entryFor table "bytes.find" = some Builtin.«bytes.find» := entryFor_of_tree (by kernel_rfl)
theorem args_find (a b : Value) : argsOk "bytes.find" ⟨[a, b], []⟩ := by
  unfold argsOk; rw [signature?_of (id := "bytes.find") (n := ['d', 'n', 'i', 'f']) (o := ['s', 'e', 't', 'y', 'b']) (by kernel_rfl) FB.owner_bytes]; kernel_rfl
end FBY
section
variable {prog : Program} {w : World} {A : Around} {E : Value → Shared → Prop} {s : Shared} {b c : Array UInt8} {t u : Tok} {x : Int} {M : Model}
theorem by_contains_tree {P : Fin → Shared → Prop} (h0 : 0 ≤ x) (h1 : x < 256) (h : P (.done (.ret (.bool (b.contains x.toNat.toUInt8)))) s) :
    wpAny (model prog w) A (Builtin.«bytes.__contains__» ⟨[.bytes b t, .int x u], []⟩) P E s := by
  unfold Builtin.«bytes.__contains__»
  refine wpAny_bind (wpAny_of_eq (a := (Value.bytes b t, [Value.int x u])) rfl ?_)
  dsimp only
  unfold Bytes.containsIn
  refine wpAny_bind ?_
  refine wpAny_bind (wpAny_of_eq (a := Except.ok x) rfl ?_)
  refine wpAny_bind (wpAny_of_eq KBy.buffer_eq ?_)
  dsimp only
  have e : (decide (x < 0) || decide (x ≥ 256)) = false := by simp only [Bool.or_eq_false_iff, decide_eq_false_iff_not]; lia
  rw [e, if_neg (by decide)]
  exact wpAny_pure (wpAny_pure h)
theorem contains_by {Q : Bool → Shared → Prop} (h0 : 0 ≤ x) (h1 : x < 256) (h : Q (b.contains x.toNat.toUInt8) s) : wpAny (model prog w) A (contains (.bytes b t) (.int x u)) Q E s := by
  unfold contains
  refine wpAny_holding ?_
  refine wpAny_bind (wpAny_specialOf (typeIs_bytes _ _ _) FB.slot_bytes_contains.lookup ?_)
  rw [if_neg (by decide)]
  exact wpAny_bind (wpAny_callSpecialUnlessNone?_slot (name := Str.ofString "__contains__") (typeIs_bytes _ _ _) FB.slot_bytes_contains
    (wpAny_call_entry FB.slot_bytes_contains (typeIs_bytes _ _ _) FB.entry_bytes_contains (by_contains_tree h0 h1 ⟨_, rfl, wpAny_truthy_bool h⟩) (FB.args_bytes_contains_2 _ _)))
theorem o_in_by {Q : Value → Shared → Prop} (h0 : 0 ≤ x) (h1 : x < 256) (h : Q (.bool (b.contains x.toNat.toUInt8)) s) : wpAny (model prog w) A (compareOp .In (.int x u) (.bytes b t)) Q E s := by
  show wpAny _ _ (do return .bool (← contains (.bytes b t) (.int x u))) Q E s
  exact wpAny_bind (contains_by h0 h1 (wpAny_pure h))

theorem by_find_tree {P : Fin → Shared → Prop} {r : Int} (hs : c.size ≤ b.size) (hr : (match Bytes.find? b c 0 b.size with | some i => (i : Int) | none => -1) = r) (h : ∀ t k, P (.done (.ret (.int r t))) { s with toks := k }) :
    wpAny (model prog w) A (Builtin.«bytes.find» ⟨[.bytes b t, .bytes c u], []⟩) P E s := by
  unfold Builtin.«bytes.find» Bytes.searchM
  refine wpAny_bind (m := Bytes.searchArgs .bytes "find" ⟨[.bytes b t, .bytes c u], []⟩) ?_
  unfold Bytes.searchArgs
  refine wpAny_bind (wpAny_of_eq (a := (Value.bytes b t, [Value.bytes c u])) rfl ?_)
  dsimp only
  refine wpAny_bind (wpAny_of_eq (a := none) rfl ?_)
  refine wpAny_bind (wpAny_of_eq (a := none) rfl ?_)
  refine wpAny_bind (wpAny_of_eq (a := some c) KBy.buffer_eq ?_)
  dsimp only
  refine wpAny_pure ?_
  have hw : Bytes.window b.size none none = (0, (b.size : Int)) := by
    unfold Bytes.window
    simp only [Option.getD_none]
    rw [if_neg (by decide), if_neg (by lia)]
    simp
  dsimp only
  rw [hw]
  dsimp only
  rw [if_neg (by lia)]
  simp only [Option.bind_some, Int.toNat_zero, Int.toNat_natCast, Bool.false_eq_true, if_false]
  cases hf : Bytes.find? b c 0 b.size with
  | some i =>
    rw [hf] at hr
    dsimp only at hr ⊢
    subst hr
    exact fun _ _ _ => h _ _
  | none =>
    rw [hf] at hr
    dsimp only at hr ⊢
    subst hr
    refine wpAny_bind (wpAny_rule ?_)
    exact fun _ _ _ => h _ _
theorem find_by {Q : Value → Shared → Prop} {r : Int} (hs : c.size ≤ b.size) (hr : (match Bytes.find? b c 0 b.size with | some i => (i : Int) | none => -1) = r) (h : ∀ t k, Q (.int r t) { s with toks := k }) :
    wpAny (model prog w) A (call (.builtin "bytes.find") [.bytes b t, .bytes c u]) Q E s :=
  wpAny_call_entry FBY.slot_find (typeIs_bytes _ _ _) FBY.entry_find (by_find_tree hs hr fun t k => ⟨_, rfl, h t k⟩) (FBY.args_find _ _)
theorem getMethod_find {pl : Sem Bool} {Q : Value × List Value → Shared → Prop} (h : Q (.builtin "bytes.find", [.bytes b t]) s) : wpAny (model prog w) A (getMethod (.bytes b t) "find" pl) Q E s :=
  getMethod_builtin (T := "bytes") (typeIs_bytes _ _ _) FB.plainAttrs_bytes FBY.slot_find FBY.type_find (fun a e => by cases e) h
end

end
section
variable {M : Model} {A : Around} {E : Value → Shared → Prop} {s : Shared} {ev : Env} {rest : List Stmt} {Q : Flow → Shared → Prop} {elts : List Expr} {k : Nat} {tpos pos : Pos} {value : Expr}
theorem x_tup (h : wpAny M A (eval value ev) (fun v s₁ => wpAny M A (assign (.Tuple elts k tpos) ev v) (fun _ s₂ => wpAny M A (execs rest ev) Q E s₂) E s₁) E s)
    (hs : swapsWithSole [.Tuple elts k tpos] value pos.line ev = pure false) (hw : swappedStores [.Tuple elts k tpos] value ev = pure none) :
    wpAny M A (execs (.Assign [.Tuple elts k tpos] value pos :: rest) ev) Q E s := x_cons (Assign_Tuple h hs hw)
theorem x_tupS {names : List Str} (h : wpAny M A (eval value ev) (fun v s₁ => wpAny M A (unpackItems v names.length none) (fun items s₂ =>
      wpAny M A (assignInOrder (names.reverse.map fun n => bindName ev n) items.reverse) (fun _ s₃ => wpAny M A (execs rest ev) Q E s₃) E s₂) E s₁) E s)
    (hs : swapsWithSole [.Tuple elts k tpos] value pos.line ev = pure false) (hw : swappedStores [.Tuple elts k tpos] value ev = pure (some names)) :
    wpAny M A (execs (.Assign [.Tuple elts k tpos] value pos :: rest) ev) Q E s := x_cons (Assign_Tuple_swapped h hs hw)
theorem y_tup (h : wpC M A (eval value ev) (fun v s₁ => wpC M A (assign (.Tuple elts k tpos) ev v) (fun _ s₂ => wpC M A (execs rest ev) Q E s₂) E s₁) E s)
    (hs : swapsWithSole [.Tuple elts k tpos] value pos.line ev = pure false) (hw : swappedStores [.Tuple elts k tpos] value ev = pure none) :
    wpC M A (execs (.Assign [.Tuple elts k tpos] value pos :: rest) ev) Q E s := by
  refine y_cons ?_
  rw [exec_Assign]
  refine wpC_bind (wpC_standAt ?_)
  rw [hs]
  refine wpC_bind (wpC_pure ?_)
  rw [if_neg (by decide)]
  refine wpC_bind (wpC_mono h (fun v s₁ h₁ => ?_) fun _ _ x => x)
  rw [hw]
  refine wpC_bind (wpC_pure ?_)
  show wpC M A (do assignAll v [assign (.Tuple elts k tpos) ev]; pure Flow.next) _ E s₁
  exact wpC_bind (wpC_mono h₁ (fun _ _ x => wpC_pure x) fun _ _ x => x)
theorem y_tupS {names : List Str} (h : wpC M A (eval value ev) (fun v s₁ => wpC M A (unpackItems v names.length none) (fun items s₂ =>
      wpC M A (assignInOrder (names.reverse.map fun n => bindName ev n) items.reverse) (fun _ s₃ => wpC M A (execs rest ev) Q E s₃) E s₂) E s₁) E s)
    (hs : swapsWithSole [.Tuple elts k tpos] value pos.line ev = pure false) (hw : swappedStores [.Tuple elts k tpos] value ev = pure (some names)) :
    wpC M A (execs (.Assign [.Tuple elts k tpos] value pos :: rest) ev) Q E s := by
  refine y_cons ?_
  rw [exec_Assign]
  refine wpC_bind (wpC_standAt ?_)
  rw [hs]
  refine wpC_bind (wpC_pure ?_)
  rw [if_neg (by decide)]
  refine wpC_bind (wpC_mono h (fun v s₁ h₁ => ?_) fun _ _ x => x)
  rw [hw]
  refine wpC_bind (wpC_pure ?_)
  show wpC M A (do rule "assign.swapped-stores"; let items ← unpackItems v names.length none; assignInOrder (names.reverse.map fun n => bindName ev n) items.reverse; pure Flow.next) _ E s₁
  refine wpC_bind (wpC_of (wpAny_rule ?_))
  exact wpC_bind (wpC_mono h₁ (fun items s₂ h₂ => wpC_bind (wpC_mono h₂ (fun _ _ x => wpC_pure x) fun _ _ x => x)) fun _ _ x => x)
end
section
variable {w : World} {g : Heap} {L : Addr} {l : List (Str × Value)} {m : Str → Option Value} {R R' : Led} {r s : Shared} {A : Around} {E : Value → Shared → Prop} {ev : Env} {a : Addr} {v1 v2 : Value} {x y : Str} {px py pos : Pos} {k : Nat}
theorem St.ext {h' : Heap} {t : Nat} (S : St w g L m R r s) (he : Heap.ExtBut s.heap.objs.size s.heap h') : St w g L m R r { s with heap := h', toks := t } :=
  S.heap t (S.F.extBut he (Nat.le_refl _)) (fun p hp => ⟨he _ _ (Nat.ne_of_lt (Heap.lt_size (S.N p hp).1)) (S.N p hp).1, (S.N p hp).2⟩) S.nd
theorem a_ord {M : Model} {f g : Value → Sem Unit} {Q : Unit → Shared → Prop} (h : wpAny M A (g v2) (fun _ s₂ => wpAny M A (f v1) Q E s₂) E s) : wpAny M A (assignInOrder [g, f] [v2, v1]) Q E s :=
  assignInOrder_cons (wpAny_mono h (fun _ _ h₂ => assignInOrder_cons (wpAny_mono h₂ (fun _ _ h₃ => assignInOrder_nil h₃) fun _ _ x => x)) fun _ _ x => x)
theorem aE2 : assignEach [.Name x px, .Name y py] ev = [(false, assign (.Name x px) ev), (false, assign (.Name y py) ev)] := by kernel_rfl!
theorem a_tup2 {Q : Unit → Shared → Prop} (S : St w g L m R r s) (hh : A.handled = none) (ha : (a, tupO [v1, v2]) ∈ R)
    (h : ∀ s', St w g L m R r s' → wpAny (model pw w) A (storeName ev x v1) (fun _ s₂ => wpAny (model pw w) A (storeName ev y v2) Q E s₂) E s') :
    wpAny (model pw w) A (assign (.Tuple [.Name x px, .Name y py] k pos) ev (.ref a)) Q E s := by
  refine assign_Tuple_tuple hh (S.tup ha) (by rw [aE2]; rfl) (by rw [aE2]; rfl) fun h' he => ?_
  have e1 : (assignEach [.Name x px, .Name y py] ev).map (·.2) = [assign (.Name x px) ev, assign (.Name y py) ev] := by rw [aE2]; rfl
  simp only [e1]
  exact a_ord (g := assign (.Name x px) ev) (f := assign (.Name y py) ev) (assign_Name (wpAny_mono (h _ (S.ext (t := s.toks) he)) (fun _ _ h₂ => assign_Name h₂) fun _ _ x => x))
theorem a_unp2 {Q : List Value → Shared → Prop} (S : St w g L m R r s) (hh : A.handled = none) (ha : (a, tupO [v1, v2]) ∈ R) (h : ∀ s', St w g L m R r s' → Q [v1, v2] s') :
    wpAny (model pw w) A (unpackItems (.ref a) 2 none) Q E s :=
  unpackItems_tuple (items := [v1, v2].toArray) hh (S.tup ha) fun h' he => h _ (S.ext (t := s.toks) he)
theorem a_ord2 {Q : Unit → Shared → Prop} (h : wpAny (model pw w) A (storeName ev y v2) (fun _ s₂ => wpAny (model pw w) A (storeName ev x v1) Q E s₂) E s) :
    wpAny (model pw w) A (assignInOrder (([x, y] : List Str).reverse.map fun n => bindName ev n) [v1, v2].reverse) Q E s :=
  a_ord (f := fun v => bindName ev x v) (g := fun v => bindName ev y v) (wpAny_bindName (wpAny_mono h (fun _ s₂ h₂ => wpAny_bindName h₂) fun _ _ x => x))
theorem o_mul {c d : Int} {T T' : Tok} {Q : Value → Shared → Prop} (S : St w g L m R r s) (hm : IntMulOk c d) (h : ∀ s', St w g L m R r s' → ∀ t, Q (.int (c * d) t) s') : wpAny (model pw w) A (binaryOp .Mult (.int c T) (.int d T')) Q E s := by with_reducible exact PyProof.Rows.mul_int (h _ (S.tok _) _) hm
end
local macro_rules | `(tactic| walk_at "sto") => ways "ol_tuple S hz _ ; S a hz z ; i3|o_tuple S hz _ ; S a hz z ; i3"
local macro_rules | `(tactic| walk_at "stx") => ways "x_tup _ h1 h2 ; h1 r h2 k"
local macro_rules | `(tactic| walk_at "yx") => ways "y_tup _ h1 h2 ; h1 r h2 k"
local macro_rules | `(tactic| walk_at "sto") => ways "a_tup2 S hh ha _ ; S a hh h ha mem ; i2|a_unp2 S hh ha _ ; S a hh h ha mem ; i2|a_ord2 _"
local macro_rules | `(tactic| walk_at "yy") => ways "! wpAny eval 2 ; ; ste|! wpAny execs 2 ; ; stx|! wpAny isTrue 3 ; ; stt|! wpC assign 3 ; ; wo"
section
variable {σ σ' : Lx} {buf bf l l' : List UInt8} {a b c : UInt8}
theorem Vw.grow (V : Vw σ buf (a :: l)) (W : Vw σ' buf l) : Vw σ' (buf ++ [b]) l :=
  ⟨W.pre, W.sign, W.fit, W.ln0, W.ln, by have := V.bf; simp only [List.length_append, List.length_cons, List.length_nil] at this ⊢; lia⟩
end
inductive Esc : List UInt8 → UInt8 → List UInt8 → Prop
  | nl {r} : Esc (110 :: r) 10 r
  | quo {r} : Esc (34 :: r) 34 r
  | nul {r} : Esc (48 :: 48 :: 48 :: r) 0 r
inductive Quoted : List UInt8 → List UInt8 → List UInt8 → Prop
  | close {r} : Quoted (34 :: r) [] r
  | esc {l o l' c r} : Esc l o l' → Quoted l' c r → Quoted (92 :: l) (o :: c) r
  | plain {d l c r} : d ≠ 34 → d ≠ 10 → d ≠ 13 → d ≠ 92 → Quoted l c r → Quoted (d :: l) (d :: c) r
theorem ite_bn {c : Bool} {p q : Prop} (h : c = false) (hq : q) : if c = true then p else q := by subst h; exact ite_f hq
theorem ite_by {c : Bool} {p q : Prop} (h : c = true) (hp : p) : if c = true then p else q := by subst h; exact ite_t hp
section
variable {w : World} {g : Heap} {L : Addr} {m : Str → Option Value} {R R' : Led} {r s : Shared} {A : Around} {E : Value → Shared → Prop} {Q : Value → Shared → Prop} {a : Addr} {vs : List Value} {ns : List Int} {n : Nat} {x y : Expr} {pos : Pos} {ev : Env} {b c : List UInt8} {t u : Tok} {d : Int} {e : Int}
theorem St.lst (S : St w g L m R r s) (h : (a, lstO vs n) ∈ R) : s.heap.IsList a vs.toArray := ⟨_, (S.N _ h).1, rfl, n, rfl⟩
theorem o_bytes_ints (S : St w g L m R r s) (hh : A.handled = none) (ha : (a, lstO vs n) ∈ R) (hi : IntsAre vs ns) (hr : ∀ n ∈ ns, 0 ≤ n ∧ n < 256) (hz : vs.length ≤ 16777216)
    (h : ∀ s' t, St w g L m R r s' → Q (.bytes (ns.map fun n => n.toNat.toUInt8).toArray t) s') : wpAny (model pw w) A (call (.type "bytes") [.ref a]) Q E s :=
  call_bytes_ints (S.lst ha) hi hr (by rw [sizeLine_eq]; exact hz) hh fun h' t k hk => h _ _ (S.heap k (S.F.keeps hk) (fun q hq => ⟨hk _ _ (S.N q hq).1, (S.N q hq).2⟩) S.nd)
/-- a builtin's method, one argument -/
theorem mb1 {id : String} {first : List Value} (hs : starEach [x] ev = [(false, eval x ev)])
    (h : wpAny (model pw w) A (eval x ev) (fun v s₁ => wpAny (model pw w) A (call (.builtin id) (first ++ [v])) Q E s₁) E s) :
    wpAny (model pw w) A (callWith pos (.builtin id) first (backTo pos (starEach [x] ev)) []) Q E s := by
  have e' : backTo pos (starEach [x] ev) = [(false, eval x ev)] := by rw [hs]; rfl
  rw [e']
  exact callWith_builtin rfl (evalArgs_plain (spliced_cons (wpAny_mono h (fun _ _ h => spliced_nil h) fun _ _ x => x)))
theorem mb0 {id : String} {first : List Value} (h : wpAny (model pw w) A (call (.builtin id) (first ++ [])) Q E s) :
    wpAny (model pw w) A (callWith pos (.builtin id) first (backTo pos (starEach [] ev)) []) Q E s := by
  show wpAny (model pw w) A (callWith pos (.builtin id) first [] []) Q E s
  exact callWith_builtin rfl (evalArgs_nil3 h)
theorem mb2 {id : String} {first : List Value} (hs : starEach [x, y] ev = [(false, eval x ev), (false, eval y ev)])
    (h : wpAny (model pw w) A (eval x ev) (fun v s₁ => wpAny (model pw w) A (eval y ev) (fun v' s₂ => wpAny (model pw w) A (call (.builtin id) (first ++ [v, v'])) Q E s₂) E s₁) E s) :
    wpAny (model pw w) A (callWith pos (.builtin id) first (backTo pos (starEach [x, y] ev)) []) Q E s := by
  have e' : backTo pos (starEach [x, y] ev) = [(false, eval x ev), (false, eval y ev)] := by rw [hs]; rfl
  rw [e']
  exact callWith_builtin rfl (evalArgs_plain (spliced_cons (wpAny_mono h (fun _ _ h => spliced_cons (wpAny_mono h (fun _ _ h => spliced_nil h) fun _ _ x => x)) fun _ _ x => x)))
theorem o_find (S : St w g L m R r s) (hs : c.length ≤ b.length) (hr : (match Builtin.Bytes.find? b.toArray c.toArray 0 b.toArray.size with | some i => (i : Int) | none => -1) = d) (h : ∀ s' t, St w g L m R r s' → Q (.int d t) s') :
    wpAny (model pw w) A (call (.builtin "bytes.find") [.bytes b.toArray t, .bytes c.toArray u]) Q E s :=
  find_by (by simpa using hs) hr fun t k => h _ t (S.tok k)
theorem o_addb (S : St w g L m R r s) (hz : b.length + c.length ≤ 16777216) (h : ∀ s' t, St w g L m R r s' → Q (.bytes (b ++ c).toArray t) s') :
    wpAny (model pw w) A (binaryOp .Add (.bytes b.toArray t) (.bytes c.toArray u)) Q E s :=
  bytes_add_K (by simpa using hz) rfl fun t' k => h _ t' (S.tok k)
theorem o_inb {z : UInt8} (h : Q (.bool (b.contains z)) s) : wpAny (model pw w) A (compareOp .In (.int z.toNat t) (.bytes b.toArray u)) Q E s := by
  refine o_in_by (by lia) (by have := z.toNat_lt; lia) ?_
  have e : ((z.toNat : Int)).toNat.toUInt8 = z := by simp
  rw [e]
  simpa using h
theorem o_eqb (h : Q (.bool (b == c)) s) : wpAny (model pw w) A (compareOp .Eq (.bytes b.toArray t) (.bytes c.toArray u)) Q E s := eq_bytes h
theorem o_neb (h : Q (.bool (b != c)) s) : wpAny (model pw w) A (compareOp .NotEq (.bytes b.toArray t) (.bytes c.toArray u)) Q E s := ne_bytes h
end
local macro_rules | `(tactic| walk_at "stc") => ways "o_eqb _|o_neb _"
local macro_rules | `(tactic| walk_at "sto") => ways "mb1 h1 _ ; h1 r ; ap|getMethod_find _|o_list S hz _ ; S a hz z ; i3"
section
variable {w : World} {g : Heap} {R R' : Led} {r s s0 : Shared} {A : Around} {E : Value → Shared → Prop} {Q : Value → Shared → Prop} {i : Id} {σ σ' : Lx} {buf bf l l' rest ct : List UInt8} {c : UInt8} {k : Nat} {t : Tok} {n : Int} {a : Addr} {vs : List Value} {ns : List Int} {b : UInt8} {lv : Nat}

theorem c_read_digits_000 (rm : Rm A (k + 5)) (H : Hs w (lexL w.params i σ buf R) s0) (hl : LimIn w σ.limits R) (V : Vw σ buf (48 :: 48 :: 48 :: l))
    (h : ∀ s' σ', Ef (lexL w.params i σ buf R) s0 (lexL w.params i σ' (buf ++ [0]) R) s' → Same σ σ' → Vw σ' (buf ++ [0]) l → Q .none s') :
    wpC (model pw w) A (call (.ref 462) [.ref i.x]) Q E s0 := by
  refine' enterC (binds := [("self", .ref i.x)]) (lb := [("self", .ref i.x)]) rm H ?ho ?hcd ?hb ?hl ?hc ?h1 ?h2 ?h3 ?hr ?_
  walk_at "fn"
  intro L s E A S rm
  walk_at "stp"
  have S := S.dropL
  with_reducible refine y_while (fun n s => E8 fun (j : Nat) (v vm : Int) (σ₂ : Lx) (l₂ : List UInt8) (ls : List (Str × Value)) (t t' : Tok) => A11 (v = 0) (vm = j) (n = 3 - j) (l₂ = List.replicate (3 - j) 48 ++ l) (j ≤ 3) (Same σ σ₂) (Vw σ₂ buf l₂) (St w (hideAll s0.heap ((lexL w.params i σ buf R).map (·.1))) L (Lm ls) (lexL w.params i σ₂ buf R) s0 s) (Lm ls "self" = some (.ref i.x)) (Lm ls "many" = some (.int vm t)) (Lm ls "value" = some (.int v t'))) 3 ?_ ?_
  · exact ⟨0, 0, 0, σ, _, _, _, _, rfl, rfl, rfl, rfl, by lia, Same.rfl', V, S, by walk_at "lm", by walk_at "lm", by walk_at "lm"⟩
  intro n s E' N hN hI
  obtain ⟨j, v, vm, σ₂, l₂, ls, t, t', q0, q1, q2, q3, q4, sm, V₂, S, m1, m2, m3⟩ := hI
  walk_at "stp"
  subst q0 q1
  have e2 : σ₂.sign = sgn l₂ := V₂.sign
  refine ite_d (fun hd => ?_) (fun hd => ?_)
  · obtain ⟨j', hj⟩ : ∃ j', 3 - j = j' + 1 := ⟨2 - j, by lia⟩
    rw [hj, List.replicate_succ, List.cons_append] at q3
    subst q3
    walk_at "stp"
    with_reducible refine c_is_digit rm.one S.hs fun s e => ?_
    have S := S.call e
    have e2 : σ₂.sign = 48 := e2
    rw [e2]
    walk_at "stp"
    refine ite_dy (by lia) ?_
    walk_at "stp"
    with_reducible refine o_mul S (by mul_fits) ?_
    intro s S t4
    walk_at "stp"
    with_reducible refine wpC_of (e_move rm.one S.hs V₂ (by lia) ?_)
    intro s σ₃ e sm3 _ V₃
    have S := S.call e
    refine ⟨rfl, ?_⟩
    walk_at "stp"
    exact hN ⟨j', by lia, j + 1, 10 * 0 + σ₂.sign - 48, j + 1, σ₃, _, _, _, _, by lia, by lia, by lia, by rw [show 3 - (j + 1) = j' by lia], by lia, sm.trans sm3, V₃, S, by walk_at "lm", by walk_at "lm", by walk_at "lm"⟩
  · have : j = 3 := by lia
    subst this
    rw [Nat.sub_self, List.replicate_zero, List.nil_append] at q3
    subst q3
    walk_at "stp"
    refine ite_dn (by lia) ?_
    walk_at "stp"
    with_reducible refine d_keep (c := 0) rm.one S.hs (by rw [sm.limits]; exact hl) rfl (by have := V₂.bf; lia) ?_
    intro s e
    have S := S.call e
    refine ⟨rfl, ?_⟩
    walk_at "stp"
    have W : Vw σ₂ (buf ++ [0]) l₂ := ⟨V₂.pre, V₂.sign, V₂.fit, V₂.ln0, V₂.ln, by have := V.bf; simp only [List.length_append, List.length_cons, List.length_nil] at this ⊢; lia⟩
    exact h _ _ S.ef sm W
end
section
variable {w : World} {g : Heap} {R R' : Led} {r s s0 : Shared} {A : Around} {E : Value → Shared → Prop} {Q : Value → Shared → Prop} {i : Id} {σ σ' : Lx} {buf bf l l' rest ct : List UInt8} {c : UInt8} {k : Nat} {t : Tok} {n : Int} {a : Addr} {vs : List Value} {ns : List Int} {b : UInt8} {lv : Nat}

theorem c_escaped_n (rm : Rm A (k + 2)) (H : Hs w R s) (h : ∀ s' t, Ef R s R s' → Q (.int 10 t) s') : wpAny (model pw w) A (call (.ref 231) [.int 110 t]) Q E s := by
  refine' enter (binds := [("sign", .int 110 t)]) (lb := [("sign", .int 110 t)]) rm H ?ho ?hcd ?hb ?hl ?hc ?h1 ?h2 ?h3 ?hr ?_
  walk_at "fn"
  intro L s E A S rm
  walk_at "stp"
  with_reducible refine o_bytes_ints S rm.h List.mem_cons_self (.cons _ _ .nil) (by decide) (Nat.le_of_ble_eq_true rfl) ?_
  intro s t S
  have S := S.drop
  walk_at "stp"
  with_reducible refine o_find (d := 3) (b := [97, 98, 102, 110, 114, 116, 118]) (c := List.map (fun n : Int => n.toNat.toUInt8) [110]) S (by decide) (by decide +kernel) ?_
  intro s t S
  walk_at "stp"
  refine ite_dn (by decide) ?_
  walk_at "stp"
  with_reducible refine o_item (b := [7, 8, 12, 10, 13, 9, 11]) (c := 3) S (by decide) (by decide) (by decide) ?_ rfl (fun _ => rfl)
  intro s S t
  exact h _ _ S.ef
theorem c_escaped_q (rm : Rm A (k + 2)) (H : Hs w R s) (h : ∀ s', Ef R s R s' → Q .none s') : wpAny (model pw w) A (call (.ref 231) [.int 34 t]) Q E s := by
  refine' enter (binds := [("sign", .int 34 t)]) (lb := [("sign", .int 34 t)]) rm H ?ho ?hcd ?hb ?hl ?hc ?h1 ?h2 ?h3 ?hr ?_
  walk_at "fn"
  intro L s E A S rm
  walk_at "stp"
  with_reducible refine o_bytes_ints S rm.h List.mem_cons_self (.cons _ _ .nil) (by decide) (Nat.le_of_ble_eq_true rfl) ?_
  intro s t S
  have S := S.drop
  walk_at "stp"
  with_reducible refine o_find (d := -1) (b := [97, 98, 102, 110, 114, 116, 118]) (c := List.map (fun n : Int => n.toNat.toUInt8) [34]) S (by decide) (by decide +kernel) ?_
  intro s t S
  walk_at "stp"
  refine ite_dy (by decide) ?_
  walk_at "stp"
  exact h _ S.ef

theorem c_read_escape {o : UInt8} (rm : Rm A (k + 6)) (H : Hs w (lexL w.params i σ buf R) s0) (hl : LimIn w σ.limits R) (V : Vw σ buf l) (he : Esc l o l')
    (h : ∀ s' σ', Ef (lexL w.params i σ buf R) s0 (lexL w.params i σ' (buf ++ [o]) R) s' → Same σ σ' → Vw σ' (buf ++ [o]) l' → Q .none s') :
    wpC (model pw w) A (call (.ref 455) [.ref i.x]) Q E s0 := by
  refine' enterC (binds := [("self", .ref i.x)]) (lb := [("self", .ref i.x)]) rm H ?ho ?hcd ?hb ?hl ?hc ?h1 ?h2 ?h3 ?hr ?_
  walk_at "fn"
  intro L s E A S rm
  walk_at "stp"
  have e0 : σ.sign = sgn l := V.sign
  have z := V.bf
  cases he with
  | nl =>
    have e0 : σ.sign = 110 := e0
    refine ite_dn (by lia) ?_
    walk_at "stp"
    with_reducible refine c_is_newline rm.one S.hs fun s e => ?_
    have S := S.call e
    walk_at "stp"
    refine ite_dn (by lia) ?_
    walk_at "stp"
    with_reducible refine c_is_digit rm.one S.hs fun s e => ?_
    have S := S.call e
    walk_at "stp"
    refine ite_dn (by lia) ?_
    walk_at "stp"
    rw [e0]
    with_reducible refine wpC_of (c_escaped_n rm.one S.hs fun s t e => ?_)
    have S := S.call e
    walk_at "stp"
    refine ite_bn rfl ?_
    walk_at "stp"
    with_reducible refine d_keep (c := 10) rm.one S.hs hl rfl (by lia) ?_
    intro s e
    have S := S.call e
    refine ⟨rfl, ?_⟩
    walk_at "stp"
    with_reducible refine wpC_of (e_move rm.one S.hs V (by simp) ?_)
    intro s σ₃ e sm3 _ V₃
    have S := S.call e
    refine ⟨rfl, ?_⟩
    walk_at "stp"
    exact h _ _ S.ef sm3 V₃
  | quo =>
    have e0 : σ.sign = 34 := e0
    refine ite_dn (by lia) ?_
    walk_at "stp"
    with_reducible refine c_is_newline rm.one S.hs fun s e => ?_
    have S := S.call e
    walk_at "stp"
    refine ite_dn (by lia) ?_
    walk_at "stp"
    with_reducible refine c_is_digit rm.one S.hs fun s e => ?_
    have S := S.call e
    walk_at "stp"
    refine ite_dn (by lia) ?_
    walk_at "stp"
    rw [e0]
    with_reducible refine wpC_of (c_escaped_q rm.one S.hs fun s e => ?_)
    have S := S.call e
    walk_at "stp"
    refine ite_by rfl ?_
    walk_at "stp"
    with_reducible refine d_keep (c := 34) rm.one S.hs hl (by rw [e0]; decide) (by lia) ?_
    intro s e
    have S := S.call e
    refine ⟨rfl, ?_⟩
    walk_at "stp"
    with_reducible refine wpC_of (e_move rm.one S.hs V (by simp) ?_)
    intro s σ₃ e sm3 _ V₃
    have S := S.call e
    refine ⟨rfl, ?_⟩
    walk_at "stp"
    exact h _ _ S.ef sm3 V₃
  | nul =>
    have e0 : σ.sign = 48 := e0
    refine ite_dn (by lia) ?_
    walk_at "stp"
    with_reducible refine c_is_newline rm.one S.hs fun s e => ?_
    have S := S.call e
    walk_at "stp"
    refine ite_dn (by lia) ?_
    walk_at "stp"
    with_reducible refine c_is_digit rm.one S.hs fun s e => ?_
    have S := S.call e
    walk_at "stp"
    refine ite_dy (by lia) ?_
    walk_at "stp"
    with_reducible refine c_read_digits_000 rm.one S.hs hl V ?_
    intro s σ₃ e sm3 V₃
    have S := S.call e
    refine ⟨rfl, ?_⟩
    walk_at "stp"
    exact h _ _ S.ef sm3 V₃

theorem c_read_string {t : Tok} (rm : Rm A (k + 7)) (H : Hs w (lexL w.params i σ [] R) s0) (hl : LimIn w σ.limits R) (V : Vw σ [] (34 :: l)) (hq : Quoted l ct rest)
    (h : ∀ x dx k1 k2 s' σ' bf t1 t2, Ef (lexL w.params i σ [] R) s0 (lexL w.params i σ' bf (tokL w.params x dx k1 k2 (.int 286 t1) (.bytes ct.toArray t2) ++ R)) s' → Same σ σ' → Vw σ' bf rest → Q (.ref x) s') :
    wpC (model pw w) A (call (.ref 448) [.ref i.x, .int 34 t]) Q E s0 := by
  refine' enterC (binds := [("self", .ref i.x), ("quote", .int 34 t)]) (lb := [("quote", .int 34 t), ("self", .ref i.x)]) rm H ?ho ?hcd ?hb ?hl ?hc ?h1 ?h2 ?h3 ?hr ?_
  walk_at "fn"
  intro L s E A S rm
  walk_at "stp"
  with_reducible refine c_keep_and_move rm.one S.hs hl V ?_
  intro s σ₁ e sm V₁
  have S := S.call e
  refine ⟨rfl, ?_⟩
  have q0 : ∀ d : UInt8, d.toNat < 256 := fun d => d.toNat_lt
  with_reducible refine y_while (fun n s => E5 fun (σ₂ : Lx) (l₂ c d : List UInt8) (ls : List (Str × Value)) => A8 (Quoted l₂ c rest) (ct = d ++ c) (Same σ σ₂) (Vw σ₂ (34 :: d) l₂) (n = l₂.length) (St w (hideAll s0.heap ((lexL w.params i σ [] R).map (·.1))) L (Lm ls) (lexL w.params i σ₂ (34 :: d) R) s0 s) (Lm ls "self" = some (.ref i.x)) (Lm ls "quote" = some (.int 34 t))) l.length ?_ ?_
  · exact ⟨σ₁, l, ct, [], _, hq, rfl, sm, V₁, rfl, S, by walk_at "lm", by walk_at "lm"⟩
  clear S V₁ sm
  intro n s E' N hN hI
  obtain ⟨σ₂, l₂, c, d, ls, hl2, q1, sm2, V₂, rfl, S, m1, m2⟩ := hI
  have e2 : σ₂.sign = sgn l₂ := V₂.sign
  have z := V₂.bf
  have hlim : LimIn w σ₂.limits R := by rw [sm2.limits]; exact hl
  walk_at "stp"
  cases hl2 with
  | close =>
    simp only [sgn] at e2
    have e2 : σ₂.sign = 34 := e2
    refine ite_dn (by lia) ?_
    walk_at "stp"
    with_reducible refine c_keep_and_move rm.one S.hs hlim V₂ ?_
    intro s σ₃ e sm3 V₃
    have S := S.call e
    refine ⟨rfl, ?_⟩
    have z := V₃.bf
    walk_at "stp"
    have ec : cut (34 :: d ++ [34]) (some 1) (some (((34 :: d ++ [34]).length : Int) - 1)) = ct := by
      rw [q1, List.append_nil]
      refine cut_mid (a := [34]) (b := d) (c := [34]) rfl ?_
      simp only [List.length_append, List.length_cons, List.length_nil]
      lia
    rw [ec] at S
    have zc : ct.length ≤ 16777216 := by rw [← ec]; exact Nat.le_trans (cut_le _ _ _) (by lia)
    with_reducible refine o_bytes_ba S List.mem_cons_self zc ?_
    intro s t9 S
    have S := S.drop
    walk_at "stp"
    with_reducible refine wpC_of (ol_token rm.one S ?_)
    intro x dx k1 k2 s S
    exact h _ _ _ _ _ _ _ _ _ S.ef (sm2.trans sm3) V₃
  | @esc l o l' c r h1 h2 =>
    simp only [sgn] at e2
    have e2 : σ₂.sign = 92 := e2
    have zl : l'.length < l.length := by cases h1 <;> simp <;> lia
    refine ite_dy (by lia) ?_
    walk_at "stp"
    refine ite_dn (by lia) ?_
    walk_at "stp"
    with_reducible refine c_is_newline rm.one S.hs fun s e => ?_
    have S := S.call e
    walk_at "stp"
    refine ite_dn (by lia) ?_
    walk_at "stp"
    refine ite_dy (by lia) ?_
    walk_at "stp"
    with_reducible refine wpC_of (e_move rm.one S.hs V₂ (by lia) ?_)
    intro s σ₃ e sm3 _ V₃
    have S := S.call e
    refine ⟨rfl, ?_⟩
    walk_at "stp"
    with_reducible refine c_read_escape rm S.hs (by rw [sm3.limits]; exact hlim) V₃ h1 ?_
    intro s σ₄ e sm4 V₄
    have S := S.call e
    refine ⟨rfl, ?_⟩
    walk_at "stp"
    exact hN ⟨_, by simp only [List.length_cons]; lia, σ₄, _, _, d ++ [o], ls, h2, by rw [q1, List.append_assoc]; rfl, (sm2.trans sm3).trans sm4, V₄, rfl, S, m1, m2⟩
  | @plain d1 l c r h1 h2 h3 h4 h5 =>
    simp only [sgn] at e2
    have i1 : (d1.toNat : Int) ≠ 34 := fun e => h1 (UInt8.toNat_inj.mp (show d1.toNat = 34 by lia))
    have i2 : (d1.toNat : Int) ≠ 10 := by rw [Ne, toNat_10]; exact h2
    have i3 : (d1.toNat : Int) ≠ 13 := by rw [Ne, toNat_13]; exact h3
    have i4 : (d1.toNat : Int) ≠ 92 := fun e => h4 (UInt8.toNat_inj.mp (show d1.toNat = 92 by lia))
    refine ite_dy (by lia) ?_
    walk_at "stp"
    refine ite_dn (by lia) ?_
    walk_at "stp"
    with_reducible refine c_is_newline rm.one S.hs fun s e => ?_
    have S := S.call e
    walk_at "stp"
    refine ite_dn (by lia) ?_
    walk_at "stp"
    refine ite_dn (by lia) ?_
    walk_at "stp"
    with_reducible refine c_keep_and_move rm.one S.hs hlim V₂ ?_
    intro s σ₃ e sm3 V₃
    have S := S.call e
    refine ⟨rfl, ?_⟩
    walk_at "stp"
    exact hN ⟨_, by simp only [List.length_cons]; lia, σ₃, _, _, d ++ [d1], ls, h5, by rw [q1, List.append_assoc]; rfl, sm2.trans sm3, V₃, rfl, S, m1, m2⟩
end
inductive TV | none | int (n : Int) | bytes (b : List UInt8)
noncomputable def TV.Is : TV → Value → Prop
  | .none, v => v = .none
  | .int n, v => ∃ t, v = .int n t
  | .bytes b, v => ∃ t, v = .bytes b.toArray t
noncomputable def toNl : List UInt8 → List UInt8
  | [] => []
  | c :: l => if c = 10 ∨ c = 13 then c :: l else toNl l
/-- one blank thing -/
inductive Blank1 : List UInt8 → List UInt8 → Prop
  | line {d l} : d = 10 ∨ d = 13 → Blank1 (d :: l) (eol d l)
  | gap {d l} : d = 32 ∨ d = 9 ∨ d = 11 ∨ d = 12 → Blank1 (d :: l) l
  | short {l} : (∀ l2, l = 91 :: l2 → lev 91 l2 < 0) → Blank1 (45 :: 45 :: l) (toNl l)
  | long {l l3 c r} {lv : Nat} : lev 91 l = lv → past l = 91 :: l3 → Long lv (eol1 l3) c r → Blank1 (45 :: 45 :: 91 :: l) r
inductive Blanks : List UInt8 → List UInt8 → Prop
  | nil {l} : Blanks l l
  | cons {l l' l''} : Blank1 l l' → Blanks l' l'' → Blanks l l''
noncomputable def isNm (n : Int) : Prop := (65 ≤ n ∧ n ≤ 90) ∨ (97 ≤ n ∧ n ≤ 122) ∨ n = 95 ∨ (48 ≤ n ∧ n ≤ 57)
/-- no blank stands first -/
noncomputable def NoBlank (l : List UInt8) : Prop := sgn l ≠ 32 ∧ ¬ (9 ≤ sgn l ∧ sgn l ≤ 13) ∧ ∀ l', l = 45 :: l' → sgn l' ≠ 45
noncomputable def decV (a : Nat) : List UInt8 → Nat
  | [] => a
  | c :: l => decV (10 * a + (c.toNat - 48)) l
noncomputable def hexD (c : UInt8) : Nat := if c.toNat ≤ 57 then c.toNat - 48 else c.toNat - 55
noncomputable def hexV (a : Nat) : List UInt8 → Nat
  | [] => a
  | c :: l => hexV (16 * a + hexD c) l
noncomputable def isDec (c : UInt8) : Prop := 48 ≤ c.toNat ∧ c.toNat ≤ 57
noncomputable def isHex (c : UInt8) : Prop := isDec c ∨ (65 ≤ c.toNat ∧ c.toNat ≤ 70)
/-- one token, no blank ahead of it -/
inductive One : List UInt8 → Int → TV → List UInt8 → Prop
  | eos : One [] 287 .none []
  | text {l c r} : Quoted l c r → One (34 :: l) 286 (.bytes c) r
  | long {l l3 c r} {lv : Nat} : lev 91 l = lv → past l = 91 :: l3 → Long lv (eol1 l3) c r → One (91 :: l) 286 (.bytes c) r
  | open_ {l} : sgn l ≠ 61 → sgn l ≠ 91 → One (91 :: l) 91 .none l
  | dots3 {l} : One (46 :: 46 :: 46 :: l) 279 .none l
  | dots2 {l} : sgn l ≠ 46 → One (46 :: 46 :: l) 278 .none l
  | dot {l} : sgn l ≠ 46 → ¬ (48 ≤ sgn l ∧ sgn l ≤ 57) → One (46 :: l) 46 .none l
  | dec {ds l} : ds ≠ [] → (∀ c ∈ ds, isDec c) → (decV 0 ds : Int) < 2 ^ 63 → ¬ isNm (sgn l) → sgn l ≠ 46 → One (ds ++ l) 284 (.int (decV 0 ds)) l
  | hex {hs l} : hs ≠ [] → (∀ c ∈ hs, isHex c) → (hexV 0 hs : Int) < 2 ^ 63 → ¬ isNm (sgn l) → One (48 :: 120 :: hs ++ l) 284 (.int (hexV 0 hs)) l
  | name {hs l} : (∀ c ∈ hs, isHex c) → ¬ isNm (sgn l) → One (110 :: hs ++ l) 285 (.bytes (110 :: hs)) l
  | nil {l} : ¬ isNm (sgn l) → One (110 :: 105 :: 108 :: l) 269 .none l
  | while {l} : ¬ isNm (sgn l) → One (119 :: 104 :: 105 :: 108 :: 101 :: l) 277 .none l
  | minus {l} : sgn l ≠ 45 → One (45 :: l) 45 .none l
  | cmp {c l} : c = 61 ∨ c = 60 ∨ c = 62 → sgn l ≠ 61 → One (c :: l) c.toNat .none l
  | eq {l} : One (61 :: 61 :: l) 280 .none l
  | ge {l} : One (62 :: 61 :: l) 281 .none l
  | le {l} : One (60 :: 61 :: l) 282 .none l
  | ne {l} : One (126 :: 61 :: l) 283 .none l
  | other {c l} : c = 93 ∨ c = 123 ∨ c = 125 ∨ c = 40 ∨ c = 43 ∨ c = 59 → One (c :: l) c.toNat .none l
inductive Toks : List UInt8 → List (Int × TV) → Prop
  | nil {l} : Blanks l [] → Toks l []
  | cons {l l' k v r ts} : Blanks l l' → One l' k v r → NoBlank l' → l' ≠ [] → Toks r ts → Toks l ((k, v) :: ts)
section
variable {w : World} {g : Heap} {R R' : Led} {r s s0 : Shared} {A : Around} {E : Value → Shared → Prop} {Q : Value → Shared → Prop} {i : Id} {σ σ' : Lx} {buf bf l l' rest ct : List UInt8} {c : UInt8} {k : Nat} {t : Tok} {n : Int} {a : Addr} {vs : List Value} {ns : List Int} {b : UInt8} {lv : Nat}
/-- a token is given back -/
noncomputable def GotTok (w : World) (i : Id) (R : Led) (s0 : Shared) (σ : Lx) (kind : Int) (tv : TV) (rest : List UInt8) (Q : Value → Shared → Prop) : Prop :=
  ∀ x dx k1 k2 s' σ' buf bf t1 v, Ef (lexL w.params i σ buf R) s0 (lexL w.params i σ' bf (tokL w.params x dx k1 k2 (.int kind t1) v ++ R)) s' → tv.Is v → Same σ σ' → Vw σ' bf rest → Q (.ref x) s'

theorem c_read_compared {kind : Int} (rm : Rm A (k + 7)) (H : Hs w (lexL w.params i σ buf R) s0) (V : Vw σ buf (c :: l))
    (hc : (sgn l ≠ 61 ∧ kind = c.toNat ∧ rest = l) ∨ (∃ l', l = 61 :: l' ∧ rest = l' ∧ ((c = 61 ∧ kind = 280) ∨ (c = 60 ∧ kind = 282) ∨ (c = 62 ∧ kind = 281) ∨ (c = 126 ∧ kind = 283))))
    (h : ∀ x dx k1 k2 s' σ' t1, Ef (lexL w.params i σ buf R) s0 (lexL w.params i σ' buf (tokL w.params x dx k1 k2 (.int kind t1) .none ++ R)) s' → Same σ σ' → Vw σ' buf rest → Q (.ref x) s') :
    wpAny (model pw w) A (call (.ref 392) [.ref i.x, .int c.toNat t]) Q E s0 := by
  refine' enter (binds := [("self", .ref i.x), ("sign", .int c.toNat t)]) (lb := [("sign", .int c.toNat t), ("self", .ref i.x)]) rm H ?ho ?hcd ?hb ?hl ?hc ?h1 ?h2 ?h3 ?hr ?_
  walk_at "fn"
  intro L s E A S rm
  walk_at "stp"
  with_reducible refine e_move rm.one S.hs V (by lia) ?_
  intro s σ₁ e sm _ V₁
  have S := S.call e
  refine ⟨rfl, ?_⟩
  have e1 : σ₁.sign = sgn l := V₁.sign
  walk_at "stp"
  rcases hc with ⟨h1, rfl, rfl⟩ | ⟨l', rfl, rfl, hc⟩
  · refine ite_dy (by lia) ?_
    walk_at "stp"
    with_reducible refine ol_token rm.one S ?_
    intro x dx k1 k2 s S
    exact h _ _ _ _ _ _ _ S.ef sm V₁
  · have e1 : σ₁.sign = 61 := e1
    refine ite_dn (by lia) ?_
    walk_at "stp"
    with_reducible refine e_move rm.one S.hs V₁ (by lia) ?_
    intro s σ₂ e sm2 _ V₂
    have S := S.call e
    refine ⟨rfl, ?_⟩
    walk_at "stp"
    rcases hc with ⟨rfl, rfl⟩ | ⟨rfl, rfl⟩ | ⟨rfl, rfl⟩ | ⟨rfl, rfl⟩ <;>
    (repeat' (first | walk_at "yy" | with_reducible refine ite_dn (by decide) ?_ | with_reducible refine ite_dy (by decide) ?_)
     rename St _ _ _ _ _ _ _ => S
     with_reducible refine ol_token rm.one S ?_
     intro x dx k1 k2 s S
     exact h _ _ _ _ _ _ _ S.ef (sm.trans sm2) V₂)
theorem c_read_dots (rm : Rm A (k + 7)) (H : Hs w (lexL w.params i σ [] R) s0) (hl : LimIn w σ.limits R) (V : Vw σ [] (46 :: l)) {kind : Int}
    (hc : (l = 46 :: 46 :: rest ∧ kind = 279) ∨ (l = 46 :: rest ∧ sgn rest ≠ 46 ∧ kind = 278) ∨ (l = rest ∧ sgn l ≠ 46 ∧ ¬ (48 ≤ sgn l ∧ sgn l ≤ 57) ∧ kind = 46))
    (h : ∀ x dx k1 k2 s' σ' bf t1, Ef (lexL w.params i σ [] R) s0 (lexL w.params i σ' bf (tokL w.params x dx k1 k2 (.int kind t1) .none ++ R)) s' → Same σ σ' → Vw σ' bf rest → Q (.ref x) s') :
    wpC (model pw w) A (call (.ref 399) [.ref i.x]) Q E s0 := by
  refine' enterC (binds := [("self", .ref i.x)]) (lb := [("self", .ref i.x)]) rm H ?ho ?hcd ?hb ?hl ?hc ?h1 ?h2 ?h3 ?hr ?_
  walk_at "fn"
  intro L s E A S rm
  walk_at "stp"
  with_reducible refine c_keep_and_move rm.one S.hs hl V ?_
  intro s σ₁ e sm V₁
  have S := S.call e
  refine ⟨rfl, ?_⟩
  walk_at "stp"
  have n46 : ∀ l : List UInt8, sgn l ≠ 46 → ([46] : List Int).any (· == sgn l) = false := fun l h => by simp only [List.any_cons, List.any_nil, Bool.or_false]; exact beq_eq_false_iff_ne.mpr (Ne.symm h)
  have y46 : ∀ (c : UInt8), ([46] : List Int).any (· == (c.toNat : Int)) = true → c = 46 := fun c h => UInt8.toNat_inj.mp (by simp only [List.any_cons, List.any_nil, Bool.or_false, beq_iff_eq] at h; show c.toNat = 46; lia)
  have f46 : sgn (46 :: l) = 46 := rfl
  with_reducible refine c_keep_if rm.one S.hs (by rw [sm.limits]; exact hl.tail) V₁ List.mem_cons_self (.cons _ _ .nil) (by decide) ?_ ?_
  · intro hf s e
    have S := (S.call e).dropL
    walk_at "stp"
    rcases hc with ⟨rfl, _⟩ | ⟨rfl, _⟩ | ⟨rfl, h1, h2, rfl⟩
    · exact absurd hf (by simp [sgn])
    · exact absurd hf (by simp [sgn])
    have e1 : σ₁.sign = sgn l := V₁.sign
    with_reducible refine c_is_digit rm.one S.hs fun s e => ?_
    have S := S.call e
    walk_at "stp"
    refine ite_dn (by rw [e1]; exact h2) ?_
    walk_at "stp"
    with_reducible refine wpC_of (ol_token rm.one S ?_)
    intro x dx k1 k2 s S
    exact h _ _ _ _ _ _ _ _ S.ef sm V₁
  · intro c l1 hl1 ht s σ₂ e sm2 V₂
    have S := (S.call e).dropL
    obtain rfl := y46 c ht
    walk_at "stp"
    with_reducible refine c_keep_if rm.one S.hs (by rw [sm2.limits, sm.limits]; exact hl.tail) V₂ List.mem_cons_self (.cons _ _ .nil) (by decide) ?_ ?_
    · intro hf s e
      have S := (S.call e).dropL
      walk_at "stp"
      rcases hc with ⟨rfl, _⟩ | ⟨rfl, h1, rfl⟩ | ⟨rfl, h1, h2, rfl⟩
      · cases hl1; exact absurd hf (by simp [sgn])
      · cases hl1
        with_reducible refine wpC_of (ol_token rm.one S ?_)
        intro x dx k1 k2 s S
        exact h _ _ _ _ _ _ _ _ S.ef (sm.trans sm2) V₂
      · subst hl1; exact absurd rfl h1
    · intro c l2 hl2 ht s σ₃ e sm3 V₃
      have S := (S.call e).dropL
      obtain rfl := y46 c ht
      walk_at "stp"
      subst hl1 hl2
      rcases hc with ⟨h1, rfl⟩ | ⟨h1, h2, rfl⟩ | ⟨h1, h2, h3, rfl⟩
      · cases h1
        with_reducible refine wpC_of (ol_token rm.one S ?_)
        intro x dx k1 k2 s S
        exact h _ _ _ _ _ _ _ _ S.ef ((sm.trans sm2).trans sm3) V₃
      · cases h1; exact absurd rfl h2
      · exact absurd rfl h2
end
theorem toNl_past : ∀ l : List UInt8, toNl (past l) = toNl l
  | [] => rfl
  | c :: l => by
    by_cases h : c = 61
    · subst h; rw [past_eq, toNl_past l]; exact (if_neg (by decide)).symm
    · rw [past_ne h]
theorem toNl_le : ∀ l : List UInt8, (toNl l).length ≤ l.length
  | [] => Nat.le_refl _
  | c :: l => by
    show (if _ then _ else _ : List UInt8).length ≤ _
    split
    · exact Nat.le_refl _
    · have := toNl_le l; simp only [List.length_cons]; lia
theorem toNl_go {c : UInt8} {l : List UInt8} (h : ¬ (c = 10 ∨ c = 13)) : toNl (c :: l) = toNl l := if_neg h
theorem toNl_stop {c : UInt8} {l : List UInt8} (h : c = 10 ∨ c = 13) : toNl (c :: l) = c :: l := if_pos h
section
variable {w : World} {g : Heap} {R R' : Led} {r s s0 : Shared} {A : Around} {E : Value → Shared → Prop} {Q : Value → Shared → Prop} {i : Id} {σ σ' : Lx} {buf bf l l' rest ct : List UInt8} {c : UInt8} {k : Nat} {t : Tok} {n : Int} {a : Addr} {vs : List Value} {ns : List Int} {b : UInt8} {lv : Nat}

theorem c_read_bracket_open (rm : Rm A (k + 9)) (H : Hs w (lexL w.params i σ [] R) s0) (hl : LimIn w σ.limits R) (V : Vw σ [] (91 :: l)) (h1 : sgn l ≠ 61) (h2 : sgn l ≠ 91)
    (h : ∀ x dx k1 k2 s' σ' bf t1, Ef (lexL w.params i σ [] R) s0 (lexL w.params i σ' bf (tokL w.params x dx k1 k2 (.int 91 t1) .none ++ R)) s' → Same σ σ' → Vw σ' bf l → Q (.ref x) s') :
    wpC (model pw w) A (call (.ref 420) [.ref i.x]) Q E s0 := by
  refine' enterC (binds := [("self", .ref i.x)]) (lb := [("self", .ref i.x)]) rm H ?ho ?hcd ?hb ?hl ?hc ?h1 ?h2 ?h3 ?hr ?_
  walk_at "fn"
  intro L s E A S rm
  walk_at "stp"
  with_reducible refine c_read_level rm.one S.hs hl V ?_
  intro s σ₁ t1 e sm V₁
  have S := S.call e
  have p1 : eqs l = 0 ∧ past l = l := by
    cases l with
    | nil => exact ⟨rfl, rfl⟩
    | cons d l =>
      have : d ≠ 61 := fun e => h1 (by rw [e]; rfl)
      exact ⟨eqs_ne this, past_ne this⟩
  have p2 : lev 91 l = -1 := by
    unfold lev
    rw [p1.1, p1.2, if_neg (by exact h2)]
    rfl
  rw [p2] at *
  rw [p1.2] at V₁
  walk_at "stp"
  refine ite_dn (by decide) ?_
  walk_at "stp"
  refine ite_dn (by decide) ?_
  walk_at "stp"
  with_reducible refine wpC_of (ol_token rm.one S ?_)
  intro x dx k1 k2 s S
  exact h _ _ _ _ _ _ _ _ S.ef sm V₁

theorem c_read_bracket_long {l3 : List UInt8} (rm : Rm A (k + 9)) (H : Hs w (lexL w.params i σ [] R) s0) (hl : LimIn w σ.limits R) (V : Vw σ [] (91 :: l)) (h1 : lev 91 l = lv) (h2 : past l = 91 :: l3) (hL : Long lv (eol1 l3) ct rest)
    (h : ∀ x dx k1 k2 s' σ' bf t1 t2, Ef (lexL w.params i σ [] R) s0 (lexL w.params i σ' bf (tokL w.params x dx k1 k2 (.int 286 t1) (.bytes ct.toArray t2) ++ R)) s' → Same σ σ' → Vw σ' bf rest → Q (.ref x) s') :
    wpC (model pw w) A (call (.ref 420) [.ref i.x]) Q E s0 := by
  refine' enterC (binds := [("self", .ref i.x)]) (lb := [("self", .ref i.x)]) rm H ?ho ?hcd ?hb ?hl ?hc ?h1 ?h2 ?h3 ?hr ?_
  walk_at "fn"
  intro L s E A S rm
  walk_at "stp"
  with_reducible refine c_read_level rm.one S.hs hl V ?_
  intro s σ₁ t1 e sm V₁
  have S := S.call e
  rw [h1] at *
  rw [h2] at V₁
  walk_at "stp"
  refine ite_dy (by lia) ?_
  walk_at "stp"
  with_reducible refine c_read_long_text rm.one S.hs (by rw [sm.limits]; exact hl) V₁ hL ?_
  intro s σ₂ bf t2 e sm2 V₂
  have S := S.call e
  walk_at "stp"
  with_reducible refine wpC_of (ol_token rm.one S ?_)
  intro x dx k1 k2 s S
  exact h _ _ _ _ _ _ _ _ _ S.ef (sm.trans sm2) V₂
end
section
variable {w : World} {g : Heap} {R R' : Led} {r s s0 : Shared} {A : Around} {E : Value → Shared → Prop} {Q : Value → Shared → Prop} {i : Id} {σ σ' : Lx} {buf bf l l' rest ct : List UInt8} {c : UInt8} {k : Nat} {t : Tok} {n : Int} {a : Addr} {vs : List Value} {ns : List Int} {b : UInt8} {lv : Nat}

theorem c_skip_comment_short (rm : Rm A (k + 9)) (H : Hs w (lexL w.params i σ [] R) s0) (hl : LimIn w σ.limits R) (V : Vw σ [] (45 :: 45 :: l)) (h1 : ∀ l2, l = 91 :: l2 → lev 91 l2 < 0)
    (h : ∀ s' σ' , Ef (lexL w.params i σ [] R) s0 (lexL w.params i σ' [] R) s' → Same σ σ' → Vw σ' [] (toNl l) → Q .none s') :
    wpC (model pw w) A (call (.ref 385) [.ref i.x]) Q E s0 := by
  refine' enterC (binds := [("self", .ref i.x)]) (lb := [("self", .ref i.x)]) rm H ?ho ?hcd ?hb ?hl ?hc ?h1 ?h2 ?h3 ?hr ?_
  walk_at "fn"
  intro L s E A S rm
  walk_at "stp"
  with_reducible refine wpC_of (e_move rm.one S.hs V (by simp) ?_)
  intro s σ₁ e sm _ V₁
  have S := S.call e
  refine ⟨rfl, ?_⟩
  walk_at "stp"
  with_reducible refine wpC_of (e_move rm.one S.hs V₁ (by simp) ?_)
  intro s σ₂ e sm2 _ V₂
  have S := S.call e
  refine ⟨rfl, ?_⟩
  have sm := sm.trans sm2
  have e2 : σ₂.sign = sgn l := V₂.sign
  with_reducible refine y_join (fun s => E3 fun σ₂ l₂ ls => A5 (Same σ σ₂) (Vw σ₂ [] l₂) (toNl l₂ = toNl l) (St w (hideAll s0.heap ((lexL w.params i σ [] R).map (·.1))) L (Lm ls) (lexL w.params i σ₂ [] R) s0 s) (Lm ls "self" = some (.ref i.x))) ?_ ?_
  · intro N hN
    walk_at "stp"
    refine ite_d (fun hd => ?_) (fun hd => ?_)
    · obtain ⟨l2, rfl⟩ := sgn_eq_iff (c := 91).mp (by rw [← e2]; exact hd)
      have h3 := h1 l2 rfl
      walk_at "stp"
      with_reducible refine c_read_level rm.one S.hs (by rw [sm.limits]; exact hl) V₂ ?_
      intro s σ₃ t3 e sm3 V₃
      have S := S.call e
      walk_at "stp"
      with_reducible refine c_clear rm.one S.hs V₃ ?_
      intro s σ₄ e sm4 V₄
      have S := S.call e
      refine ⟨rfl, ?_⟩
      walk_at "stp"
      refine ite_dn (by lia) ?_
      walk_at "stp"
      exact ⟨rfl, hN ⟨σ₄, _, _, (sm.trans sm3).trans sm4, V₄, by rw [toNl_past]; exact (toNl_go (by decide)).symm, S, by walk_at "lm"⟩⟩
    · walk_at "stp"
      exact ⟨rfl, hN ⟨σ₂, l, _, sm, V₂, rfl, S, by walk_at "lm"⟩⟩
  clear S V₁ V₂ sm sm2 e2
  intro s hP
  obtain ⟨σ₂, l₂, ls, sm, V₂, hl2, S, m1⟩ := hP
  with_reducible refine y_while (fun n s => E2 fun (σ₂ : Lx) (l₂ : List UInt8) => A5 (Same σ σ₂) (Vw σ₂ [] l₂) (toNl l₂ = toNl l) (n = l₂.length) (St w (hideAll s0.heap ((lexL w.params i σ [] R).map (·.1))) L (Lm ls) (lexL w.params i σ₂ [] R) s0 s)) l₂.length ?_ ?_
  · exact ⟨σ₂, l₂, sm, V₂, hl2, rfl, S⟩
  clear S V₂ hl2 sm
  intro n s E' N hN hI
  obtain ⟨σ₂, l₂, sm, V₂, hl2, rfl, S⟩ := hI
  have e2 : σ₂.sign = sgn l₂ := V₂.sign
  walk_at "stp"
  with_reducible refine c_is_newline rm.one S.hs fun s e => ?_
  have S := S.call e
  walk_at "stp"
  cases l₂ with
  | nil =>
    have e2 : σ₂.sign = -1 := e2
    refine ite_by (by rw [e2]; decide) ?_
    walk_at "stp"
    refine ite_dn (by lia) ?_
    walk_at "stp"
    exact h _ _ S.ef sm (by rw [← hl2]; exact V₂)
  | cons c l₂ =>
    have e2 : σ₂.sign = c.toNat := e2
    by_cases hc : c = 10 ∨ c = 13
    · have hc' : (c.toNat : Int) = 10 ∨ (c.toNat : Int) = 13 := by rw [toNat_10, toNat_13]; exact hc
      refine ite_bn (by rw [e2, decide_eq_true hc']; rfl) ?_
      walk_at "stp"
      exact h _ _ S.ef sm (by rw [← hl2, toNl_stop hc]; exact V₂)
    · have hc' : ¬ ((c.toNat : Int) = 10 ∨ (c.toNat : Int) = 13) := by rw [toNat_10, toNat_13]; exact hc
      refine ite_by (by rw [e2, decide_eq_false hc']; rfl) ?_
      walk_at "stp"
      refine ite_dy (by lia) ?_
      walk_at "stp"
      with_reducible refine wpC_of (e_move rm.one S.hs V₂ (by lia) ?_)
      intro s σ₃ e sm3 _ V₃
      have S := S.call e
      refine ⟨rfl, ?_⟩
      walk_at "stp"
      exact hN ⟨_, by simp only [List.length_cons]; lia, σ₃, _, sm.trans sm3, V₃, by rw [← hl2, toNl_go hc], rfl, S⟩

theorem c_skip_comment_long {l3 : List UInt8} (rm : Rm A (k + 9)) (H : Hs w (lexL w.params i σ [] R) s0) (hl : LimIn w σ.limits R) (V : Vw σ [] (45 :: 45 :: 91 :: l)) (h1 : lev 91 l = lv) (h2 : past l = 91 :: l3) (hL : Long lv (eol1 l3) ct rest)
    (h : ∀ s' σ' , Ef (lexL w.params i σ [] R) s0 (lexL w.params i σ' [] R) s' → Same σ σ' → Vw σ' [] rest → Q .none s') :
    wpC (model pw w) A (call (.ref 385) [.ref i.x]) Q E s0 := by
  refine' enterC (binds := [("self", .ref i.x)]) (lb := [("self", .ref i.x)]) rm H ?ho ?hcd ?hb ?hl ?hc ?h1 ?h2 ?h3 ?hr ?_
  walk_at "fn"
  intro L s E A S rm
  walk_at "stp"
  with_reducible refine wpC_of (e_move rm.one S.hs V (by simp) ?_)
  intro s σ₁ e sm _ V₁
  have S := S.call e
  refine ⟨rfl, ?_⟩
  walk_at "stp"
  with_reducible refine wpC_of (e_move rm.one S.hs V₁ (by simp) ?_)
  intro s σ₂ e sm2 _ V₂
  have S := S.call e
  refine ⟨rfl, ?_⟩
  have sm := sm.trans sm2
  have e2 : σ₂.sign = 91 := V₂.sign
  walk_at "stp"
  refine ite_dy e2 ?_
  walk_at "stp"
  with_reducible refine c_read_level rm.one S.hs (by rw [sm.limits]; exact hl) V₂ ?_
  intro s σ₃ t3 e sm3 V₃
  have S := S.call e
  rw [h1] at *
  rw [h2] at V₃
  walk_at "stp"
  with_reducible refine c_clear rm.one S.hs V₃ ?_
  intro s σ₄ e sm4 V₄
  have S := S.call e
  refine ⟨rfl, ?_⟩
  have sm := (sm.trans sm3).trans sm4
  walk_at "stp"
  refine ite_dy (by lia) ?_
  walk_at "stp"
  with_reducible refine c_read_long_comment rm.one S.hs (by rw [sm.limits]; exact hl) V₄ hL ?_
  intro s σ₅ bf v e sm5 V₅ hv
  have S := S.call e
  refine ⟨hv, ?_⟩
  walk_at "stp"
  with_reducible refine c_clear rm.one S.hs V₅ ?_
  intro s σ₆ e sm6 V₆
  have S := S.call e
  refine ⟨rfl, ?_⟩
  walk_at "stp"
  exact h _ _ S.ef ((sm.trans sm5).trans sm6) V₆

theorem c_skip_blank (rm : Rm A (k + 10)) (H : Hs w (lexL w.params i σ [] R) s0) (hl : LimIn w σ.limits R) (V : Vw σ [] l) (hb : Blank1 l rest)
    (h : ∀ s' σ' , Ef (lexL w.params i σ [] R) s0 (lexL w.params i σ' [] R) s' → Same σ σ' → Vw σ' [] rest → Q (.bool true) s') :
    wpC (model pw w) A (call (.ref 371) [.ref i.x]) Q E s0 := by
  refine' enterC (binds := [("self", .ref i.x)]) (lb := [("self", .ref i.x)]) rm H ?ho ?hcd ?hb ?hl ?hc ?h1 ?h2 ?h3 ?hr ?_
  walk_at "fn"
  intro L s E A S rm
  walk_at "stp"
  with_reducible refine c_is_newline rm.one S.hs fun s e => ?_
  have S := S.call e
  have e0 : σ.sign = sgn l := V.sign
  walk_at "stp"
  cases hb with
  | @line d l hd =>
    have e0 : σ.sign = d.toNat := e0
    refine ite_dy (by rw [e0, toNat_10, toNat_13]; exact hd) ?_
    walk_at "stp"
    with_reducible refine wpC_of (c_end_line rm.one S.hs V hd (by simp) ?_)
    intro s σ₂ e sm2 V₂
    have S := S.call e
    refine ⟨rfl, ?_⟩
    walk_at "stp"
    exact h _ _ S.ef sm2 V₂
  | @gap d _ hd =>
    have e0 : σ.sign = d.toNat := e0
    have hd' : (d.toNat : Int) = 32 ∨ (d.toNat : Int) = 9 ∨ (d.toNat : Int) = 11 ∨ (d.toNat : Int) = 12 := by rcases hd with rfl | rfl | rfl | rfl <;> decide
    refine ite_dn (by lia) ?_
    walk_at "stp"
    with_reducible refine wpC_of (c_is_blank rm.one S.hs fun s b e hb => ?_)
    have S := S.call e
    walk_at "stp"
    refine ite_by (hb.mpr (by lia)) ?_
    walk_at "stp"
    with_reducible refine wpC_of (e_move rm.one S.hs V (by simp) ?_)
    intro s σ₂ e sm2 _ V₂
    have S := S.call e
    refine ⟨rfl, ?_⟩
    walk_at "stp"
    exact h _ _ S.ef sm2 V₂
  | @short l h1 =>
    have e0 : σ.sign = 45 := e0
    refine ite_dn (by lia) ?_
    walk_at "stp"
    with_reducible refine wpC_of (c_is_blank rm.one S.hs fun s b e hb => ?_)
    have S := S.call e
    walk_at "stp"
    refine ite_bn (Bool.eq_false_iff.mpr fun e => by have := hb.mp e; lia) ?_
    walk_at "stp"
    refine ite_dy (by lia) ?_
    walk_at "stp"
    with_reducible refine c_sign_behind rm.one S.hs V ?_
    intro s t e
    have S := S.call e
    walk_at "stp"
    refine ite_dy (by simp [sgn]) ?_
    walk_at "stp"
    with_reducible refine c_skip_comment_short rm.one S.hs hl V h1 ?_
    intro s σ₂ e sm2 V₂
    have S := S.call e
    refine ⟨rfl, ?_⟩
    walk_at "stp"
    exact h _ _ S.ef sm2 V₂
  | @long l l3 c r lv h1 h2 h3 =>
    have e0 : σ.sign = 45 := e0
    refine ite_dn (by lia) ?_
    walk_at "stp"
    with_reducible refine wpC_of (c_is_blank rm.one S.hs fun s b e hb => ?_)
    have S := S.call e
    walk_at "stp"
    refine ite_bn (Bool.eq_false_iff.mpr fun e => by have := hb.mp e; lia) ?_
    walk_at "stp"
    refine ite_dy (by lia) ?_
    walk_at "stp"
    with_reducible refine c_sign_behind rm.one S.hs V ?_
    intro s t e
    have S := S.call e
    walk_at "stp"
    refine ite_dy (by simp [sgn]) ?_
    walk_at "stp"
    with_reducible refine c_skip_comment_long rm.one S.hs hl V h1 h2 h3 ?_
    intro s σ₂ e sm2 V₂
    have S := S.call e
    refine ⟨rfl, ?_⟩
    walk_at "stp"
    exact h _ _ S.ef sm2 V₂

theorem c_skip_blank_no (rm : Rm A (k + 10)) (H : Hs w (lexL w.params i σ [] R) s0) (V : Vw σ [] l) (hb : NoBlank l)
    (h : ∀ s', Ef (lexL w.params i σ [] R) s0 (lexL w.params i σ [] R) s' → Q (.bool false) s') :
    wpC (model pw w) A (call (.ref 371) [.ref i.x]) Q E s0 := by
  refine' enterC (binds := [("self", .ref i.x)]) (lb := [("self", .ref i.x)]) rm H ?ho ?hcd ?hb ?hl ?hc ?h1 ?h2 ?h3 ?hr ?_
  walk_at "fn"
  intro L s E A S rm
  walk_at "stp"
  with_reducible refine c_is_newline rm.one S.hs fun s e => ?_
  have S := S.call e
  have e0 : σ.sign = sgn l := V.sign
  obtain ⟨b1, b2, b3⟩ := hb
  walk_at "stp"
  refine ite_dn (by lia) ?_
  walk_at "stp"
  with_reducible refine wpC_of (c_is_blank rm.one S.hs fun s b e hb => ?_)
  have S := S.call e
  walk_at "stp"
  refine ite_bn (Bool.eq_false_iff.mpr fun e => by have := hb.mp e; lia) ?_
  walk_at "stp"
  refine ite_d (fun hd => ?_) (fun hd => ?_)
  · obtain ⟨l', rfl⟩ := sgn_eq_iff (c := 45).mp (by rw [← e0]; exact hd)
    walk_at "stp"
    with_reducible refine c_sign_behind rm.one S.hs V ?_
    intro s t e
    have S := S.call e
    walk_at "stp"
    refine ite_dn (b3 _ rfl) ?_
    walk_at "stp"
    exact h _ S.ef
  · walk_at "stp"
    exact h _ S.ef
end
section
variable {M : Model} {A : Around} {E : Value → Shared → Prop} {s : Shared} {env : Env}
theorem Call_Name3 {x : Str} {p pos : Pos} {e₁ e₂ e₃ : Expr} {Q : Value → Shared → Prop}
    (h : wpAny M A (eval (.Name x p) env) (fun f s₁ => wpAny M A (callWith pos f [] [(false, eval e₁ env), (false, eval e₂ env), (false, eval e₃ env)] []) Q E s₁) E s)
    (hs : starEach [e₁, e₂, e₃] env = [(false, eval e₁ env), (false, eval e₂ env), (false, eval e₃ env)]) :
    wpAny M A (eval (.Call (.Name x p) [e₁, e₂, e₃] [] pos) env) Q E s := Call_Name (by rw [hs]; rfl) h
end
section
variable {w : World} {g : Heap} {L : Addr} {m : Str → Option Value} {R R' : Led} {r s : Shared} {A : Around} {E : Value → Shared → Prop} {Q : Value → Shared → Prop} {c d : Int} {T T' : Tok}
theorem o_shl (S : St w g L m R r s) (h0 : 0 ≤ d) (h1 : d ≤ 1000000) (ha : c.natAbs < 2 ^ 64) (h : ∀ s' t, St w g L m R r s' → Q (.int (c * 2 ^ d.toNat) t) s') : wpAny (model pw w) A (binaryOp .LShift (.int c T) (.int d T')) Q E s := by
  with_reducible exact PyProof.Rows.lshift_int_small h0 h1 ha (h _ _ (S.tok _))
theorem o_and (S : St w g L m R r s) (h : ∀ s' t, St w g L m R r s' → Q (.int (Builtin.bitAnd c d) t) s') : wpAny (model pw w) A (binaryOp .BitAnd (.int c T) (.int d T')) Q E s := by
  with_reducible exact PyProof.Rows.and_int (h _ _ (S.tok _))
theorem o_mod (S : St w g L m R r s) (hd : d ≠ 0) (h : ∀ s' t, St w g L m R r s' → Q (.int (c.fmod d) t) s') : wpAny (model pw w) A (binaryOp .Mod (.int c T) (.int d T')) Q E s := by
  with_reducible exact PyProof.Rows.mod_int' hd (h _ _ (S.tok _))
theorem mulok (h : c.natAbs < 2 ^ 64) (h' : d.natAbs < 2 ^ 64) : IntMulOk c d := IntMulOk.of_le (intBits_le_iff.mpr h) (intBits_le_iff.mpr h') (by decide)
end
set_option hygiene false in
local macro_rules | `(tactic| walk_at "stb") => `(tactic| (repeat' ((fail_if_success (with_reducible show wpAny _ _ (execs (_ :: _) _) _ _ _)); (fail_if_success (with_reducible show wpC _ _ (execs (_ :: _) _) _ _ _)); walk_at "yy"); try (rename St _ _ _ _ _ _ _ => S)))
set_option hygiene false in
local macro_rules | `(tactic| walk_at "sts") => `(tactic| (walk_at "yy"; walk_at "stb"))
local macro_rules | `(tactic| walk_at "ste") => ways "Call_Name3 _ h1 ; h1 r"
noncomputable def dgt (n : Int) : Int := if 48 ≤ n ∧ n ≤ 57 then n - 48 else if 97 ≤ n ∧ n ≤ 122 then n - 87 else if 65 ≤ n ∧ n ≤ 90 then n - 55 else -1
noncomputable def valB (B : Int) (a : Int) : List UInt8 → Int
  | [] => a
  | c :: l => valB B (a * B + dgt c.toNat) l
theorem valB_ge {B : Int} (hB : 1 ≤ B) : ∀ (l : List UInt8) (a : Int), 0 ≤ a → (∀ c ∈ l, 0 ≤ dgt c.toNat) → a ≤ valB B a l
  | [], a, _, _ => Int.le_refl a
  | c :: l, a, ha, h => by
    have h1 := h c (.head _)
    have h2 : a ≤ a * B := by
      have := Int.mul_le_mul_of_nonneg_left hB ha
      lia
    have := valB_ge hB l (a * B + dgt c.toNat) (by lia) fun x hx => h x (.tail _ hx)
    show a ≤ valB B (a * B + dgt c.toNat) l
    lia
section
variable {w : World} {g : Heap} {R R' : Led} {r s s0 : Shared} {A : Around} {E : Value → Shared → Prop} {Q : Value → Shared → Prop} {k : Nat} {t t1 t2 t3 : Tok} {n : Int} {a : Addr} {vs : List Value} {ns : List Int} {text pre ds : List UInt8} {c : UInt8} {at_ B : Int}
theorem c_digit_of (rm : Rm A (k + 1)) (H : Hs w R s) (h : ∀ s' t, Ef R s R s' → Q (.int (dgt n) t) s') : wpAny (model pw w) A (call (.ref 117) [.int n t]) Q E s := by
  refine' enter (binds := [("octet", .int n t)]) (lb := [("octet", .int n t)]) rm H ?ho ?hcd ?hb ?hl ?hc ?h1 ?h2 ?h3 ?hr ?_
  walk_at "fn"
  intro L s E A S rm
  repeat' (first | walk_at "st" | with_reducible refine ite_d (fun hc => ?_) (fun hc => ?_))
  all_goals (rename St _ _ _ _ _ _ _ => S; have := fun t => h _ t S.ef; unfold dgt at this)
  all_goals first
    | (rw [if_pos (by lia)] at this; exact this _)
    | (rw [if_neg (by lia), if_pos (by lia)] at this; exact this _)
    | (rw [if_neg (by lia), if_neg (by lia), if_pos (by lia)] at this; exact this _)
    | (rw [if_neg (by lia), if_neg (by lia), if_neg (by lia)] at this; exact this _)
theorem c_read_digits_v (rm : Rm A (k + 2)) (H : Hs w R s0) (ht : text = pre ++ ds) (hat : at_ = pre.length) (hz : text.length ≤ 900000) (hB : 2 ≤ B) (hB2 : B ≤ 36) (hd : ∀ c ∈ ds, 0 ≤ dgt c.toNat ∧ dgt c.toNat < B) (hv : valB B 0 ds < 2 ^ 63)
    (h : ∀ s' a t t', Ef R s0 ((a, tupO [.int (valB B 0 ds) t, .int text.length t']) :: R) s' → Q (.ref a) s') :
    wpAny (model pw w) A (call (.ref 124) [.bytes text.toArray t1, .int at_ t2, .int B t3]) Q E s0 := by
  refine' enter (binds := [("text", .bytes text.toArray t1), ("at", .int at_ t2), ("base", .int B t3)]) (lb := [("base", .int B t3), ("at", .int at_ t2), ("text", .bytes text.toArray t1)]) rm H ?ho ?hcd ?hb ?hl ?hc ?h1 ?h2 ?h3 ?hr ?_
  walk_at "fn"
  intro L s E A S rm
  walk_at "stp"
  with_reducible refine x_while (fun n s => E7 fun (p d : List UInt8) (v at_ : Int) (ls : List (Str × Value)) (t t2 : Tok) => A11 (text = p ++ d) (at_ = p.length) (valB B v d = valB B 0 ds) (0 ≤ v) ((∀ c ∈ d, 0 ≤ dgt c.toNat ∧ dgt c.toNat < B)) (n = d.length) (St w (hideAll s0.heap (R.map (·.1))) L (Lm ls) R s0 s) (Lm ls "text" = some (.bytes text.toArray t1)) (Lm ls "at" = some (.int at_ t2)) (Lm ls "base" = some (.int B t3)) (Lm ls "found" = some (.int v t))) ds.length ?_ ?_
  · exact ⟨pre, ds, 0, at_, _, _, _, ht, hat, rfl, Int.le_refl _, hd, rfl, S, by walk_at "lm", by walk_at "lm", by walk_at "lm", by walk_at "lm"⟩
  clear S ht hat hd
  intro n s E' N hN hI
  obtain ⟨p, d, v, at_, ls, t, t2, ht, rfl, q1, q2, hd, rfl, S, m1, m2, m3, m4⟩ := hI
  walk_at "stp"
  with_reducible refine c_len (b := text) S (by lia) ?_
  intro s S t
  walk_at "stp"
  cases d with
  | nil =>
    rw [List.append_nil] at ht
    subst ht
    refine ite_dn (by lia) ?_
    walk_at "stp"
    have q1 : v = valB B 0 ds := q1
    rw [q1] at S
    exact h _ _ _ _ S.ef
  | cons c d => 
    have hlen : text.length = p.length + 1 + d.length := by rw [ht]; simp; lia
    refine ite_dy (by lia) ?_
    walk_at "stp"
    with_reducible refine o_item (b := text) (c := p.length) S (by lia) (by lia) (by lia) ?_ rfl (fun _ => rfl)
    intro s S t5
    have e3 : ((text.getD ((p.length : Int)).toNat 0).toNat : Int) = c.toNat := by
      rw [ht, Int.toNat_natCast, List.getD_eq_getElem?_getD, List.getElem?_append_right (by lia), Nat.sub_self]; rfl
    rw [e3]
    walk_at "stp"
    with_reducible refine c_digit_of rm S.hs fun s t e => ?_
    have S := S.call e
    walk_at "stp"
    obtain ⟨d1, d2⟩ := hd c (.head _)
    refine ite_dn (by lia) ?_
    walk_at "stp"
    refine ite_dn (by lia) ?_
    walk_at "stp"
    have q3 : v * B + dgt c.toNat ≤ valB B 0 ds := by
      rw [← q1]
      refine valB_ge (by lia) d _ ?_ fun x hx => (hd x (.tail _ hx)).1
      have := Int.mul_nonneg q2 (show 0 ≤ B by lia)
      lia
    have q4 : v ≤ v * B := by
      have := Int.mul_le_mul_of_nonneg_left (show 1 ≤ B by lia) q2
      lia
    with_reducible refine o_mul S (mulok (by lia) (by lia)) ?_
    intro s S t6
    walk_at "stp"
    exact hN ⟨_, by simp only [List.length_cons]; lia, p ++ [c], d, v * B + dgt c.toNat, p.length + 1, _, _, _, by rw [ht]; simp, by simp, q1, by lia, fun x hx => hd x (.tail _ hx), rfl, S, by walk_at "lm", by walk_at "lm", by walk_at "lm", by walk_at "lm"⟩
end
section
variable {w : World} {g : Heap} {R R' : Led} {r s s0 : Shared} {A : Around} {E : Value → Shared → Prop} {Q : Value → Shared → Prop} {k : Nat} {t t1 t2 t3 : Tok} {n : Int} {a lim : Addr} {vs : List Value} {ns : List Int} {text pre ds hs : List UInt8} {c : UInt8} {at_ B : Int}
theorem c_is_blank_v {z : UInt8} (rm : Rm A (k + 1)) (H : Hs w R s) (h : ∀ s', Ef R s R s' → Q (.bool (([32, 9, 10, 11, 12, 13] : List UInt8).contains z)) s') : wpAny (model pw w) A (call (.ref 110) [.int z.toNat t]) Q E s := by
  refine' enter (binds := [("octet", .int z.toNat t)]) (lb := [("octet", .int z.toNat t)]) rm H ?ho ?hcd ?hb ?hl ?hc ?h1 ?h2 ?h3 ?hr ?_
  walk_at "fn"
  intro L s E A S rm
  walk_at "stp"
  with_reducible refine o_inb (b := [32, 9, 10, 11, 12, 13]) ?_
  exact h _ S.ef
/-- no blank stands at a place -/
noncomputable def Still (text : List UInt8) (n : Nat) : Prop := n ≤ text.length ∧ ∀ c, text[n]? = some c → ([32, 9, 10, 11, 12, 13] : List UInt8).contains c = false
theorem still_of {n : Nat} (h1 : n ≤ text.length) (h2 : ∀ c, text[n]? = some c → ([32, 9, 10, 11, 12, 13] : List UInt8).contains c = false) : Still text n := ⟨h1, h2⟩
theorem dec_not {l : List UInt8} {x : UInt8} (hl : l.all (fun y => !(decide (48 ≤ y.toNat) && decide (y.toNat ≤ 57))) = true) (hx : isDec x) : l.contains x = false := by
  cases hf : l.contains x with
  | false => rfl
  | true =>
    have := List.all_eq_true.mp hl x (by simpa using hf)
    unfold isDec at hx
    simp [hx.1, hx.2] at this
theorem c_skip_blanks (rm : Rm A (k + 2)) (H : Hs w R s0) (hz : text.length ≤ 900000) {n : Nat} (hs : Still text n)
    (h : ∀ s', Ef R s0 R s' → Q (.int n t2) s') :
    wpAny (model pw w) A (call (.ref 131) [.bytes text.toArray t1, .int n t2]) Q E s0 := by
  refine' enter (binds := [("text", .bytes text.toArray t1), ("at", .int n t2)]) (lb := [("at", .int n t2), ("text", .bytes text.toArray t1)]) rm H ?ho ?hcd ?hb ?hl ?hc ?h1 ?h2 ?h3 ?hr ?_
  walk_at "fn"
  intro L s E A S rm
  walk_at "stp"
  with_reducible refine x_while (fun _ s => St w (hideAll s0.heap (R.map (·.1))) L (Lm [("at", .int n t2), ("text", .bytes text.toArray t1)]) R s0 s) 0 S ?_
  clear S
  intro m s E' N hN S
  walk_at "stp"
  with_reducible refine c_len (b := text) S (by lia) ?_
  intro s S t
  walk_at "stp"
  obtain ⟨i1, i2⟩ := hs
  refine ite_d (fun hc => ?_) (fun hc => ?_)
  · walk_at "stp"
    with_reducible refine o_item (b := text) (c := n) S (by lia) (by lia) (by lia) ?_ rfl (fun _ => rfl)
    intro s S t5
    walk_at "stp"
    with_reducible refine c_is_blank_v rm S.hs fun s e => ?_
    have S := S.call e
    walk_at "stp"
    have h3 : n < text.length := by lia
    refine ite_bn ?_ ?_
    · refine i2 _ ?_
      rw [List.getD_eq_getElem?_getD, Int.toNat_natCast, List.getElem?_eq_getElem h3]; rfl
    walk_at "stp"
    exact h _ S.ef
  · walk_at "stp"
    exact h _ S.ef

theorem c_skip_blanks' (rm : Rm A (k + 2)) (H : Hs w R s0) (hz : text.length ≤ 900000) {n : Nat} (hn : at_ = n) (hs : Still text n) (h : ∀ s', Ef R s0 R s' → Q (.int at_ t2) s') :
    wpAny (model pw w) A (call (.ref 131) [.bytes text.toArray t1, .int at_ t2]) Q E s0 := by subst hn; exact c_skip_blanks rm H hz hs h
theorem a_unp2n {g : Heap} {L : Addr} {m : Str → Option Value} {v1 v2 : Value} {Q : List Value → Shared → Prop} {n : Nat} (S : St w g L m R r s) (hn : n = 2) (hh : A.handled = none) (ha : (a, tupO [v1, v2]) ∈ R) (h : ∀ s', St w g L m R r s' → Q [v1, v2] s') :
    wpAny (model pw w) A (unpackItems (.ref a) n none) Q E s := by subst hn; exact a_unp2 S hh ha h
theorem c_wrap (rm : Rm A (k + 1)) (H : Hs w R s) (h0 : 0 ≤ n) (h1 : n < 2 ^ 63) (h : ∀ s' t, Ef R s R s' → Q (.int n t) s') : wpAny (model pw w) A (call (.ref 103) [.int n t, .int 64 t2]) Q E s := by
  refine' enter (binds := [("n", .int n t), ("width", .int 64 t2)]) (lb := [("width", .int 64 t2), ("n", .int n t)]) rm H ?ho ?hcd ?hb ?hl ?hc ?h1 ?h2 ?h3 ?hr ?_
  walk_at "fn"
  intro L s E A S rm
  walk_at "stp"
  with_reducible refine o_shl S (by decide) (by decide) (by decide) ?_
  intro s t S
  walk_at "stp"
  with_reducible refine o_and S ?_
  intro s t S
  have e : Builtin.bitAnd n (1 * 2 ^ (64 : Int).toNat - 1) = n := by
    rw [show (1 * 2 ^ (64 : Int).toNat - 1 : Int) = 2 ^ 64 - 1 by rfl, kbt_mask]
    lia
  rw [e]
  walk_at "stp"
  with_reducible refine o_shl S (by decide) (by decide) (by decide) ?_
  intro s t S
  walk_at "stp"
  refine ite_dn (by rw [show (1 * 2 ^ ((64 : Int) - 1).toNat : Int) = 2 ^ 63 by rfl]; lia) ?_
  walk_at "stp"
  exact h _ _ S.ef
end
local macro_rules | `(tactic| walk_at "sto") => ways "a_unp2n S hn hh ha _ ; S a hn r hh h ha mem ; i2"
section
variable {w : World} {g : Heap} {R R' : Led} {r s s0 : Shared} {A : Around} {E : Value → Shared → Prop} {Q : Value → Shared → Prop} {k : Nat} {t t1 t2 t3 : Tok} {n : Int} {a lim : Addr} {vs : List Value} {ns : List Int} {text pre ds hs : List UInt8} {c : UInt8} {at_ B : Int}
theorem c_text_dec (rm : Rm A (k + 3)) (H : Hs w R s0) (hl : LimIn w lim R) (hz : (c :: ds).length ≤ 900000) (hd : ∀ x ∈ c :: ds, isDec x) (hv : valB 10 0 (c :: ds) < 2 ^ 63)
    (h : ∀ s' t, Ef R s0 R s' → Q (.int (valB 10 0 (c :: ds)) t) s') :
    wpAny (model pw w) A (call (.ref 145) [.bytes (c :: ds).toArray t1, .int 0 t2, .ref lim]) Q E s0 := by
  refine' enter (binds := [("text", .bytes (c :: ds).toArray t1), ("base", .int 0 t2), ("limits", .ref lim)]) (lb := [("limits", .ref lim), ("base", .int 0 t2), ("text", .bytes (c :: ds).toArray t1)]) rm H ?ho ?hcd ?hb ?hl ?hc ?h1 ?h2 ?h3 ?hr ?_
  walk_at "fn"
  intro L s E A S rm
  with_reducible refine x_tupS (names := ["at", "is_below"]) ?_ rfl (by kernel_rfl!)
  walk_at "stp"
  have q0 : ∀ x : UInt8, isDec x → ([32, 9, 10, 11, 12, 13] : List UInt8).contains x = false := fun x => dec_not (by decide)
  with_reducible refine c_skip_blanks' (n := 0) rm S.hs hz rfl (still_of (Nat.zero_le _) fun x hx => q0 x (hd x (by simp at hx; rw [← hx]; exact List.mem_cons_self))) fun s e => ?_
  have S := S.call e
  walk_at "stb"
  have S := S.drop
  have e3 : ((((c :: ds).getD (0 : Int).toNat 0).toNat : Nat) : Int) = c.toNat := rfl
  with_reducible refine x_join (fun s => E1 fun t0 => St w (hideAll s0.heap (R.map (·.1))) L (Lm [("at", .int 0 t0), ("is_below", .bool false), ("limits", .ref lim), ("base", .int 0 t2), ("text", .bytes (c :: ds).toArray t1)]) R s0 s) ?_ ?_
  · intro N hN
    walk_at "stp"
    with_reducible refine c_len (b := c :: ds) S (by lia) ?_
    intro s S t
    walk_at "stp"
    refine ite_dy (by simp only [List.length_cons]; lia) ?_
    walk_at "stp"
    with_reducible refine o_item (b := c :: ds) (c := 0) S (by lia) (by lia) (by simp only [List.length_cons]; lia) ?_ rfl (fun _ => rfl)
    intro s S t
    rw [e3]
    walk_at "stp"
    with_reducible refine o_inb (b := [43, 45]) ?_
    walk_at "stp"
    refine ite_bn (dec_not (by decide) (hd c (.head _))) ?_
    walk_at "stp"
    exact ⟨rfl, hN ⟨_, S⟩⟩
  clear S
  intro s hP
  obtain ⟨t0, S⟩ := hP
  with_reducible refine x_join (fun s => E1 fun t0 => St w (hideAll s0.heap (R.map (·.1))) L (Lm [("is_marked", .bool false), ("at", .int 0 t0), ("is_below", .bool false), ("limits", .ref lim), ("base", .int 0 t2), ("text", .bytes (c :: ds).toArray t1)]) R s0 s) ?_ ?_
  · intro N hN
    walk_at "stp"
    with_reducible refine c_len (b := c :: ds) S (by lia) ?_
    intro s S t
    walk_at "stp"
    refine ite_d (fun hc => ?_) (fun hc => ?_)
    · walk_at "stp"
      with_reducible refine o_item (b := c :: ds) (c := 0) S (by lia) (by lia) (by simp only [List.length_cons]; lia) ?_ rfl (fun _ => rfl)
      intro s S t
      rw [e3]
      walk_at "stp"
      refine ite_d (fun hc2 => ?_) (fun hc2 => ?_)
      · walk_at "stp"
        with_reducible refine o_item (b := c :: ds) (c := 0 + 1) S (by lia) (by lia) (by lia) ?_ rfl (fun _ => rfl)
        intro s S t
        walk_at "stp"
        with_reducible refine o_inb (b := [120, 88]) ?_
        cases ds with
        | nil => exfalso; simp at hc
        | cons d ds =>
          rw [show ([120, 88] : List UInt8).contains (List.getD (c :: d :: ds) (0 + 1 : Int).toNat 0) = false from dec_not (by decide) (hd d (.tail _ (.head _)))]
          walk_at "stp"
          exact ⟨rfl, hN ⟨_, S⟩⟩
      · rw [decide_eq_false hc2]
        walk_at "stp"
        exact ⟨rfl, hN ⟨_, S⟩⟩
    · rw [decide_eq_false hc]
      walk_at "stp"
      exact ⟨rfl, hN ⟨_, S⟩⟩
  clear S
  intro s hP
  obtain ⟨t0, S⟩ := hP
  walk_at "stp"
  refine ite_dy rfl ?_
  walk_at "stp"
  with_reducible refine c_read_digits_v (pre := []) (ds := c :: ds) rm S.hs rfl rfl hz (by decide) (by decide) ?_ hv ?_
  · intro x hx
    have := hd x hx
    unfold isDec at this
    unfold dgt
    rw [if_pos (by lia)]
    lia
  intro s a t t' e
  have S := S.call e
  walk_at "stp"
  have S := S.drop
  refine ite_dn (by simp only [List.length_cons]; lia) ?_
  walk_at "stp"
  with_reducible refine c_skip_blanks' (n := (c :: ds).length) rm S.hs hz rfl (still_of (Nat.le_refl _) fun x hx => by simp at hx) fun s e => ?_
  have S := S.call e
  walk_at "stp"
  with_reducible refine c_len (b := c :: ds) S (by lia) ?_
  intro s S t
  walk_at "stp"
  refine ite_dn (by simp) ?_
  walk_at "stp"
  with_reducible refine c_wrap rm.one S.hs (valB_ge (by decide) _ _ (Int.le_refl _) ?_) hv ?_
  · intro x hx
    have := hd x hx
    unfold isDec at this
    unfold dgt
    rw [if_pos (by lia)]
    lia
  intro s t e
  have S := S.call e
  exact h _ _ S.ef

theorem c_text_hex (rm : Rm A (k + 3)) (H : Hs w R s0) (hl : LimIn w lim R) (hz : (48 :: 120 :: c :: ds).length ≤ 900000) (hd : ∀ x ∈ c :: ds, isHex x) (hv : valB 16 0 (c :: ds) < 2 ^ 63)
    (h : ∀ s' t, Ef R s0 R s' → Q (.int (valB 16 0 (c :: ds)) t) s') :
    wpAny (model pw w) A (call (.ref 145) [.bytes (48 :: 120 :: c :: ds).toArray t1, .int 0 t2, .ref lim]) Q E s0 := by
  refine' enter (binds := [("text", .bytes (48 :: 120 :: c :: ds).toArray t1), ("base", .int 0 t2), ("limits", .ref lim)]) (lb := [("limits", .ref lim), ("base", .int 0 t2), ("text", .bytes (48 :: 120 :: c :: ds).toArray t1)]) rm H ?ho ?hcd ?hb ?hl ?hc ?h1 ?h2 ?h3 ?hr ?_
  walk_at "fn"
  intro L s E A S rm
  have hx : ∀ x, isHex x → 0 ≤ dgt x.toNat ∧ dgt x.toNat < 16 := by
    intro x hx
    unfold isHex isDec at hx
    unfold dgt
    rcases hx with hx | hx
    · rw [if_pos (by lia)]; lia
    · rw [if_neg (by lia), if_neg (by lia), if_pos (by lia)]; lia
  generalize htx : 48 :: 120 :: c :: ds = tx at *
  have hap : tx = [48, 120] ++ c :: ds := htx.symm
  have n0 : 3 ≤ tx.length := by rw [← htx]; simp
  with_reducible refine x_tupS (names := ["at", "is_below"]) ?_ rfl (by kernel_rfl!)
  walk_at "stp"
  with_reducible refine c_skip_blanks' (n := 0) rm S.hs hz rfl (still_of (Nat.zero_le _) fun x hx => by rw [← htx] at hx; simp at hx; rw [← hx]; decide) fun s e => ?_
  have S := S.call e
  walk_at "stb"
  have S := S.drop
  have e0 : (((tx.getD (0 : Int).toNat 0).toNat : Nat) : Int) = (48 : UInt8).toNat := by rw [← htx]; rfl
  have e1 : (((tx.getD (0 + 1 : Int).toNat 0).toNat : Nat) : Int) = (120 : UInt8).toNat := by rw [← htx]; rfl
  have e2 : (((tx.getD (0 + 2 : Int).toNat 0).toNat : Nat) : Int) = c.toNat := by rw [← htx]; rfl
  with_reducible refine x_join (fun s => E1 fun t0 => St w (hideAll s0.heap (R.map (·.1))) L (Lm [("at", .int 0 t0), ("is_below", .bool false), ("limits", .ref lim), ("base", .int 0 t2), ("text", .bytes tx.toArray t1)]) R s0 s) ?_ ?_
  · intro N hN
    walk_at "stp"
    with_reducible refine c_len (b := tx) S (by lia) ?_
    intro s S t
    walk_at "stp"
    refine ite_dy (by lia) ?_
    walk_at "stp"
    with_reducible refine o_item (b := tx) (c := 0) S (by lia) (by lia) (by lia) ?_ rfl (fun _ => rfl)
    intro s S t
    rw [e0]
    walk_at "stp"
    with_reducible refine o_inb (b := [43, 45]) ?_
    walk_at "stp"
    refine ite_bn rfl ?_
    walk_at "stp"
    exact ⟨rfl, hN ⟨_, S⟩⟩
  clear S
  intro s hP
  obtain ⟨t0, S⟩ := hP
  with_reducible refine x_join (fun s => E1 fun t0 => St w (hideAll s0.heap (R.map (·.1))) L (Lm [("is_marked", .bool true), ("at", .int 0 t0), ("is_below", .bool false), ("limits", .ref lim), ("base", .int 0 t2), ("text", .bytes tx.toArray t1)]) R s0 s) ?_ ?_
  · intro N hN
    walk_at "stp"
    with_reducible refine c_len (b := tx) S (by lia) ?_
    intro s S t
    walk_at "stp"
    refine ite_dy (by lia) ?_
    walk_at "stp"
    with_reducible refine o_item (b := tx) (c := 0) S (by lia) (by lia) (by lia) ?_ rfl (fun _ => rfl)
    intro s S t
    rw [e0]
    walk_at "stp"
    refine ite_dy rfl ?_
    walk_at "stp"
    with_reducible refine o_item (b := tx) (c := 0 + 1) S (by lia) (by lia) (by lia) ?_ rfl (fun _ => rfl)
    intro s S t
    rw [e1]
    walk_at "stp"
    with_reducible refine o_inb (b := [120, 88]) ?_
    walk_at "stp"
    refine ite_by rfl ?_
    walk_at "stp"
    with_reducible refine o_in S List.mem_cons_self (.cons _ _ (.cons _ _ .nil)) ?_
    have S := S.drop
    rw [show ([0, 16] : List Int).any (· == 0) = true by decide]
    walk_at "stp"
    exact ⟨rfl, hN ⟨_, S⟩⟩
  clear S
  intro s hP
  obtain ⟨t0, S⟩ := hP
  walk_at "stp"
  with_reducible refine o_item (b := tx) (c := 0 + 2) S (by lia) (by lia) (by lia) ?_ rfl (fun _ => rfl)
  intro s S t
  rw [e2]
  walk_at "stp"
  with_reducible refine c_digit_of rm.one S.hs fun s t e => ?_
  have S := S.call e
  have h2 := hx c (hd c (.head _))
  walk_at "stp"
  refine ite_dy h2.1 ?_
  walk_at "stp"
  refine ite_dy h2.2 ?_
  walk_at "stb"
  with_reducible refine x_tupS (names := ["at", "base"]) ?_ rfl (by kernel_rfl!)
  walk_at "stp"
  have S := S.drop
  refine ite_dn (by decide) ?_
  walk_at "stp"
  with_reducible refine c_read_digits_v (pre := [48, 120]) (ds := c :: ds) rm.one S.hs hap rfl hz (by decide) (by decide) (fun x h => hx x (hd x h)) hv ?_
  intro s a t t' e
  have S := S.call e
  walk_at "stp"
  have S := S.drop
  have n1 : tx.length = ds.length + 3 := by rw [← htx]; rfl
  refine ite_dn (by lia) ?_
  walk_at "stp"
  with_reducible refine c_skip_blanks' (n := tx.length) rm.one S.hs hz rfl (still_of (Nat.le_refl _) fun x hx => by simp at hx) fun s e => ?_
  have S := S.call e
  walk_at "stp"
  with_reducible refine c_len (b := tx) S (by lia) ?_
  intro s S t
  walk_at "stp"
  refine ite_dn (by simp) ?_
  walk_at "stp"
  with_reducible refine c_wrap rm.one S.hs (valB_ge (by decide) _ _ (Int.le_refl _) fun x h => (hx x (hd x h)).1) hv ?_
  intro s t e
  have S := S.call e
  exact h _ _ S.ef
end
noncomputable abbrev Inv := Nat → List (Str × Value) → Led → Prop
/-- a thing that stays: of the text, or of the ledger at every turn -/
noncomputable def Fixed (w : World) (J : Inv) (b : Addr) : Prop := ∃ o, (LX.hdC.heap_1 w.params).lookup b = some o ∨ ∀ i ls R', J i ls R' → (b, o) ∈ R'
noncomputable def LoopAt (w : World) (A : Around) (g : Heap) (L : Addr) (r : Shared) (J : Inv) (n : Nat) (P : Nat → Value → Prop) (itv : Value) (s : Shared) : Prop :=
  ∃ I o fp T ls R', itv = .ref I ∧ Walks pw w A I fp [I] n P T ∧ T 0 s.heap ∧ (∀ i h, T i h → ∃ o, h.get? I = some o) ∧ St w g L (Lm ls) ((I, o) :: R') r s ∧ J 0 ls R' ∧ ∀ b ∈ fp, b ≠ I → Fixed w J b
section
variable {w : World} {g : Heap} {L : Addr} {m : Str → Option Value} {R R' : Led} {r s s' : Shared} {A : Around} {E : Value → Shared → Prop} {cn : Str} {cs : Scope} {a : Addr} {ccd : Value} {x y : Str} {px py pt pos : Pos} {k : Nat} {iter : Expr} {body rest : List Stmt} {Q : Flow → Shared → Prop}

theorem St.of_ef {h' : Heap} {t : Nat} (S : St w g L m R r s) (hk : ∀ b o, b ∉ R.map (·.1) → s.heap.get? b = some o → h'.get? b = some o)
    (hR : ∀ p ∈ R', h'.get? p.1 = some p.2 ∧ (p.1 ∈ R.map (·.1) ∨ s.heap.get? p.1 = none)) (nd : (R'.map (·.1)).Nodup) : St w g L m R' r { s with heap := h', toks := t } := by
  have nL : L ∉ R.map (·.1) := fun q => by
    obtain ⟨p, hp, h⟩ := List.mem_map.mp q
    exact (S.N p hp).2.1 h
  obtain ⟨oL, es, ep, hL, hd⟩ := S.F.ns
  refine ⟨S.base, ⟨⟨oL, es, ep, hk _ _ nL hL, hd⟩, fun b o q => hk _ _ (not_mem_of_N S.N q) (S.F.keep b o q), S.F.above⟩, fun p hp => ⟨(hR p hp).1, fun q => ?_, ?_⟩, nd, S.rest⟩
  · rcases (hR p hp).2 with h | h
    · exact nL (q ▸ h)
    · rw [q, hL] at h; cases h
  · rcases (hR p hp).2 with h | h
    · obtain ⟨p', hp', h'⟩ := List.mem_map.mp h
      rw [← h']; exact (S.N p' hp').2.2
    · cases hq : g.get? p.1 with
      | none => rfl
      | some o => rw [S.F.keep _ _ hq] at h; cases h
/-- the head's object changes alone -/
theorem St.turn {I : Addr} {o o' : Obj} {h' : Heap} {t : Nat} (S : St w g L m ((I, o) :: R) r s) (hk : ∀ b o, b ≠ I → s.heap.get? b = some o → h'.get? b = some o) (ho : h'.get? I = some o') : St w g L m ((I, o') :: R) r { s with heap := h', toks := t } := by
  have nd := S.nd
  have nI : I ∉ R.map (·.1) := (List.nodup_cons.mp nd).1
  refine S.of_ef (fun b o hb e => hk b o (fun q => hb (q ▸ .head _)) e) (fun p hp => ?_) nd
  rcases List.mem_cons.mp hp with rfl | hp
  · exact ⟨ho, .inl (.head _)⟩
  · exact ⟨hk _ _ (fun q => nI (q ▸ List.mem_map_of_mem hp)) (S.N p (.tail _ hp)).1, .inl (.tail _ (List.mem_map_of_mem hp))⟩

theorem x_for1 {J : Inv} {n : Nat} {P : Nat → Value → Prop} (_S : St w g L m R r s) (hx : isLoc cs x = true)
    (h : wpAny (model pw w) A (eval iter (envOf cn cs L a ccd)) (fun v s₁ => wpAny (model pw w) A (pyIter v) (fun itv s₂ => LoopAt w A g L r J n P itv s₂) E s₁) E s)
    (turn : ∀ i v ls R' I o s E' (N : Shared → Prop), (∀ {s₃}, (E2 fun ls' R'' => A2 (J (i + 1) ls' R'') (St w g L (Lm ls') ((I, o) :: R'') r s₃)) → N s₃) → i < n → P i v → J i ls R' → St w g L (Lm ((x, v) :: ls)) ((I, o) :: R') r s →
      wpAny (model pw w) A (execs body (envOf cn cs L a ccd)) (fun f s₃ => f = .next ∧ N s₃) E' s)
    (done : ∀ ls R' s, J n ls R' → St w g L (Lm ls) R' r s → wpAny (model pw w) A (execs rest (envOf cn cs L a ccd)) Q E s)
    (hs : ∀ x, foldedSetIterable iter (envOf cn cs L a ccd) x = pure x) :
    wpAny (model pw w) A (execs (.For (.Name x px) iter body [] pos :: rest) (envOf cn cs L a ccd)) Q E s := by
  refine x_cons (wpAny_For (wpAny_mono h (fun v s₁ h₁ => wpAny_mono h₁ (fun itv s₂ h₂ => ?_) fun _ _ x => x) fun _ _ x => x) hs)
  obtain ⟨I, o, fp, T, ls, R', rfl, W, hT, hTo, S, hJ, hfp⟩ := h₂
  refine codeAny_forLoop_any (fun k s => E4 fun i o ls R' => A5 (k = n + 1 - i) (i ≤ n) (T i s.heap) (J i ls R') (St w g L (Lm ls) ((I, o) :: R') r s)) ?_ (n + 1) ⟨0, o, ls, R', rfl, Nat.zero_le _, hT, hJ, S⟩
  clear S hT hJ
  rintro k s ⟨i, o, ls, R', rfl, hi, hT, hJ, S⟩
  by_cases hlt : i < n
  · refine W.item i _ _ _ hlt hT fun v h' tk hP hT' hk => ?_
    obtain ⟨o', ho'⟩ := hTo _ _ hT'
    have S' := S.turn (t := tk) (fun b o hb e => hk b o (by simpa using hb) e) ho'
    refine wpAny_pure ?_
    refine wpAny_assign_Name (n_store S' hx fun s₂ S₂ => ?_)
    refine wpAny_mono (turn i v ls R' I o' s₂ _ _ (fun h => h) hlt hP hJ S₂) (fun f s₃ h₃ => ?_) fun _ _ x => x
    obtain ⟨rfl, ls', R'', hJ', S₃⟩ := h₃
    refine ⟨n + 1 - (i + 1), by lia, i + 1, o', ls', R'', rfl, hlt, ?_, hJ', S₃⟩
    refine W.frame _ _ _ hT' fun b hb ob hob => ?_
    by_cases hbI : b = I
    · subst hbI
      have := (S₃.N _ (.head _)).1
      rw [ho'] at hob; cases hob; exact this
    · obtain ⟨oo, hoo⟩ := hfp b hb hbI
      rcases hoo with hoo | hoo
      · have e1 := S₃.Xs _ _ hoo
        have e2 := S'.Xs _ _ hoo
        rw [show h'.get? b = some oo from e2] at hob; cases hob; exact e1
      · have e1 := (S₃.N _ (.tail _ (hoo _ _ _ hJ'))).1
        have e2 := (S'.N _ (.tail _ (hoo _ _ _ hJ))).1
        rw [show h'.get? b = some oo from e2] at hob; cases hob; exact e1
  · have : i = n := by lia
    subst this
    refine W.done _ _ _ hT fun h' tk hk => ?_
    refine wpAny_execs_nil ?_
    have S' : St w g L (Lm ls) R' r { s with heap := h', toks := tk } := by
      have nd := S.nd
      have nI : I ∉ R'.map (·.1) := (List.nodup_cons.mp nd).1
      refine S.of_ef (fun b o hb e => hk b o (fun q => hb (by simp at q; rw [q]; exact .head _)) e) (fun p hp => ⟨hk _ _ (fun q => nI (by simp at q; rw [← q]; exact List.mem_map_of_mem hp)) (S.N p (.tail _ hp)).1, .inl (.tail _ (List.mem_map_of_mem hp))⟩) (List.nodup_cons.mp nd).2
    exact done _ _ _ hJ S'

noncomputable def LoopE (w : World) (A : Around) (g : Heap) (L : Addr) (r : Shared) (J : Inv) (n : Nat) (P : Nat → Value → Prop) (itv : Value) (s : Shared) : Prop :=
  ∃ I it o o2 fp T Mid ls R', itv = .ref I ∧ WalksT pw w A I fp [I, it] n (fun i vals => ∃ t x, P i x ∧ vals = #[.int i t, x]) T Mid ∧ T 0 s.heap ∧ (∀ i h, T i h → (∃ o, h.get? I = some o) ∧ ∃ o, h.get? it = some o) ∧
    St w g L (Lm ls) ((I, o) :: (it, o2) :: R') r s ∧ J 0 ls R' ∧ ∀ b ∈ fp, b ≠ I → b ≠ it → Fixed w J b

/-- the two heads' objects change alone -/
theorem St.turn2 {I it : Addr} {o o' o2 o2' : Obj} {h' : Heap} {t : Nat} (S : St w g L m ((I, o) :: (it, o2) :: R) r s) (hk : ∀ b o, b ∉ [I, it] → s.heap.get? b = some o → h'.get? b = some o) (ho : h'.get? I = some o') (ho2 : h'.get? it = some o2') :
    St w g L m ((I, o') :: (it, o2') :: R) r { s with heap := h', toks := t } := by
  have nd := S.nd
  simp only [List.map_cons, List.nodup_cons, List.mem_cons, not_or] at nd
  refine S.of_ef (fun b o hb e => hk b o (fun q => ?_) e) (fun p hp => ?_) S.nd
  · simp only [List.mem_cons, List.not_mem_nil, or_false] at q
    rcases q with rfl | rfl
    · exact hb (.head _)
    · exact hb (.tail _ (.head _))
  rcases List.mem_cons.mp hp with rfl | hp
  · exact ⟨ho, .inl (.head _)⟩
  rcases List.mem_cons.mp hp with rfl | hp
  · exact ⟨ho2, .inl (.tail _ (.head _))⟩
  · refine ⟨hk _ _ (fun q => ?_) (S.N p (.tail _ (.tail _ hp))).1, .inl (.tail _ (.tail _ (List.mem_map_of_mem hp)))⟩
    simp only [List.mem_cons, List.not_mem_nil, or_false] at q
    rcases q with q | q
    · exact nd.1.2 (q ▸ List.mem_map_of_mem hp)
    · exact nd.2.1 (q ▸ List.mem_map_of_mem hp)

theorem x_forE {J : Inv} {n : Nat} {P : Nat → Value → Prop} (_S : St w g L m R r s) (hh : A.handled = none) (hx : isLoc cs x = true) (hy : isLoc cs y = true)
    (h : wpAny (model pw w) A (eval iter (envOf cn cs L a ccd)) (fun v s₁ => wpAny (model pw w) A (pyIter v) (fun itv s₂ => LoopE w A g L r J n P itv s₂) E s₁) E s)
    (turn : ∀ i v tk ls R' I it o o2 s E' (N : Shared → Prop), (∀ {s₃}, (E2 fun ls' R'' => A2 (J (i + 1) ls' R'') (St w g L (Lm ls') ((I, o) :: (it, o2) :: R'') r s₃)) → N s₃) → i < n → P i v → J i ls R' → St w g L (Lm ((y, v) :: (x, .int i tk) :: ls)) ((I, o) :: (it, o2) :: R') r s →
      wpAny (model pw w) A (execs body (envOf cn cs L a ccd)) (fun f s₃ => f = .next ∧ N s₃) E' s)
    (done : ∀ ls R' s, J n ls R' → St w g L (Lm ls) R' r s → wpAny (model pw w) A (execs rest (envOf cn cs L a ccd)) Q E s)
    (hs : ∀ x, foldedSetIterable iter (envOf cn cs L a ccd) x = pure x) :
    wpAny (model pw w) A (execs (.For (.Tuple [.Name x px, .Name y py] k pt) iter body [] pos :: rest) (envOf cn cs L a ccd)) Q E s := by
  refine x_cons (wpAny_For (wpAny_mono h (fun v s₁ h₁ => wpAny_mono h₁ (fun itv s₂ h₂ => ?_) fun _ _ x => x) fun _ _ x => x) hs)
  obtain ⟨I, it, o, o2, fp, T, Mid, ls, R', rfl, W, hT, hTo, S, hJ, hfp⟩ := h₂
  refine codeAny_forLoop_any (fun k s => E5 fun i o o2 ls R' => A5 (k = n + 1 - i) (i ≤ n) (T i s.heap) (J i ls R') (St w g L (Lm ls) ((I, o) :: (it, o2) :: R') r s)) ?_ (n + 1) ⟨0, o, o2, ls, R', rfl, Nat.zero_le _, hT, hJ, S⟩
  clear S hT hJ
  rintro kk s ⟨i, o, o2, ls, R', rfl, hi, hT, hJ, S⟩
  by_cases hlt : i < n
  · refine W.item i _ _ _ hlt hT fun Ta vals h' tk hP hsz hTu hMid hk => ?_
    obtain ⟨t, v, hP, rfl⟩ := hP
    have hap := W.apart _ _ _ hMid
    refine W.go _ _ _ i Ta _ _ _ hMid fun h'' hT' hk' => ?_
    obtain ⟨⟨o', ho'⟩, ⟨o2', ho2'⟩⟩ := hTo _ _ hT'
    have S' := S.turn2 (t := tk) (fun b o hb e => hk' b o hb (hk b o hb e)) ho' ho2'
    have hTu' : IsTup h'' Ta #[.int i t, v] := by
      obtain ⟨ob, h1, h2⟩ := hTu
      exact ⟨ob, hk' _ _ hap h1, h2⟩
    refine assign_Tuple_tuple hh hTu' (by rw [aE2]; rfl) (by rw [aE2]; rfl) fun h₃ he => ?_
    have S₃ := S'.ext (t := tk) he
    have e1 : (assignEach [.Name x px, .Name y py] (envOf cn cs L a ccd)).map (·.2) = [assign (.Name x px) (envOf cn cs L a ccd), assign (.Name y py) (envOf cn cs L a ccd)] := by rw [aE2]; rfl
    simp only [e1]
    refine a_ord (g := assign (.Name x px) (envOf cn cs L a ccd)) (f := assign (.Name y py) (envOf cn cs L a ccd)) (assign_Name (n_store S₃ hx fun s₄ S₄ => assign_Name (n_store S₄ hy fun s₅ S₅ => ?_)))
    refine wpAny_mono (turn i v t ls R' I it o' o2' s₅ _ _ (fun h => h) hlt hP hJ S₅) (fun f s₆ h₆ => ?_) fun _ _ x => x
    obtain ⟨rfl, ls', R'', hJ', S₆⟩ := h₆
    refine ⟨n + 1 - (i + 1), by lia, i + 1, o', o2', ls', R'', rfl, hlt, ?_, hJ', S₆⟩
    refine W.frame _ _ _ hT' fun b hb ob hob => ?_
    by_cases hbI : b = I
    · subst hbI
      have := (S₆.N _ (.head _)).1
      rw [ho'] at hob; cases hob; exact this
    by_cases hbt : b = it
    · subst hbt
      have := (S₆.N _ (.tail _ (.head _))).1
      rw [ho2'] at hob; cases hob; exact this
    · obtain ⟨oo, hoo⟩ := hfp b hb hbI hbt
      rcases hoo with hoo | hoo
      · have e1 := S₆.Xs _ _ hoo
        have e2 := S'.Xs _ _ hoo
        rw [show h''.get? b = some oo from e2] at hob; cases hob; exact e1
      · have e1 := (S₆.N _ (.tail _ (.tail _ (hoo _ _ _ hJ')))).1
        have e2 := (S'.N _ (.tail _ (.tail _ (hoo _ _ _ hJ)))).1
        rw [show h''.get? b = some oo from e2] at hob; cases hob; exact e1
  · have : i = n := by lia
    subst this
    refine W.done _ _ _ hT fun h' tk hk => ?_
    refine wpAny_execs_nil ?_
    have S' : St w g L (Lm ls) R' r { s with heap := h', toks := tk } := by
      have nd := S.nd
      simp only [List.map_cons, List.nodup_cons, List.mem_cons, not_or] at nd
      refine S.of_ef (fun b o hb e => hk b o (fun q => ?_) e) (fun p hp => ⟨hk _ _ (fun q => ?_) (S.N p (.tail _ (.tail _ hp))).1, .inl (.tail _ (.tail _ (List.mem_map_of_mem hp)))⟩) nd.2.2
      · simp only [List.mem_cons, List.not_mem_nil, or_false] at q
        rcases q with rfl | rfl
        · exact hb (.head _)
        · exact hb (.tail _ (.head _))
      · simp only [List.mem_cons, List.not_mem_nil, or_false] at q
        rcases q with q | q
        · exact nd.1.2 (q ▸ List.mem_map_of_mem hp)
        · exact nd.2.1 (q ▸ List.mem_map_of_mem hp)
    exact done _ _ _ hJ S'
end
namespace FBY
theorem slot_hash : Slot "bytes" "__hash__" "bytes.__hash__" :=
  .of (owner := "bytes") (n := "__hash__") (by rw [typeLookup_type, builtinLookup_eq_fast]; kernel_rfl) (by decide +kernel) (by decide +kernel) (by decide +kernel)
    (by first | exact .inl (by decide +kernel) | exact .inr (by decide +kernel)) (by rw [isSubtype_type]; kernel_rfl)
theorem entry_hash : entryFor table "bytes.__hash__" = some Builtin.«bytes.__hash__» := entryFor_of_tree (by kernel_rfl)
theorem args_hash (a : Value) : argsOk "bytes.__hash__" ⟨[a], []⟩ := by
  unfold argsOk; rw [signature?_of (id := "bytes.__hash__") (n := ['_', '_', 'h', 's', 'a', 'h', '_', '_']) (o := ['s', 'e', 't', 'y', 'b']) (by kernel_rfl) FB.owner_bytes]; kernel_rfl
end FBY
noncomputable def isB : List UInt8 → Value → Bool
  | k, .bytes b _ => b.toList == k
  | _, _ => false
theorem isB_shape {k : List UInt8} {v : Value} (h : isB k v = true) : ∃ t, v = .bytes k.toArray t := by
  cases v <;> simp [isB] at h
  rename_i b t
  exact ⟨t, by rw [← h]⟩
theorem isB_self {k : List UInt8} {t : Tok} : isB k (.bytes k.toArray t) = true := by simp [isB]
section
variable {prog : Program} {w : World} {A : Around} {E : Value → Shared → Prop} {s : Shared}
noncomputable def byHash (w : World) (b : Array UInt8) : Int := reduceHash (hashStr w ⟨b.map (·.toNat)⟩)
theorem pyHash_by {b : Array UInt8} {t : Tok} {Q : Int → Shared → Prop} (h : Q (byHash w b) { s with toks := s.toks + 1 }) : wpAny (model prog w) A (pyHash (.bytes b t)) Q E s := by
  have hT : s.TypeIs (.bytes b t) "bytes" := rfl
  unfold pyHash pyHashByItsType
  refine wpAny_bind (wpAny_cRoomFor_byValue rfl ?_)
  refine wpAny_bind (wpAny_specialOf hT FBY.slot_hash.lookup ?_)
  show wpAny _ _ (if (some (Value.builtin "bytes.__hash__") == some Value.none) = true then _ else _) Q E s
  rw [if_neg (by rw [beq_builtin_none]; exact Bool.false_ne_true)]
  refine wpAny_bind (wpAny_specialOf hT FBY.slot_hash.lookup ?_)
  show wpAny _ _ (callSpecialIfBoundUnlessNone? (.bytes b t) "__hash__" _ >>= _) Q E s
  refine wpAny_bind (wpAny_callSpecialIfBoundUnlessNone?_slot hT FBY.slot_hash (wpAny_call_entry FBY.slot_hash hT FBY.entry_hash
      (show wpAny _ _ (strHash ⟨b.map (·.toNat)⟩ >>= fun i => retInt i) _ _ s from ?_) (FBY.args_hash _)))
  refine wpAny_bind ?_
  unfold strHash
  refine wpAny_bind (wpAny_askSetting (wpAny_pure ?_))
  refine wpAny_ret_mkInt ?_
  have e : (if (Str.cps ⟨b.map (·.toNat)⟩).isEmpty = true then (0 : Int) else reduceHash ((model prog w).w.params.strHash (Str.cps ⟨b.map (·.toNat)⟩))) = hashStr w ⟨b.map (·.toNat)⟩ := rfl
  rw [e]
  unfold byHash at h
  generalize hashStr w ⟨b.map (·.toNat)⟩ = i at h ⊢
  show wpAny _ _ (if (decide (-(2 : Int) ^ 63 ≤ i) && decide (i < 2 ^ 63)) = true then _ else _) Q E _
  unfold reduceHash at h
  by_cases hr : (decide (-(2 : Int) ^ 63 ≤ i) && decide (i < 2 ^ 63)) = true
  · rw [if_pos hr]
    rw [if_pos hr] at h
    exact wpAny_pure h
  · rw [if_neg hr]
    rw [if_neg hr] at h
    exact wpAny_bind (wpAny_rule (wpAny_pure h))
theorem eqBool_by {a b : Array UInt8} {t u : Tok} {Q : Bool → Shared → Prop} (h : Q (decide (a.toList = b.toList)) s) : wpAny (model prog w) A (eqBool (.bytes a t) (.bytes b u)) Q E s := by
  unfold eqBool
  show wpAny _ _ (if (Value.bytes a t == Value.bytes b u) = true then _ else _) Q E s
  by_cases hab : (Value.bytes a t == Value.bytes b u) = true
  · rw [if_pos hab]
    have e : a = b := by have := eq_of_beq hab; injection this
    subst e
    exact wpAny_bind (wpAny_rule (wpAny_pure (by simpa using h)))
  · rw [if_neg hab]
    refine wpAny_bind (richCompare_gives (op := .Eq) (T := "bytes") rfl rfl FB.slot_bytes_eq FB.entry_bytes_eq (FB.args_bytes_eq_2 _ _) (gives_bytes_eq a b t u) (fun x => nomatch x) (wpAny_truthy_bool ?_))
    have e : (a.toList == b.toList) = decide (a.toList = b.toList) := by
      rw [Bool.eq_iff_iff]; simp
    rw [e]; exact h
end
noncomputable def byKind (prog : Program) (w : World) : KeyKind prog w (List UInt8) where
  is := isB
  hash := fun k => byHash w k.toArray
  inj := fun v a b ha hb => by
    obtain ⟨t, rfl⟩ := isB_shape ha
    obtain ⟨u, hu⟩ := isB_shape hb
    injection hu with hx
    exact congrArg Array.toList hx
  byValue := fun k v h => by obtain ⟨t, rfl⟩ := isB_shape h; rfl
  pyHash := fun hv h => by obtain ⟨t, rfl⟩ := isB_shape hv; exact pyHash_by h
  eqBool := fun hu hv h => by
    obtain ⟨t, rfl⟩ := isB_shape hu
    obtain ⟨u, rfl⟩ := isB_shape hv
    exact eqBool_by h
  «strs» := fun k x t v h => by simp [isB] at h
noncomputable def RESL : List (List UInt8) := [[97, 110, 100], [98, 114, 101, 97, 107], [100, 111], [101, 108, 115, 101], [101, 108, 115, 101, 105, 102], [101, 110, 100], [102, 97, 108, 115, 101], [102, 111, 114], [102, 117, 110, 99, 116, 105, 111, 110], [105, 102], [105, 110],
  [108, 111, 99, 97, 108], [110, 105, 108], [110, 111, 116], [111, 114], [114, 101, 112, 101, 97, 116], [114, 101, 116, 117, 114, 110], [116, 104, 101, 110], [116, 114, 117, 101], [117, 110, 116, 105, 108], [119, 104, 105, 108, 101]]
noncomputable def byItems (tk : Nat) : List (List UInt8) → List Value
  | [] => []
  | b :: l => .bytes b.toArray tk :: byItems (tk + 1) l
theorem byItems_get : ∀ (l : List (List UInt8)) (tk i : Nat) (v : Value), (byItems tk l)[i]? = some v → ∃ b, l[i]? = some b ∧ v = .bytes b.toArray (tk + i)
  | b :: l, tk, 0, v, h => ⟨b, rfl, (Option.some.inj h).symm⟩
  | b :: l, tk, i + 1, v, h => by
    obtain ⟨c, h1, h2⟩ := byItems_get l (tk + 1) i v h
    exact ⟨c, h1, by rw [h2, Nat.add_assoc, Nat.add_comm 1 i]⟩
theorem byItems_length : ∀ (l : List (List UInt8)) (tk : Nat), (byItems tk l).length = l.length
  | [], _ => rfl
  | b :: l, tk => congrArg (· + 1) (byItems_length l (tk + 1))
theorem res_at {w : World} : (LX.hdC.heap_1 w.params).lookup 181 = some (lstO (byItems 437 RESL) 0) := by kernel_rfl!
section
variable {w : World} {g : Heap} {L : Addr} {l : List (Str × Value)} {m : Str → Option Value} {R R' pre post : Led} {r s s0 : Shared} {A : Around} {E : Value → Shared → Prop} {Q : Value → Shared → Prop} {ev : Env} {d a : Addr} {o : Obj} {kvs : List (List UInt8 × Value)} {b : List UInt8} {t : Tok} {v : Value} {k : Nat} {items : List Value} {n : Nat} {pos : Pos}
theorem updF_nd : ∀ {pre post : Led}, ((pre ++ (d, o) :: post).map (·.1)).Nodup → UpdF d o (pre ++ (d, o) :: post) (fun o' => pre ++ (d, o') :: post)
  | [], post, h => .head fun p hp e => by
    have h1 : d ∉ post.map (·.1) := (List.nodup_cons.mp h).1
    exact h1 (List.mem_map.mpr ⟨p, hp, e⟩)
  | p :: pre, post, h => .tail (fun e => by
    have h1 : p.1 ∉ (pre ++ (d, o) :: post).map (·.1) := (List.nodup_cons.mp h).1
    exact h1 (List.mem_map.mpr ⟨(d, o), List.mem_append_right _ (.head _), e.symm⟩)) (updF_nd (List.nodup_cons.mp h).2)
theorem s_dset {Q : Unit → Shared → Prop} (S : St w g L m (pre ++ (d, o) :: post) r s) (hd : o.IsDictOf (byKind pw w) kvs) (hz : kvs.length ≤ 1000)
    (h : ∀ s' o', St w g L m (pre ++ (d, o') :: post) r s' → o'.IsDictOf (byKind pw w) (stored kvs b v) → Q () s') : wpAny (model pw w) A (setItem (.ref d) (.bytes b.toArray t) v) Q E s :=
  kda_set S.F S.N (updF_nd S.nd) hd (k := b) (isB_self (t := t)) (by rw [sizeLine_eq]; lia) fun h' o' F' N' hd' => h _ o' (S.heap _ F' N' (by simpa using S.nd)) hd'
theorem St.low (S : St w g L m R r s) : sysModules < g.objs.size := let ⟨_, _, _, _, T⟩ := S.base.T; modules_low T.nolimit
theorem o_dict0 (S : St w g L m R r s) (h : ∀ s' d o, St w g L m ((d, o) :: R) r s' → (d == sysModules) = false → o.IsDictOf (byKind pw w) [] → Q (.ref d) s') : wpAny (model pw w) A (eval (.Dict [] [] pos) ev) Q E s := by
  refine wpAny_Dict_empty (h { s with heap := s.heap.push { cls := .type "dict", data := .dict #[] } } s.heap.objs.size { cls := .type "dict", data := .dict #[] } (S.more (k := s.toks) (S.F.push _) (S.N.push S.F _)) (S.F.notModules S.low) ?_)
  obtain ⟨o, ho, hd⟩ := Heap.dictOf_iff.mp (Heap.DictOf.new (knd := byKind pw w) s.heap)
  rw [Heap.get?_push_size _ rfl] at ho
  exact (Option.some.inj ho) ▸ hd
theorem x_asub {o i pos' value pos} {rest : List Stmt} {Q : Flow → Shared → Prop} {M : Model}
    (h : wpAny M A (eval value ev) (fun v s₁ => wpAny M A (eval o ev) (fun ov s₂ => wpAny M A (eval i ev) (fun iv s₃ =>
      wpAny M A (setItem ov iv v) (fun _ s₄ => wpAny M A (execs rest ev) Q E s₄) E s₃) E s₂) E s₁) E s)
    (hs : swapsWith value (some (.Subscript o i pos')) pos.line ev = pure false) :
    wpAny M A (execs (.Assign [.Subscript o i pos'] value pos :: rest) ev) Q E s := x_cons (wpAny_Assign_Subscript h hs)
/-- enumerate over a list that stays -/
theorem o_enum {J : Inv} {ls : List (Str × Value)} (S : St w g L (Lm ls) R r s) (hh : A.handled = none) (ha : s.heap.IsList a items.toArray) (hf : Fixed w J a) (hJ : J 0 ls R) :
    wpAny (model pw w) A (call (.type "enumerate") [.ref a]) (fun v s₁ => wpAny (model pw w) A (pyIter v) (fun itv s₂ => LoopE w A g L r J items.length (fun i x => items[i]? = some x) itv s₂) E s₁) E s := by
  refine call_enumerate_list ha fun h' he hit hz hk => ?_
  refine wpAny_pyIter_enum (s := { s with heap := h' }) he ?_
  have hla : a < s.heap.objs.size := by obtain ⟨o, ho, _⟩ := ha; exact Heap.lt_size ho
  have ha' : h'.IsList a items.toArray := ha.at fun o e => hk _ o e
  obtain ⟨io, hio, hic, hid⟩ := id hit
  have nR : ∀ p ∈ R, p.1 < s.heap.objs.size := fun p hp => Heap.lt_size (S.N p hp).1
  generalize hNN : s.heap.objs.size = NN at *
  have nn : ∀ b, NN ≤ b → s.heap.get? b = none := fun b hb => by
    cases hq : s.heap.get? b with
    | none => rfl
    | some _ => exact absurd (Heap.lt_size hq) (by rw [hNN]; exact Nat.not_lt.mpr hb)
  have S' : St w g L (Lm ls) ((NN + 1, { cls := .type "enumerate", dict := none, data := .fields #[.none, .bool false, .ref NN, rawInt 0, .none, .none], slots := #[] }) :: (NN, io) :: R) r { s with heap := h', toks := s.toks } := by
    refine S.of_ef (fun b o _ e => hk b o e) (fun p hp => ?_) ?_
    · rcases List.mem_cons.mp hp with rfl | hp
      · exact ⟨he, .inr (nn _ (Nat.le_succ _))⟩
      rcases List.mem_cons.mp hp with rfl | hp
      · exact ⟨hio, .inr (nn _ (Nat.le_refl _))⟩
      · exact ⟨hk _ _ (S.N p hp).1, .inl (List.mem_map_of_mem hp)⟩
    · have n1 : NN + 1 ∉ R.map (·.1) := fun q => by
        obtain ⟨p, hp, e⟩ := List.mem_map.mp q
        exact absurd (nR p hp) (by rw [e]; exact Nat.not_lt.mpr (Nat.le_succ _))
      have n2 : NN ∉ R.map (·.1) := fun q => by
        obtain ⟨p, hp, e⟩ := List.mem_map.mp q
        exact absurd (nR p hp) (by rw [e]; exact Nat.lt_irrefl _)
      refine List.nodup_cons.mpr ⟨fun q => ?_, List.nodup_cons.mpr ⟨n2, S.nd⟩⟩
      rcases List.mem_cons.mp q with q | q
      · exact absurd q (Nat.succ_ne_self NN)
      · exact n1 q
  have ne1 : (NN + 1 : Addr) ≠ NN := Nat.succ_ne_self NN
  have ne2 : a ≠ NN + 1 := Nat.ne_of_lt (Nat.lt_succ_of_lt hla)
  have ne3 : a ≠ NN := Nat.ne_of_lt hla
  have W := WalksT.enumerate (prog := pw) (w := w) hh (NN + 1) NN a ne1 ne2 ne3 items.toArray
  have e1 : items.toArray.size = items.length := List.size_toArray ..
  rw [e1] at W
  have e2 : (fun (i : Nat) (vals : Array Value) => ∃ t x, items.toArray[i]? = some x ∧ vals = #[.int i t, x]) = (fun i vals => ∃ t x, items[i]? = some x ∧ vals = #[.int i t, x]) := by
    funext i vals
    simp only [List.getElem?_toArray]
  rw [e2] at W
  refine ⟨_, _, _, _, _, _, _, ls, R, rfl, W, ?_, ?_, S', hJ, ?_⟩
  · exact ⟨⟨_, he⟩, hit, ha'⟩
  · rintro i h ⟨⟨_, x1⟩, ⟨_, x2, _⟩, _⟩
    exact ⟨⟨_, x1⟩, ⟨_, x2⟩⟩
  · intro b hb h1 h2
    simp only [List.mem_cons, List.not_mem_nil, or_false] at hb
    rcases hb with rfl | rfl | rfl
    · exact absurd rfl h1
    · exact absurd rfl h2
    · exact hf
end
local macro_rules | `(tactic| walk_at "stx") => ways "x_asub _ h1 ; h1 r"
/-- the kinds of the reserved words -/
noncomputable def KvTo (n : Nat) (kvs : List (List UInt8 × Value)) : Prop := kvs.map (·.1) = RESL.take n ∧ ∀ (j : Nat) (p : List UInt8 × Value), kvs[j]? = some p → ∃ t, p.2 = .int (257 + j) t
theorem stored_new {kvs : List (List UInt8 × Value)} {k : List UInt8} {v : Value} (h : k ∉ kvs.map (·.1)) : stored kvs k v = kvs ++ [(k, v)] := by
  unfold stored
  rw [if_neg]
  intro hh
  obtain ⟨p, hp, e⟩ := List.any_eq_true.mp hh
  exact h (List.mem_map.mpr ⟨p, hp, by simpa using e⟩)
theorem RESL_nodup : RESL.Nodup := by decide +kernel
theorem KvTo.more {n : Nat} {kvs : List (List UInt8 × Value)} {k : List UInt8} {t : Tok} (h : KvTo n kvs) (hk : RESL[n]? = some k) : k ∉ kvs.map (·.1) ∧ KvTo (n + 1) (kvs ++ [(k, .int (257 + (n : Int)) t)]) := by
  have hn : n < RESL.length := (List.getElem?_eq_some_iff.mp hk).1
  have hl : kvs.length = n := by have := congrArg List.length h.1; simp at this; lia
  have ht : RESL.take (n + 1) = RESL.take n ++ [k] := by rw [List.take_add_one, hk]; rfl
  refine ⟨fun q => ?_, ?_, fun j p hp => ?_⟩
  · rw [h.1] at q
    have nd := RESL_nodup.sublist (List.take_sublist (n + 1) RESL)
    rw [ht] at nd
    exact (List.nodup_append.mp nd).2.2 _ q _ (.head _) rfl
  · rw [List.map_append, h.1, ht]; rfl
  · rcases Nat.lt_trichotomy j kvs.length with hj | hj | hj
    · rw [List.getElem?_append_left hj] at hp; exact h.2 j p hp
    · subst hj; simp at hp; subst hp; exact ⟨t, by rw [hl]⟩
    · rw [List.getElem?_eq_none (by simp; lia)] at hp; cases hp
section
variable {w : World} {g : Heap} {R R' : Led} {r s s0 : Shared} {A : Around} {E : Value → Shared → Prop} {Q : Value → Shared → Prop} {k : Nat} {a : Addr}
theorem c_reserved_kinds (rm : Rm A (k + 1)) (H : Hs w R s0) (h : ∀ s' d o kvs, Ef R s0 ((d, o) :: R) s' → (d == sysModules) = false → o.IsDictOf (byKind pw w) kvs → KvTo 21 kvs → Q (.ref d) s') : wpAny (model pw w) A (call (.ref 238) []) Q E s0 := by
  refine' enter (binds := []) (lb := []) rm H ?ho ?hcd ?hb ?hl ?hc ?h1 ?h2 ?h3 ?hr ?_
  walk_at "fn"
  intro L s E A S rm
  walk_at "sts"
  with_reducible refine o_dict0 S ?_
  intro s d o S hd ho
  walk_at "stb"
  with_reducible refine x_forE S (J := fun i ls R' => E2 fun o kvs => A4 (R' = (d, o) :: R) (Lm ls "kinds" = some (.ref d)) (o.IsDictOf (byKind pw w) kvs) (KvTo i kvs)) (n := (byItems 437 RESL).length) (P := fun i x => (byItems 437 RESL)[i]? = some x) rm.h (by kernel_rfl!) (by kernel_rfl!) ?_ ?_ ?_ (fun _ => rfl)
  · walk_at "stp"
    exact o_enum S rm.h ⟨_, S.Xs _ _ res_at, rfl, _, rfl⟩ ⟨_, .inl res_at⟩ ⟨o, [], rfl, by walk_at "lm", ho, rfl, fun j p hp => by simp at hp⟩
  · intro i v tk ls R' I it o₁ o₂ s E' N hN hi hP hJ S
    obtain ⟨o, kvs, rfl, m1, ho, hkv⟩ := hJ
    obtain ⟨b, hb, rfl⟩ := byItems_get _ _ _ _ hP
    walk_at "stp"
    have hl : kvs.length ≤ 21 := by have := congrArg List.length hkv.1; simp only [List.length_map, List.length_take] at this; have e : RESL.length = 21 := rfl; lia
    with_reducible refine s_dset (pre := [(I, o₁), (it, o₂)]) (post := R) S ho (by lia) ?_
    intro s o' S ho'
    have hm := fun t => hkv.more (t := t) hb
    rw [stored_new (hm 0).1] at ho'
    walk_at "stp"
    exact ⟨rfl, hN ⟨_, _, ⟨o', _, rfl, by walk_at "lm", ho', (hm _).2⟩, S⟩⟩
  · intro ls R' s hJ S
    obtain ⟨o, kvs, rfl, m1, ho, hkv⟩ := hJ
    walk_at "stp"
    exact h _ _ _ _ S.ef hd ho hkv
end
noncomputable def KindsIn (w : World) (d : Addr) (R : Led) : Prop := ∃ o kvs, (d, o) ∈ R ∧ (d == sysModules) = false ∧ o.IsDictOf (byKind pw w) kvs ∧ KvTo 21 kvs
theorem KindsIn.tail {w : World} {d : Addr} {R : Led} {p : Addr × Obj} (h : KindsIn w d R) : KindsIn w d (p :: R) := let ⟨o, kvs, h1, h2⟩ := h; ⟨o, kvs, .tail _ h1, h2⟩
theorem KvTo.keys {kvs : List (List UInt8 × Value)} (h : KvTo 21 kvs) : kvs.map (·.1) = RESL := h.1
theorem KvTo.none {kvs : List (List UInt8 × Value)} {k : List UInt8} (h : KvTo 21 kvs) (hk : k ∉ RESL) : valueAt kvs k = none := by
  unfold valueAt
  rw [Option.map_eq_none_iff, List.find?_eq_none]
  intro p hp
  simp only [decide_eq_true_eq]
  intro e
  rw [← h.keys] at hk
  exact hk (List.mem_map.mpr ⟨p, hp, e⟩)
theorem valueAt_nd : ∀ {kvs : List (List UInt8 × Value)} {j : Nat} {p : List UInt8 × Value}, (kvs.map (·.1)).Nodup → kvs[j]? = some p → valueAt kvs p.1 = some p.2
  | q :: kvs, 0, p, _, h => by
    obtain rfl : q = p := Option.some.inj h
    unfold valueAt
    rw [List.find?_cons_of_pos (by simp)]; rfl
  | q :: kvs, j + 1, p, nd, h => by
    have h' : kvs[j]? = some p := h
    have hne : q.1 ≠ p.1 := fun e => (List.nodup_cons.mp nd).1 (List.mem_map.mpr ⟨p, List.mem_of_getElem? h', e.symm⟩)
    have ih := valueAt_nd (List.nodup_cons.mp nd).2 h'
    unfold valueAt at ih ⊢
    rw [List.find?_cons_of_neg (by simpa using hne)]; exact ih
theorem KvTo.some {kvs : List (List UInt8 × Value)} {k : List UInt8} {j : Nat} (h : KvTo 21 kvs) (hk : RESL[j]? = .some k) : ∃ t, valueAt kvs k = .some (.int (257 + j) t) := by
  have e : (kvs.map (·.1))[j]? = .some k := by rw [h.keys]; exact hk
  rw [List.getElem?_map] at e
  cases hq : kvs[j]? with
  | none => rw [hq] at e; cases e
  | some p =>
    rw [hq] at e
    obtain rfl : p.1 = k := Option.some.inj e
    obtain ⟨t, ht⟩ := h.2 j p hq
    have := valueAt_nd (by rw [h.keys]; exact RESL_nodup) hq
    rw [ht] at this
    exact ⟨t, this⟩
section
variable {w : World} {g : Heap} {L : Addr} {m : Str → Option Value} {R R' : Led} {r s s0 : Shared} {A : Around} {E : Value → Shared → Prop} {Q : Value → Shared → Prop} {i : Id} {σ σ' : Lx} {buf bf l l' rest ct nm : List UInt8} {c : UInt8} {k : Nat} {t : Tok} {n : Int} {a d : Addr} {vs : List Value} {ns : List Int} {b : UInt8} {lv : Nat}
theorem m_dget {pl : Sem Bool} {Q : Value × List Value → Shared → Prop} (S : St w g L m R r s) (h : KindsIn w d R) (hq : Q (.builtin "dict.get", [.ref d]) s) : wpAny (model pw w) A (getMethod (.ref d) "get" pl) Q E s := by
  obtain ⟨o, kvs, h1, h2, h3, h4⟩ := h
  exact kdg_method S.N h1 h3 hq
theorem o_dget (S : St w g L m R r s) (h : KindsIn w d R) (hq : ∀ kvs s', KvTo 21 kvs → St w g L m R r s' → Q ((valueAt kvs b').getD .none) s') : wpAny (model pw w) A (call (.builtin "dict.get") [.ref d, .bytes b'.toArray t]) Q E s := by
  obtain ⟨o, kvs, h1, h2, h3, h4⟩ := h
  exact kdg_get1 S.N h1 h3 h2 (k := b') (isB_self (t := t)) _ rfl (hq kvs _ h4 (S.tok _))

theorem c_read_word {kind : Int} {tv : TV} (rm : Rm A (k + 9)) (H : Hs w (lexL w.params i σ [] R) s0) (hl : LimIn w σ.limits R) (hkd : KindsIn w σ.kinds R) (V : Vw σ [] (nm ++ rest)) (hn : ∀ c ∈ nm, isNm c.toNat) (hr : ¬ isNm (sgn rest))
    (hk : (nm ∉ RESL ∧ kind = 285 ∧ tv = .bytes nm) ∨ (∃ j : Nat, RESL[j]? = .some nm ∧ kind = 257 + j ∧ tv = .none))
    (h : ∀ x dx k1 k2 s' σ' bf t1 v, Ef (lexL w.params i σ [] R) s0 (lexL w.params i σ' bf (tokL w.params x dx k1 k2 (.int kind t1) v ++ R)) s' → tv.Is v → Same σ σ' → Vw σ' bf rest → Q (.ref x) s') :
    wpC (model pw w) A (call (.ref 406) [.ref i.x]) Q E s0 := by
  refine' enterC (binds := [("self", .ref i.x)]) (lb := [("self", .ref i.x)]) rm H ?ho ?hcd ?hb ?hl ?hc ?h1 ?h2 ?h3 ?hr ?_
  walk_at "fn"
  intro L s E A S rm
  with_reducible refine y_while (fun n s => E4 fun (σ₂ : Lx) (p q : List UInt8) (ls : List (Str × Value)) => A6 (nm = p ++ q) (Same σ σ₂) (Vw σ₂ p (q ++ rest)) (n = q.length) (St w (hideAll s0.heap ((lexL w.params i σ [] R).map (·.1))) L (Lm ls) (lexL w.params i σ₂ p R) s0 s) (Lm ls "self" = .some (.ref i.x))) nm.length ?_ ?_
  · exact ⟨σ, [], nm, _, rfl, Same.rfl', V, rfl, S, by walk_at "lm"⟩
  clear S V
  intro n s E' N hN hI
  obtain ⟨σ₂, p, q, ls, hpq, sm, V₂, rfl, S, m1⟩ := hI
  have z := V₂.bf
  have e2 : σ₂.sign = sgn (q ++ rest) := V₂.sign
  walk_at "stp"
  with_reducible refine wpC_of (c_is_name rm.one S.hs fun s b e hb => ?_)
  have S := S.call e
  walk_at "stp"
  cases q with
  | nil =>
    rw [List.nil_append] at V₂ e2
    rw [List.append_nil] at hpq
    subst hpq
    refine ite_bn (Bool.eq_false_iff.mpr fun e => hr (by have := hb.mp e; rw [e2] at this; exact this)) ?_
    walk_at "stp"
    have hkd' : KindsIn w σ₂.kinds (lexL w.params i σ₂ nm R) := by rw [sm.kinds]; exact hkd.tail.tail.tail
    with_reducible refine m_dget S hkd' ?_
    walk_at "stp"
    with_reducible refine wpC_of (o_dget S hkd' ?_)
    intro kvs s hkv S
    walk_at "stp"
    rcases hk with ⟨h1, rfl, rfl⟩ | ⟨j, h1, rfl, rfl⟩
    · rw [hkv.none h1]
      refine ite_by rfl ?_
      walk_at "stp"
      with_reducible refine ol_token rm.one S ?_
      intro x dx k1 k2 s S
      exact h _ _ _ _ _ _ _ _ _ S.ef ⟨_, rfl⟩ sm V₂
    · obtain ⟨t9, h2⟩ := hkv.some h1
      rw [h2, Option.getD_some] at S ⊢
      refine ite_bn rfl ?_
      walk_at "stp"
      with_reducible refine ol_token rm.one S ?_
      intro x dx k1 k2 s S
      exact h _ _ _ _ _ _ _ _ _ S.ef rfl sm V₂
  | cons c q =>
    have hc := hn c (by rw [hpq]; exact List.mem_append_right _ (.head _))
    rw [List.cons_append] at V₂
    refine ite_by (hb.mpr (by rw [e2]; exact hc)) ?_
    walk_at "stp"
    with_reducible refine c_keep_and_move rm.one S.hs (by rw [sm.limits]; exact hl) V₂ ?_
    intro s σ₃ e sm3 V₃
    have S := S.call e
    refine ⟨rfl, ?_⟩
    walk_at "stp"
    exact hN ⟨_, by simp only [List.length_cons]; lia, σ₃, p ++ [c], q, ls, by rw [hpq]; simp, sm.trans sm3, V₃, rfl, S, m1⟩
end
inductive Par : List UInt8 → Int → Prop
  | dec {c ds} : (∀ x ∈ c :: ds, isDec x) → valB 10 0 (c :: ds) < 2 ^ 63 → Par (c :: ds) (valB 10 0 (c :: ds))
  | hex {c ds} : (∀ x ∈ c :: ds, isHex x) → valB 16 0 (c :: ds) < 2 ^ 63 → Par (48 :: 120 :: c :: ds) (valB 16 0 (c :: ds))
section
variable {w : World} {g : Heap} {L : Addr} {m : Str → Option Value} {R R' : Led} {r s s0 : Shared} {A : Around} {E : Value → Shared → Prop} {Q : Value → Shared → Prop} {i : Id} {σ σ' : Lx} {buf bf l l' rest ct nm text ds ns : List UInt8} {c : UInt8} {k : Nat} {t t1 : Tok} {n v : Int} {a d lim : Addr} {vs : List Value} {b : UInt8} {lv : Nat}
theorem c_str_to_number (rm : Rm A (k + 4)) (H : Hs w R s0) (hl : LimIn w lim R) (hz : text.length ≤ 900000) (hp : Par text v) (h : ∀ s' t, Ef R s0 R s' → Q (.int v t) s') :
    wpAny (model pw w) A (call (.ref 138) [.bytes text.toArray t1, .ref lim]) Q E s0 := by
  refine' enter (binds := [("text", .bytes text.toArray t1), ("limits", .ref lim)]) (lb := [("limits", .ref lim), ("text", .bytes text.toArray t1)]) rm H ?ho ?hcd ?hb ?hl ?hc ?h1 ?h2 ?h3 ?hr ?_
  walk_at "fn"
  intro L s E A S rm
  walk_at "stp"
  cases hp with
  | dec h1 h2 =>
    with_reducible refine c_text_dec rm S.hs hl hz h1 h2 ?_
    intro s t e
    have S := S.call e
    exact h _ _ S.ef
  | hex h1 h2 =>
    with_reducible refine c_text_hex rm S.hs hl hz h1 h2 ?_
    intro s t e
    have S := S.call e
    exact h _ _ S.ef

theorem c_read_numeral (rm : Rm A (k + 9)) (H : Hs w (lexL w.params i σ [] R) s0) (hl : LimIn w σ.limits R) (V : Vw σ [] (ds ++ (ns ++ rest))) (hd : ∀ c ∈ ds, isDec c) (hn : ∀ c ∈ ns, isNm c.toNat) (hr : ¬ isNm (sgn rest))
    (h1 : ¬ (48 ≤ sgn (ns ++ rest) ∧ sgn (ns ++ rest) ≤ 57)) (h2 : sgn (ns ++ rest) ≠ 46) (h3 : sgn (ns ++ rest) ≠ 69) (h4 : sgn (ns ++ rest) ≠ 101) (hp : Par (ds ++ ns) v)
    (h : ∀ x dx k1 k2 s' σ' bf t1 t2, Ef (lexL w.params i σ [] R) s0 (lexL w.params i σ' bf (tokL w.params x dx k1 k2 (.int 284 t1) (.int v t2) ++ R)) s' → Same σ σ' → Vw σ' bf rest → Q (.ref x) s') :
    wpC (model pw w) A (call (.ref 413) [.ref i.x]) Q E s0 := by
  refine' enterC (binds := [("self", .ref i.x)]) (lb := [("self", .ref i.x)]) rm H ?ho ?hcd ?hb ?hl ?hc ?h1 ?h2 ?h3 ?hr ?_
  walk_at "fn"
  intro L s E A S rm
  with_reducible refine y_while (fun n s => E4 fun (σ₂ : Lx) (p q : List UInt8) (ls : List (Str × Value)) => A6 (ds = p ++ q) (Same σ σ₂) (Vw σ₂ p (q ++ (ns ++ rest))) (n = q.length) (St w (hideAll s0.heap ((lexL w.params i σ [] R).map (·.1))) L (Lm ls) (lexL w.params i σ₂ p R) s0 s) (Lm ls "self" = .some (.ref i.x))) ds.length ?_ ?_
  · exact ⟨σ, [], ds, _, rfl, Same.rfl', V, rfl, S, by walk_at "lm"⟩
  clear S V
  intro n s E' N hN hI
  obtain ⟨σ₂, p, q, ls, hpq, sm, V₂, rfl, S, m1⟩ := hI
  have z := V₂.bf
  have e2 : σ₂.sign = sgn (q ++ (ns ++ rest)) := V₂.sign
  walk_at "stp"
  with_reducible refine c_is_digit rm.one S.hs fun s e => ?_
  have S := S.call e
  walk_at "stp"
  cases q with
  | cons c q =>
    have hc : isDec c := hd c (by rw [hpq]; exact List.mem_append_right _ (.head _))
    rw [List.cons_append] at V₂
    have e2 : σ₂.sign = c.toNat := e2
    unfold isDec at hc
    refine ite_dy (by lia) ?_
    walk_at "stp"
    with_reducible refine c_keep_and_move rm.one S.hs (by rw [sm.limits]; exact hl) V₂ ?_
    intro s σ₃ e sm3 V₃
    have S := S.call e
    refine ⟨rfl, ?_⟩
    walk_at "stp"
    exact hN ⟨_, by simp only [List.length_cons]; lia, σ₃, p ++ [c], q, ls, by rw [hpq]; simp, sm.trans sm3, V₃, rfl, S, m1⟩
  | nil =>
    rw [List.nil_append] at V₂ e2
    rw [List.append_nil] at hpq
    subst hpq
    refine ite_dn (by rw [e2]; exact h1) ?_
    walk_at "stp"
    refine ite_dn (by rw [e2]; exact h2) ?_
    walk_at "stb"
    have n1 : ([69, 101] : List Int).any (· == sgn (ns ++ rest)) = false := by
      simp only [List.any_cons, List.any_nil, Bool.or_false, Bool.or_eq_false_iff]
      exact ⟨beq_eq_false_iff_ne.mpr (Ne.symm h3), beq_eq_false_iff_ne.mpr (Ne.symm h4)⟩
    walk_at "stp"
    with_reducible refine c_keep_if rm.one S.hs (by rw [sm.limits]; exact hl.tail) V₂ List.mem_cons_self (.cons _ _ (.cons _ _ .nil)) (by decide) ?_ (fun c l' he ht => ?_)
    rotate_left
    · exfalso
      rw [he] at n1
      exact absurd ht (by rw [show sgn (c :: l') = (c.toNat : Int) from rfl] at n1; rw [n1]; decide)
    intro _ s e
    have S := (S.call e).dropL
    walk_at "stp"
    with_reducible refine y_while (fun n s => E3 fun (σ₃ : Lx) (p q : List UInt8) => A5 (ns = p ++ q) (Same σ σ₃) (Vw σ₃ (ds ++ p) (q ++ rest)) (n = q.length) (St w (hideAll s0.heap ((lexL w.params i σ [] R).map (·.1))) L (Lm ls) (lexL w.params i σ₃ (ds ++ p) R) s0 s)) ns.length ?_ ?_
    · exact ⟨σ₂, [], ns, rfl, sm, by rw [List.append_nil]; exact V₂, rfl, by rw [List.append_nil]; exact S⟩
    clear S V₂ e2 sm z
    intro n s E' N hN hI
    obtain ⟨σ₃, p, q, hpq, sm, V₃, rfl, S⟩ := hI
    have z := V₃.bf
    have e2 : σ₃.sign = sgn (q ++ rest) := V₃.sign
    walk_at "stp"
    with_reducible refine wpC_of (c_is_name rm.one S.hs fun s b e hb => ?_)
    have S := S.call e
    walk_at "stp"
    cases q with
    | cons c q =>
      have hc := hn c (by rw [hpq]; exact List.mem_append_right _ (.head _))
      rw [List.cons_append] at V₃
      refine ite_by (hb.mpr (by rw [e2]; exact hc)) ?_
      walk_at "stp"
      with_reducible refine c_keep_and_move rm.one S.hs (by rw [sm.limits]; exact hl) V₃ ?_
      intro s σ₄ e sm4 V₄
      have S := S.call e
      rw [List.append_assoc] at S V₄
      refine ⟨rfl, ?_⟩
      walk_at "stp"
      exact hN ⟨_, by simp only [List.length_cons]; lia, σ₄, p ++ [c], q, by rw [hpq]; simp, sm.trans sm4, V₄, rfl, S⟩
    | nil =>
      rw [List.nil_append] at V₃ e2
      rw [List.append_nil] at hpq
      subst hpq
      refine ite_bn (Bool.eq_false_iff.mpr fun e => hr (by have := hb.mp e; rw [e2] at this; exact this)) ?_
      walk_at "stp"
      with_reducible refine wpC_of (c_str_to_number rm.one S.hs (by rw [sm.limits]; exact hl.lex) (by lia) hp fun s t e => ?_)
      have S := S.call e
      walk_at "stp"
      refine ite_bn rfl ?_
      walk_at "stp"
      with_reducible refine wpC_of (ol_token rm.one S ?_)
      intro x dx k1 k2 s S
      exact h _ _ _ _ _ _ _ _ _ S.ef sm V₃
end
theorem Long.len {lv : Nat} {l c r : List UInt8} (h : Long lv l c r) : r.length < l.length := by
  induction h with
  | @close l r h1 h2 => have := past_le l; rw [h2] at this; simp only [List.length_cons] at this ⊢; lia
  | @shut l c r h1 h2 ih => have := past_le l; simp only [List.length_cons]; lia
  | @open1 l c r h1 h2 ih => have := past_le l; simp only [List.length_cons]; lia
  | @open2 l l' c r h1 h2 h3 h4 ih => have := past_le l; rw [h3] at this; simp only [List.length_cons] at this ⊢; lia
  | @line d l c r h1 h2 ih => have := eol_le d l; simp only [List.length_cons]; lia
  | @other d l c r h1 h2 h3 h4 h5 ih => simp only [List.length_cons]; lia
theorem eol1_le (l : List UInt8) : (eol1 l).length ≤ l.length := by
  cases l with
  | nil => exact Nat.le_refl _
  | cons d l =>
    show (if d = 10 ∨ d = 13 then eol d l else d :: l).length ≤ _
    split
    · have := eol_le d l; simp only [List.length_cons]; lia
    · exact Nat.le_refl _
theorem Blank1.len {l r : List UInt8} (h : Blank1 l r) : r.length < l.length := by
  cases h with
  | @line d l hd => have := eol_le d l; simp only [List.length_cons]; lia
  | @gap d l hd => simp
  | @short l h => have := toNl_le l; simp only [List.length_cons]; lia
  | @long l l3 c r lv h1 h2 h3 => have := h3.len; have := eol1_le l3; have := past_le l; rw [h2] at this; simp only [List.length_cons] at this ⊢; lia
theorem valB_dec : ∀ (l : List UInt8) (a : Nat), (∀ c ∈ l, isDec c) → valB 10 a l = decV a l
  | [], a, _ => rfl
  | c :: l, a, h => by
    have hc := h c (.head _)
    unfold isDec at hc
    have e : (a : Int) * 10 + dgt c.toNat = ((10 * a + (c.toNat - 48) : Nat) : Int) := by unfold dgt; rw [if_pos (by lia)]; lia
    show valB 10 (a * 10 + dgt c.toNat) l = _
    rw [e, valB_dec l _ fun x hx => h x (.tail _ hx)]; rfl
theorem valB_hex : ∀ (l : List UInt8) (a : Nat), (∀ c ∈ l, isHex c) → valB 16 a l = hexV a l
  | [], a, _ => rfl
  | c :: l, a, h => by
    have hc := h c (.head _)
    unfold isHex isDec at hc
    have e : (a : Int) * 16 + dgt c.toNat = ((16 * a + hexD c : Nat) : Int) := by
      unfold dgt hexD
      rcases hc with hc | hc
      · rw [if_pos (by lia), if_pos (by lia)]; lia
      · rw [if_neg (by lia), if_neg (by lia), if_pos (by lia), if_neg (by lia)]; lia
    show valB 16 (a * 16 + dgt c.toNat) l = _
    rw [e, valB_hex l _ fun x hx => h x (.tail _ hx)]; rfl
theorem isHex_nm {c : UInt8} (h : isHex c) : isNm c.toNat := by unfold isHex isDec at h; unfold isNm; lia
theorem isDec_nm {c : UInt8} (h : isDec c) : isNm c.toNat := isHex_nm (.inl h)
theorem any2 (p q n : Int) : ([p, q] : List Int).any (· == n) = decide (n = p ∨ n = q) := by
  simp only [List.any_cons, List.any_nil, Bool.or_false]
  rw [Bool.eq_iff_iff]
  simp only [Bool.or_eq_true, beq_iff_eq, decide_eq_true_eq]
  lia
theorem any4 (p q p2 q2 n : Int) : ([p, q, p2, q2] : List Int).any (· == n) = decide (n = p ∨ n = q ∨ n = p2 ∨ n = q2) := by
  simp only [List.any_cons, List.any_nil, Bool.or_false]
  rw [Bool.eq_iff_iff]
  simp only [Bool.or_eq_true, beq_iff_eq, decide_eq_true_eq]
  lia
set_option hygiene false in
local macro_rules | `(tactic| walk_at "rds") => `(tactic| (repeat' (first
  | walk_at "yy"
  | ((with_reducible refine' o_in2 ?S ?_); (case S => assumption); intro _ _)
  | ((with_reducible refine' o_in4 ?S ?_); (case S => assumption); intro _ _)
  | (with_reducible refine ite_dn (by lia) ?_)
  | (with_reducible refine ite_dy (by lia) ?_)
  | (with_reducible refine c_is_digit (Rm.one (by assumption)) (St.hs (by assumption)) fun s e => ?_; have := St.call (by assumption) e)
  | (with_reducible refine wpC_of (d_is_letter (Rm.one (by assumption)) (St.hs (by assumption)) fun s e => ?_); have := St.call (by assumption) e)
  | (with_reducible refine d_is_letter (Rm.one (by assumption)) (St.hs (by assumption)) fun s e => ?_; have := St.call (by assumption) e)); rename St _ _ _ _ _ _ _ => S))
section
variable {w : World} {g : Heap} {L : Addr} {m : Str → Option Value} {R R' : Led} {r s s0 : Shared} {A : Around} {E : Value → Shared → Prop} {Q : Value → Shared → Prop} {i : Id} {σ σ' : Lx} {buf bf l l' l1 rest ct nm text ds ns : List UInt8} {c : UInt8} {k : Nat} {t t1 : Tok} {n v kind : Int} {a d lim : Addr} {vs : List Value} {b : UInt8} {lv : Nat} {tv : TV}
theorem o_in2 {g : Heap} {L : Addr} {m : Str → Option Value} {p q : Int} {tp tq : Tok} (S : St w g L m (lexL w.params i σ buf ((a, tupO [.int p tp, .int q tq]) :: R)) r s)
    (h : ∀ s', St w g L m (lexL w.params i σ buf R) r s' → Q (.bool (decide (n = p ∨ n = q))) s') : wpAny (model pw w) A (compareOp .In (.int n t) (.ref a)) Q E s := by
  refine o_in S (lexL_rest List.mem_cons_self) (.cons _ _ (.cons _ _ .nil)) ?_
  rw [any2]
  exact h _ S.dropL
theorem o_in4 {g : Heap} {L : Addr} {m : Str → Option Value} {p q p2 q2 : Int} {tp tq tp2 tq2 : Tok} (S : St w g L m (lexL w.params i σ buf ((a, tupO [.int p tp, .int q tq, .int p2 tp2, .int q2 tq2]) :: R)) r s)
    (h : ∀ s', St w g L m (lexL w.params i σ buf R) r s' → Q (.bool (decide (n = p ∨ n = q ∨ n = p2 ∨ n = q2))) s') : wpAny (model pw w) A (compareOp .In (.int n t) (.ref a)) Q E s := by
  refine o_in S (lexL_rest List.mem_cons_self) (.cons _ _ (.cons _ _ (.cons _ _ (.cons _ _ .nil)))) ?_
  rw [any4]
  exact h _ S.dropL
theorem d_is_letter (rm : Rm A (k + 1)) (H : Hs w R s) (h : ∀ s', Ef R s R s' → Q (.bool (decide ((65 ≤ n ∧ n ≤ 90) ∨ (97 ≤ n ∧ n ≤ 122) ∨ n = 95))) s') : wpAny (model pw w) A (call (.ref 196) [.int n t]) Q E s :=
  c_is_letter rm H fun s' b e hb => by
    have : b = decide ((65 ≤ n ∧ n ≤ 90) ∨ (97 ≤ n ∧ n ≤ 122) ∨ n = 95) := by rw [Bool.eq_iff_iff, hb, decide_eq_true_eq]
    rw [this]; exact h _ e
set_option maxHeartbeats 4000000 in
theorem c_read (rm : Rm A (k + 12)) (H : Hs w (lexL w.params i σ buf R) s0) (hl : LimIn w σ.limits R) (hkd : KindsIn w σ.kinds R) (V : Vw σ buf l) (hb : Blanks l l1) (nb : NoBlank l1) (ho : One l1 kind tv rest)
    (h : ∀ x dx k1 k2 s' σ' bf t1 v, Ef (lexL w.params i σ buf R) s0 (lexL w.params i σ' bf (tokL w.params x dx k1 k2 (.int kind t1) v ++ R)) s' → tv.Is v → Same σ σ' → Vw σ' bf rest → Q (.ref x) s') :
    wpC (model pw w) A (call (.ref 364) [.ref i.x]) Q E s0 := by
  refine' enterC (binds := [("self", .ref i.x)]) (lb := [("self", .ref i.x)]) rm H ?ho ?hcd ?hb ?hl ?hc ?h1 ?h2 ?h3 ?hr ?_
  walk_at "fn"
  intro L s E A S rm
  walk_at "sts"
  with_reducible refine c_clear rm.one S.hs V ?_
  intro s σ₁ e sm V₁
  have S := S.call e
  refine ⟨rfl, ?_⟩
  with_reducible refine y_while (fun n s => E2 fun (σ₂ : Lx) (l₂ : List UInt8) => A5 (Same σ σ₂) (Vw σ₂ [] l₂) (Blanks l₂ l1) (n = l₂.length) (St w (hideAll s0.heap ((lexL w.params i σ buf R).map (·.1))) L (Lm [("self", .ref i.x)]) (lexL w.params i σ₂ [] R) s0 s)) l.length ?_ ?_
  · exact ⟨σ₁, l, sm, V₁, hb, rfl, S⟩
  clear S V V₁ hb sm
  intro n s E' N hN hI
  obtain ⟨σ₂, l₂, sm, V₂, hb, rfl, S⟩ := hI
  walk_at "stp"
  have hlim : LimIn w σ₂.limits R := by rw [sm.limits]; exact hl
  have hkin : KindsIn w σ₂.kinds R := by rw [sm.kinds]; exact hkd
  cases hb with
  | cons h1 h2 =>
    with_reducible refine c_skip_blank rm.one S.hs hlim V₂ h1 ?_
    intro s σ₃ e sm3 V₃
    have S := S.call e
    walk_at "stp"
    exact hN ⟨_, h1.len, σ₃, _, sm.trans sm3, V₃, h2, rfl, S⟩
  | nil =>
    with_reducible refine c_skip_blank_no rm.one S.hs V₂ nb ?_
    intro s e
    have S := S.call e
    walk_at "stp"
    have e2 : σ₂.sign = sgn l1 := V₂.sign
    have H9 := S
    cases ho with
    | eos =>
      have e2 : σ₂.sign = -1 := e2
      walk_at "rds"
      with_reducible refine wpC_of (ol_token rm.one S ?_)
      intro x dx k1 k2 s S
      exact h _ _ _ _ _ _ _ _ _ S.ef rfl sm V₂
    | text hq =>
      have e2 : σ₂.sign = 34 := e2
      walk_at "rds"
      rw [e2]
      with_reducible refine c_read_string rm.one S.hs hlim V₂ hq ?_
      intro x dx k1 k2 s σ₃ bf t1 t2 e sm3 V₃
      have S := S.call e
      exact h _ _ _ _ _ _ _ _ _ S.ef ⟨_, rfl⟩ (sm.trans sm3) V₃
    | long h1 h2 h3 =>
      have e2 : σ₂.sign = 91 := e2
      walk_at "rds"
      with_reducible refine c_read_bracket_long rm.one S.hs hlim V₂ h1 h2 h3 ?_
      intro x dx k1 k2 s σ₃ bf t1 t2 e sm3 V₃
      have S := S.call e
      exact h _ _ _ _ _ _ _ _ _ S.ef ⟨_, rfl⟩ (sm.trans sm3) V₃
    | open_ h1 h2 =>
      have e2 : σ₂.sign = 91 := e2
      walk_at "rds"
      with_reducible refine c_read_bracket_open rm.one S.hs hlim V₂ h1 h2 ?_
      intro x dx k1 k2 s σ₃ bf t1 e sm3 V₃
      have S := S.call e
      exact h _ _ _ _ _ _ _ _ _ S.ef rfl (sm.trans sm3) V₃
    | dots3 =>
      have e2 : σ₂.sign = 46 := e2
      walk_at "rds"
      with_reducible refine c_read_dots rm.one S.hs hlim V₂ (.inl ⟨rfl, rfl⟩) ?_
      intro x dx k1 k2 s σ₃ bf t1 e sm3 V₃
      have S := S.call e
      exact h _ _ _ _ _ _ _ _ _ S.ef rfl (sm.trans sm3) V₃
    | dots2 h1 =>
      have e2 : σ₂.sign = 46 := e2
      walk_at "rds"
      with_reducible refine c_read_dots rm.one S.hs hlim V₂ (.inr (.inl ⟨rfl, h1, rfl⟩)) ?_
      intro x dx k1 k2 s σ₃ bf t1 e sm3 V₃
      have S := S.call e
      exact h _ _ _ _ _ _ _ _ _ S.ef rfl (sm.trans sm3) V₃
    | dot h1 h2 =>
      have e2 : σ₂.sign = 46 := e2
      walk_at "rds"
      with_reducible refine c_read_dots rm.one S.hs hlim V₂ (.inr (.inr ⟨rfl, h1, h2, rfl⟩)) ?_
      intro x dx k1 k2 s σ₃ bf t1 e sm3 V₃
      have S := S.call e
      exact h _ _ _ _ _ _ _ _ _ S.ef rfl (sm.trans sm3) V₃
    | @dec ds _ h1 h2 h3 h4 h5 =>
      cases ds with
      | nil => exact absurd rfl h1
      | cons d ds =>
        have e2 : σ₂.sign = d.toNat := e2
        have hd := h2 d (.head _)
        unfold isDec at hd
        walk_at "rds"
        have hp : Par ((d :: ds) ++ []) (decV 0 (d :: ds)) := by
          rw [List.append_nil, ← valB_dec (d :: ds) 0 h2]
          exact .dec h2 (by rw [show (0 : Int) = ((0 : Nat) : Int) from rfl, valB_dec (d :: ds) 0 h2]; exact h3)
        have f0 : ∀ c ∈ ([] : List UInt8), isNm c.toNat := fun _ hx => by cases hx
        have f5 : sgn ([] ++ rest) ≠ 46 := h5
        have f1 : ¬ isNm (sgn ([] ++ rest)) := h4
        unfold isNm at f1
        with_reducible refine c_read_numeral (ns := []) rm.one S.hs hlim V₂ h2 f0 h4 (by lia) f5 (by lia) (by lia) hp ?_
        intro x dx k1 k2 s σ₃ bf t1 t2 e sm3 V₃
        have S := S.call e
        exact h _ _ _ _ _ _ _ _ _ S.ef ⟨_, rfl⟩ (sm.trans sm3) V₃
    | @hex hs _ h1 h2 h3 h4 =>
      cases hs with
      | nil => exact absurd rfl h1
      | cons d ds =>
        have e2 : σ₂.sign = 48 := e2
        walk_at "rds"
        have hp : Par ([48] ++ (120 :: d :: ds)) (hexV 0 (d :: ds)) := by
          rw [← valB_hex (d :: ds) 0 h2]
          exact .hex h2 (by rw [show (0 : Int) = ((0 : Nat) : Int) from rfl, valB_hex (d :: ds) 0 h2]; exact h3)
        have V₂' : Vw σ₂ [] ([48] ++ ((120 :: d :: ds) ++ rest)) := V₂
        have i1 : ∀ c ∈ ([48] : List UInt8), isDec c := by intro c hc; simp at hc; subst hc; exact ⟨by decide, by decide⟩
        have i2 : ∀ c ∈ 120 :: d :: ds, isNm c.toNat := by
          intro c hc
          rcases List.mem_cons.mp hc with rfl | hc
          · exact .inr (.inl ⟨by decide, by decide⟩)
          · exact isHex_nm (h2 c hc)
        have i3 : sgn ((120 :: d :: ds) ++ rest) = 120 := rfl
        with_reducible refine c_read_numeral (ns := 120 :: d :: ds) rm.one S.hs hlim V₂' i1 i2 h4 (by rw [i3]; decide) (by rw [i3]; decide) (by rw [i3]; decide) (by rw [i3]; decide) hp ?_
        intro x dx k1 k2 s σ₃ bf t1 t2 e sm3 V₃
        have S := S.call e
        exact h _ _ _ _ _ _ _ _ _ S.ef ⟨_, rfl⟩ (sm.trans sm3) V₃
    | @name hs _ h1 h2 =>
      have e2 : σ₂.sign = 110 := e2
      walk_at "rds"
      have i2 : ∀ c ∈ 110 :: hs, isNm c.toNat := by
        intro c hc
        rcases List.mem_cons.mp hc with rfl | hc
        · exact .inr (.inl ⟨by decide, by decide⟩)
        · exact isHex_nm (h1 c hc)
      have i3 : 110 :: hs ∉ RESL := by
        intro hm
        simp only [RESL, List.mem_cons, List.not_mem_nil, or_false, List.cons.injEq] at hm
        have i4 : ∀ c ∈ hs, c.toNat ≤ 70 := fun c hc => by have := h1 c hc; unfold isHex isDec at this; lia
        rcases hm with ⟨q, _⟩ | ⟨q, _⟩ | ⟨q, _⟩ | ⟨q, _⟩ | ⟨q, _⟩ | ⟨q, _⟩ | ⟨q, _⟩ | ⟨q, _⟩ | ⟨q, _⟩ | ⟨q, _⟩ | ⟨q, _⟩ | ⟨q, _⟩ | ⟨_, q⟩ | ⟨_, q⟩ | ⟨q, _⟩ | ⟨q, _⟩ | ⟨q, _⟩ | ⟨q, _⟩ | ⟨q, _⟩ | ⟨q, _⟩ | ⟨q, _⟩
        all_goals first
          | exact absurd q (by decide)
          | (rw [q] at i4; exact absurd (i4 _ (.head _)) (by decide))
      with_reducible refine c_read_word (nm := 110 :: hs) rm.one S.hs hlim hkin V₂ i2 h2 (.inl ⟨i3, rfl, rfl⟩) ?_
      intro x dx k1 k2 s σ₃ bf t1 t2 e htv sm3 V₃
      have S := S.call e
      exact h _ _ _ _ _ _ _ _ _ S.ef htv (sm.trans sm3) V₃
    | nil h2 =>
      have e2 : σ₂.sign = 110 := e2
      walk_at "rds"
      with_reducible refine c_read_word (nm := [110, 105, 108]) rm.one S.hs hlim hkin V₂ (by unfold isNm; decide) h2 (.inr ⟨12, rfl, rfl, rfl⟩) ?_
      intro x dx k1 k2 s σ₃ bf t1 t2 e htv sm3 V₃
      have S := S.call e
      exact h _ _ _ _ _ _ _ _ _ S.ef htv (sm.trans sm3) V₃
    | «while» h2 =>
      have e2 : σ₂.sign = 119 := e2
      walk_at "rds"
      with_reducible refine c_read_word (nm := [119, 104, 105, 108, 101]) rm.one S.hs hlim hkin V₂ (by unfold isNm; decide) h2 (.inr ⟨20, rfl, rfl, rfl⟩) ?_
      intro x dx k1 k2 s σ₃ bf t1 t2 e htv sm3 V₃
      have S := S.call e
      exact h _ _ _ _ _ _ _ _ _ S.ef htv (sm.trans sm3) V₃
    | minus h1 =>
      have e2 : σ₂.sign = 45 := e2
      walk_at "rds"
      with_reducible refine wpC_of (e_move rm.one S.hs V₂ (by simp) ?_)
      intro s σ₃ e sm3 _ V₃
      have S := S.call e
      refine ⟨rfl, ?_⟩
      walk_at "stp"
      with_reducible refine wpC_of (ol_token rm.one S ?_)
      intro x dx k1 k2 s S
      exact h _ _ _ _ _ _ _ _ _ S.ef rfl (sm.trans sm3) V₃
    | @cmp c l h1 h2 =>
      have e2 : σ₂.sign = c.toNat := e2
      have hc : (c.toNat : Int) = 61 ∨ (c.toNat : Int) = 60 ∨ (c.toNat : Int) = 62 := by rcases h1 with rfl | rfl | rfl <;> decide
      walk_at "rds"
      rw [e2]
      with_reducible refine wpC_of (c_read_compared rm.one S.hs V₂ (.inl ⟨h2, rfl, rfl⟩) ?_)
      intro x dx k1 k2 s σ₃ t1 e sm3 V₃
      have S := S.call e
      exact h _ _ _ _ _ _ _ _ _ S.ef rfl (sm.trans sm3) V₃
    | eq =>
      have e2 : σ₂.sign = (61 : UInt8).toNat := e2
      have e3 : ((61 : UInt8).toNat : Int) = 61 := rfl
      walk_at "rds"
      rw [e2]
      with_reducible refine wpC_of (c_read_compared rm.one S.hs V₂ (.inr ⟨_, rfl, rfl, .inl ⟨rfl, rfl⟩⟩) ?_)
      intro x dx k1 k2 s σ₃ t1 e sm3 V₃
      have S := S.call e
      exact h _ _ _ _ _ _ _ _ _ S.ef rfl (sm.trans sm3) V₃
    | ge =>
      have e2 : σ₂.sign = (62 : UInt8).toNat := e2
      have e3 : ((62 : UInt8).toNat : Int) = 62 := rfl
      walk_at "rds"
      rw [e2]
      with_reducible refine wpC_of (c_read_compared rm.one S.hs V₂ (.inr ⟨_, rfl, rfl, .inr (.inr (.inl ⟨rfl, rfl⟩))⟩) ?_)
      intro x dx k1 k2 s σ₃ t1 e sm3 V₃
      have S := S.call e
      exact h _ _ _ _ _ _ _ _ _ S.ef rfl (sm.trans sm3) V₃
    | le =>
      have e2 : σ₂.sign = (60 : UInt8).toNat := e2
      have e3 : ((60 : UInt8).toNat : Int) = 60 := rfl
      walk_at "rds"
      rw [e2]
      with_reducible refine wpC_of (c_read_compared rm.one S.hs V₂ (.inr ⟨_, rfl, rfl, .inr (.inl ⟨rfl, rfl⟩)⟩) ?_)
      intro x dx k1 k2 s σ₃ t1 e sm3 V₃
      have S := S.call e
      exact h _ _ _ _ _ _ _ _ _ S.ef rfl (sm.trans sm3) V₃
    | ne =>
      have e2 : σ₂.sign = (126 : UInt8).toNat := e2
      have e3 : ((126 : UInt8).toNat : Int) = 126 := rfl
      walk_at "rds"
      rw [e2]
      with_reducible refine wpC_of (c_read_compared rm.one S.hs V₂ (.inr ⟨_, rfl, rfl, .inr (.inr (.inr ⟨rfl, rfl⟩))⟩) ?_)
      intro x dx k1 k2 s σ₃ t1 e sm3 V₃
      have S := S.call e
      exact h _ _ _ _ _ _ _ _ _ S.ef rfl (sm.trans sm3) V₃
    | @other c l h1 =>
      have e2 : σ₂.sign = c.toNat := e2
      have hc : (c.toNat : Int) = 93 ∨ (c.toNat : Int) = 123 ∨ (c.toNat : Int) = 125 ∨ (c.toNat : Int) = 40 ∨ (c.toNat : Int) = 43 ∨ (c.toNat : Int) = 59 := by rcases h1 with rfl | rfl | rfl | rfl | rfl | rfl <;> decide
      walk_at "rds"
      with_reducible refine wpC_of (e_move rm.one S.hs V₂ (by simp) ?_)
      intro s σ₃ e sm3 _ V₃
      have S := S.call e
      refine ⟨rfl, ?_⟩
      walk_at "stp"
      rw [e2] at S ⊢
      with_reducible refine wpC_of (ol_token rm.one S ?_)
      intro x dx k1 k2 s S
      exact h _ _ _ _ _ _ _ _ _ S.ef rfl (sm.trans sm3) V₃
end
section
open PySem.Builtin
section
variable {prog : Program} {w : World} {A : Around} {K : Frag} {C : Addr} {R : Result → Shared → Prop} {h : Heap} {g : Array GenState} {d : Drawn} {t : Nat} {os : OsState}
set_option maxHeartbeats 4000000 in
theorem make_coreC {rest : List Value} {kw : List (Str × Value)} {init : Value} (Y : Makes (model prog w) h C) (hi : Looks (model prog w) h (typeLookup (.ref C) "__init__") (some init))
    (hb : ∀ self, Looks (model prog w) h (bindSpecial init self) (init, [self])) (hne : (some init != some (Value.builtin "object.__init__")) = true ∨ (rest = [] ∧ kw = []))
    (hq : codeC (model prog w) (A.under (.builtin "type.__call__" ⟨.ref C :: rest, kw⟩)) (.call init ⟨.ref (h.objs.size + 1) :: rest, kw⟩) (InitBack (h.objs.size + 1) R) ⟨(h.push emptyDict).push (instObj C h.objs.size), g, d, t, os⟩) :
    codeC (model prog w) A (.call (.ref C) ⟨rest, kw⟩) R ⟨h, g, d, t, os⟩ := by
  have Y' := Y
  obtain ⟨⟨oc, od, cd, sl, hC, e1, e2, e4⟩, made, base, self, top, call, typ⟩ := Y
  refine codeC_of_tree ?_
  show wpC _ _ (callAny (.ref C) _) _ _ _
  refine wpC_of ?_
  refine nd_load hC ?_
  show wpAny _ _ (callAny.viaDunder (.ref C) _) _ _ _
  unfold callAny.viaDunder
  refine wpAny_bind (call.at ?_)
  dsimp only
  rw [tc_bind]
  refine wpAny_bind (wpAny_pure (wpAny_bind (wpAny_pure ?_)))
  refine wpAny_pure (a := Fin.again (.call (.builtin "type.__call__") ⟨.ref C :: rest, kw⟩)) (And.intro rfl (And.intro rfl ?_))
  refine codeC_of_tree ?_
  show wpC _ _ (do checkBuiltinCall "type.__call__" ⟨.ref C :: rest, kw⟩; again (.builtin "type.__call__" ⟨.ref C :: rest, kw⟩)) _ _ _
  refine wpC_bind (wpC_of (check_slot tc_kind tc_split typ (tc_args _ _ _) (wpC_pure ⟨Code.quiet_builtin _ (by decide +kernel), show holdIds.contains "type.__call__" = false by decide +kernel, codeC_builtin entry_typeCall ?_⟩)))
  unfold Builtin.«type.__call__»
  have hm : Looks (model prog w) h (mroOf (.ref C)) cd.mro := ((Looks.ld (part := none) hC).andThen .now).andThen .now
  refine wpC_bind (m := mroOf (.ref C)) (wpC_of (hm.here ?_))
  rw [if_neg (by rw [e4]; decide)]
  refine wpC_bind (m := Bind.madeBy (.ref C)) (wpC_of (made.here ?_))
  refine wpC_bind (m := pure (Value.builtin "object.__new__")) (wpC_pure ?_)
  refine wpC_bind (wpC_holding (wpC_of (wpAny_call (new_K Y' hi hne ?_))))
  have k : ∀ b o, h.get? b = some o → ((h.push emptyDict).push (instObj C h.objs.size)).get? b = some o := fun b o e => Heap.get?_push_of_some _ (Heap.get?_push_of_some _ e)
  have hx : ((h.push emptyDict).push (instObj C h.objs.size)).get? (h.objs.size + 1) = some (instObj C h.objs.size) := by heap_get
  have t1 : Looks (model prog w) ((h.push emptyDict).push (instObj C h.objs.size)) (typeOf (.ref (h.objs.size + 1))) (.ref C) := (Looks.ld hx).andThen .now
  have s1 := self.keeps k
  have i1 := hi.keeps k
  have ti : Looks (model prog w) ((h.push emptyDict).push (instObj C h.objs.size)) (isInstance (.ref (h.objs.size + 1)) (.ref C)) true := t1.andThen s1
  have tsp : Looks (model prog w) ((h.push emptyDict).push (instObj C h.objs.size)) (specialOf (.ref (h.objs.size + 1)) "__init__") (some init) := t1.andThen i1
  have b1 := (hb (.ref (h.objs.size + 1))).keeps k
  refine wpC_bind (m := isInstance (.ref (h.objs.size + 1)) (.ref C)) (wpC_of (ti.here ?_))
  refine wpC_bind (m := holding [.ref (h.objs.size + 1)] (callSpecial? (.ref (h.objs.size + 1)) "__init__" rest kw)) (wpC_holding ?_)
  unfold callSpecial?
  refine wpC_bind (wpC_of (tsp.here ?_))
  dsimp only
  refine wpC_holding (wpC_bind (wpC_of (b1.here ?_)))
  dsimp only
  refine wpC_bind (wpC_call (codeC_mono hq fun r s' z => ?_))
  rcases r with e | (v | _ | _ | _) <;> first | exact z | exact z.elim | skip
  obtain ⟨rfl, z⟩ := z
  refine wpC_pure ?_
  dsimp only
  rw [if_neg (by decide)]
  exact wpC_pure z
end
section
variable {w : World} {g : Heap} {L : Addr} {m : Str → Option Value} {R R' : Led} {r s : Shared} {A : Around} {E : Value → Shared → Prop} {Q : Value → Shared → Prop} {C fI : Addr} {pos : List Value} {k : Nat}
/-- an object is made, on a clean stack -/
theorem y_make (rm : Rm A (k + 1)) (S : St w g L m R r s) (hm : makesIn (LX.hdC.heap_1 w.params) C = true) (hi : findIn (LX.hdC.heap_1 w.params) (.ref C) "__init__" = some (some (.ref fI))) (hf : isFn (LX.hdC.heap_1 w.params) (.ref fI) = true)
    (h : ∀ x dx s' A', St w g L m ((x, instObj C dx) :: (dx, dictOf [] 0) :: R) r s' → Rm A' k →
      codeC (model pw w) A' (.call (.ref fI) ⟨.ref x :: pos, []⟩) (InitBack x fun r s' => match r with | .ok (.ret v) => Q v s' | .ok _ => False | .error e => E e s') s') :
    wpC (model pw w) A (call (.ref C) pos) Q E s := by
  refine wpC_call ?_
  have S1 := S.more (k := s.toks) (o := emptyDict) (S.F.push _) (S.N.push S.F _)
  have S2 := S1.more (k := s.toks) (o := instObj C s.heap.objs.size) (S1.F.push _) (S1.N.push S1.F _)
  have S3 := S2.perm (R' := (s.heap.objs.size + 1, instObj C s.heap.objs.size) :: (s.heap.objs.size, dictOf [] 0) :: R) (by rw [show (s.heap.push emptyDict).objs.size = s.heap.objs.size + 1 from Heap.size_push ..])
  obtain ⟨hh, gg, d, t, os⟩ := s
  exact make_coreC (makes_of S.Xs hm) (looks_findIn S.Xs hi) (fun self => bind_fn S.Xs self (beq_iff_eq.mp hf)) (.inl rfl) (h _ _ _ _ S3 rm.under)
end

end
local macro_rules | `(tactic| walk_at "sto") => ways "o_slice_by S hl hu hz hs ht _ ; S a hl c hu c hz z hs u ht t ; i3"
/-- a dict of written keys -/
noncomputable abbrev Ent := Str × Tok × Value
noncomputable def mkEs (P : Params) (l : List Ent) : List DictEntry := l.map fun p => en P p.1 p.2.1 p.2.2
theorem isStr_en {P : Params} {x y : Str} {t : Tok} {v : Value} : (en P x t v).key.isStr y = (x == y) := rfl
theorem mk_any {P : Params} {nm : Str} {l : List Ent} (h : (l.map (·.1)).contains nm = false) : (mkEs P l).any (fun e => e.key.isStr nm) = false := by
  rw [List.any_eq_false]
  intro e he
  obtain ⟨p, hp, rfl⟩ := List.mem_map.mp he
  rw [isStr_en]
  intro q
  have e1 : p.1 = nm := by simpa using q
  have : (l.map (·.1)).contains nm = true := by simp only [List.contains_eq_mem, decide_eq_true_eq]; exact List.mem_map.mpr ⟨p, hp, e1⟩
  rw [h] at this; cases this
theorem mk_ref {P : Params} {l : List Ent} : (mkEs P l).any (fun e => e.refKey) = false := by
  rw [List.any_eq_false]
  intro e he
  obtain ⟨p, hp, rfl⟩ := List.mem_map.mp he
  exact Bool.false_ne_true
theorem mk_get {P : Params} {nm : Str} {l : List Ent} (h : (l.map (·.1)).contains nm = false) : (getL nm (mkEs P l)).isSome = true := by
  unfold getL
  cases hf : (mkEs P l).find? (fun e => e.key.isStr nm) with
  | some e => rfl
  | none => dsimp only; rw [mk_ref]; rfl
theorem putL_new {nm : Str} {hs : Int} {key v : Value} : ∀ {es : List DictEntry}, es.any (fun e => e.key.isStr nm) = false → putL nm hs key v es = es ++ [⟨hs, key, v⟩]
  | [], _ => rfl
  | e :: r, h => by
    rw [List.any_cons, Bool.or_eq_false_iff] at h
    unfold putL
    rw [if_neg (by rw [h.1]; decide), putL_new h.2]; rfl
theorem mk_put {P : Params} {nm : Str} {v : Value} {l : List Ent} {n : Nat} (h : (l.map (·.1)).contains nm = false) (hn : l.length = n) (t : Tok) :
    (putL nm (PyData.keyHash P nm) (.str nm t) v (mkEs P l), putN nm (mkEs P l) n) = (mkEs P (l ++ [(nm, t, v)]), n + 1) := by
  rw [putL_new (mk_any h)]
  unfold putN
  rw [mk_any h, if_neg (by decide)]
  simp [mkEs, en]
section
variable {w : World} {g : Heap} {L : Addr} {m : Str → Option Value} {R R' : Led} {r s s0 : Shared} {A : Around} {E : Value → Shared → Prop} {Q : Value → Shared → Prop} {k : Nat} {a x dx : Addr} {t t1 t2 : Tok} {W : Result → Shared → Prop}
theorem c_c_text (rm : Rm A (k + 1)) (H : Hs w R s0) (h : ∀ s' t, Ef R s0 R s' → Q (.bytes #[61, 113] t) s') : wpAny (model pw w) A (call (.ref 166) [.bytes #[61, 113] t1]) Q E s0 := by
  refine' enter (binds := [("text", .bytes #[61, 113] t1)]) (lb := [("text", .bytes #[61, 113] t1)]) rm H ?ho ?hcd ?hb ?hl ?hc ?h1 ?h2 ?h3 ?hr ?_
  walk_at "fn"
  intro L s E A S rm
  walk_at "sts"
  with_reducible refine x_while (fun n s => E4 fun (j : Nat) (v : Int) (ls : List (Str × Value)) (t : Tok) => A6 (n = 2 - j) (j ≤ 2) (v = j) (St w (hideAll s0.heap (R.map (·.1))) L (Lm ls) R s0 s) (Lm ls "text" = some (.bytes #[61, 113] t1)) (Lm ls "at" = some (.int v t))) 2 ?_ ?_
  · exact ⟨0, 0, _, _, rfl, by lia, rfl, S, by walk_at "lm", by walk_at "lm"⟩
  clear S
  intro n s E' N hN hI
  obtain ⟨j, v, ls, t, rfl, hj, rfl, S, m1, m2⟩ := hI
  walk_at "stp"
  with_reducible refine c_len (b := [61, 113]) S (by decide) ?_
  intro s S t9
  walk_at "stp"
  refine ite_d (fun hc => ?_) (fun hc => ?_)
  · have hj2 : j < 2 := by simp at hc; lia
    walk_at "stp"
    with_reducible refine o_item (b := [61, 113]) (c := j) S (by decide) (by lia) hc ?_ rfl (fun _ => rfl)
    intro s S t5
    walk_at "stp"
    have hne : ((([61, 113] : List UInt8).getD ((j : Int)).toNat 0).toNat : Int) ≠ 0 := by
      rcases j with _ | _ | j
      · decide
      · decide
      · lia
    refine ite_dy hne ?_
    walk_at "stp"
    exact hN ⟨2 - (j + 1), by lia, j + 1, j + 1, _, _, rfl, by lia, by lia, S, by walk_at "lm", by walk_at "lm"⟩
  · have hj2 : j = 2 := by simp at hc; lia
    subst hj2
    walk_at "stp"
    have e : cut [61, 113] none (some ((2 : Nat) : Int)) = [61, 113] := by decide +kernel
    rw [e]
    exact h _ _ S.ef
theorem c_chunk_id (rm : Rm A (k + 2)) (H : Hs w R s0) (h : ∀ s' t, Ef R s0 R s' → Q (.bytes #[113] t) s') : wpAny (model pw w) A (call (.ref 180) [.bytes #[61, 113] t1, .int 80 t2]) Q E s0 := by
  refine' enter (binds := [("source", .bytes #[61, 113] t1), ("size", .int 80 t2)]) (lb := [("size", .int 80 t2), ("source", .bytes #[61, 113] t1)]) rm H ?ho ?hcd ?hb ?hl ?hc ?h1 ?h2 ?h3 ?hr ?_
  walk_at "fn"
  intro L s E A S rm
  walk_at "stp"
  with_reducible refine c_c_text rm.one S.hs fun s t e => ?_
  have S := S.call e
  walk_at "stp"
  rw [show cut [61, 113] none (some 1) = [61] by decide +kernel]
  refine ite_by rfl ?_
  walk_at "stp"
  rw [show cut [61, 113] (some 1) (some 80) = [113] by decide +kernel]
  exact h _ _ S.ef


/-- a new attribute of an object that is being made -/
theorem add_attr {C : Addr} {l : List Ent} {n : Nat} {nm : Str} {v : Value} {Q : Unit → Shared → Prop} (S : St w g L m ((x, instObj C dx) :: (dx, dictOf (mkEs w.params l) n) :: R) r s) (hl : (l.map (·.1)).contains nm = false) (hn : l.length = n) (hz : n ≤ 100)
    (hs : findIn (LX.hdC.heap_1 w.params) (.ref C) "__setattr__" = some (some (.builtin "object.__setattr__"))) (hp : plainOver (LX.hdC.heap_1 w.params) C = true) (ht : takerIn (LX.hdC.heap_1 w.params) C nm = some none) (hh : hasDictIn (LX.hdC.heap_1 w.params) C = true)
    (h : ∀ s' t, St w g L m ((x, instObj C dx) :: (dx, dictOf (mkEs w.params (l ++ [(nm, t, v)])) (n + 1)) :: R) r s' → Q () s') : wpAny (model pw w) A (setAttr (.ref x) nm v) Q E s :=
  head_set (es' := fun t => mkEs w.params (l ++ [(nm, t, v)])) S hs hp ht hh (mk_get hl) (mk_put hl hn) (fun t => by simp [mkEs]; lia) h
theorem lim_cls : makesIn (LX.hdC.heap_1 w.params) 53 = true ∧ findIn (LX.hdC.heap_1 w.params) (.ref 53) "__init__" = some (some (.ref 36)) ∧ isFn (LX.hdC.heap_1 w.params) (.ref 36) = true ∧
  findIn (LX.hdC.heap_1 w.params) (.ref 53) "__setattr__" = some (some (.builtin "object.__setattr__")) ∧ plainOver (LX.hdC.heap_1 w.params) 53 = true ∧ hasDictIn (LX.hdC.heap_1 w.params) 53 = true := by and_intros <;> kernel_rfl!
theorem lim_takers : ((["width", "registers", "upvalues", "local_names", "ccalls", "frames", "stack", "flush", "steps", "text"] : List Str).all fun nm => takerIn (LX.hdC.heap_1 w.params) 53 nm == some none) = true := by kernel_rfl!
theorem lim_taker {nm : Str} (h : nm ∈ (["width", "registers", "upvalues", "local_names", "ccalls", "frames", "stack", "flush", "steps", "text"] : List Str)) : takerIn (LX.hdC.heap_1 w.params) 53 nm = some none := beq_iff_eq.mp (List.all_eq_true.mp lim_takers _ h)
theorem init_limits (rm : Rm A (k + 1)) (H : Hs w ((x, instObj 53 dx) :: (dx, dictOf (mkEs w.params []) 0) :: R) s)
    (h : ∀ kt s', Ef ((x, instObj 53 dx) :: (dx, dictOf (mkEs w.params []) 0) :: R) s ((x, instObj 53 dx) :: (dx, dictOf (limEs w.params kt) 10) :: R) s' → W (.ok (.ret .none)) s') :
    codeAny (model pw w) A (.call (.ref 36) ⟨[.ref x], []⟩) W s := by
  refine' enterCode (binds := [("self", .ref x), ("width", .int 64 210), ("registers", .int 250 211), ("upvalues", .int 60 212), ("local_names", .int 200 213), ("ccalls", .int 40 214), ("frames", .int 200 215), ("stack", .int 2000 216), ("flush", .int 50 217), ("steps", .int 1000000000 218), ("text", .int 1000000 219)])
    (lb := [("text", .int 1000000 219), ("steps", .int 1000000000 218), ("flush", .int 50 217), ("stack", .int 2000 216), ("frames", .int 200 215), ("ccalls", .int 40 214), ("local_names", .int 200 213), ("upvalues", .int 60 212), ("registers", .int 250 211), ("width", .int 64 210), ("self", .ref x)]) rm H ?ho ?hcd ?hb ?hl ?hc ?h1 ?h2 ?h3 ?hr ?_
  (case ho => k_is); (case hcd => k_is); (case hl => exact locs rfl); (case hc => decide); (case h1 => exact rfl); (case h2 => exact rfl); (case h3 => exact rfl); (case hr => exact rfl)
  case hb => exact binds_K (H.base.X.keeps fun a o e => of_hideAll _ e) rfl (by k_is) rfl rfl rfl
  intro L s E A S rm
  obtain ⟨f1, f2, f3, f4, f5, f6⟩ := lim_cls (w := w)
  walk_at "sts"
  with_reducible refine add_attr S (by kernel_rfl!) rfl (by decide) f4 f5 (lim_taker (List.mem_cons_self)) f6 ?_
  intro s k0 S
  walk_at "sts"
  with_reducible refine add_attr S (by kernel_rfl!) rfl (by decide) f4 f5 (lim_taker (List.mem_cons_of_mem _ (List.mem_cons_self))) f6 ?_
  intro s k1 S
  walk_at "sts"
  with_reducible refine add_attr S (by kernel_rfl!) rfl (by decide) f4 f5 (lim_taker (List.mem_cons_of_mem _ (List.mem_cons_of_mem _ (List.mem_cons_self)))) f6 ?_
  intro s k2 S
  walk_at "sts"
  with_reducible refine add_attr S (by kernel_rfl!) rfl (by decide) f4 f5 (lim_taker (List.mem_cons_of_mem _ (List.mem_cons_of_mem _ (List.mem_cons_of_mem _ (List.mem_cons_self))))) f6 ?_
  intro s k3 S
  walk_at "sts"
  with_reducible refine add_attr S (by kernel_rfl!) rfl (by decide) f4 f5 (lim_taker (List.mem_cons_of_mem _ (List.mem_cons_of_mem _ (List.mem_cons_of_mem _ (List.mem_cons_of_mem _ (List.mem_cons_self)))))) f6 ?_
  intro s k4 S
  walk_at "sts"
  with_reducible refine add_attr S (by kernel_rfl!) rfl (by decide) f4 f5 (lim_taker (List.mem_cons_of_mem _ (List.mem_cons_of_mem _ (List.mem_cons_of_mem _ (List.mem_cons_of_mem _ (List.mem_cons_of_mem _ (List.mem_cons_self))))))) f6 ?_
  intro s k5 S
  walk_at "sts"
  with_reducible refine add_attr S (by kernel_rfl!) rfl (by decide) f4 f5 (lim_taker (List.mem_cons_of_mem _ (List.mem_cons_of_mem _ (List.mem_cons_of_mem _ (List.mem_cons_of_mem _ (List.mem_cons_of_mem _ (List.mem_cons_of_mem _ (List.mem_cons_self)))))))) f6 ?_
  intro s k6 S
  walk_at "sts"
  with_reducible refine add_attr S (by kernel_rfl!) rfl (by decide) f4 f5 (lim_taker (List.mem_cons_of_mem _ (List.mem_cons_of_mem _ (List.mem_cons_of_mem _ (List.mem_cons_of_mem _ (List.mem_cons_of_mem _ (List.mem_cons_of_mem _ (List.mem_cons_of_mem _ (List.mem_cons_self))))))))) f6 ?_
  intro s k7 S
  walk_at "sts"
  with_reducible refine add_attr S (by kernel_rfl!) rfl (by decide) f4 f5 (lim_taker (List.mem_cons_of_mem _ (List.mem_cons_of_mem _ (List.mem_cons_of_mem _ (List.mem_cons_of_mem _ (List.mem_cons_of_mem _ (List.mem_cons_of_mem _ (List.mem_cons_of_mem _ (List.mem_cons_of_mem _ (List.mem_cons_self)))))))))) f6 ?_
  intro s k8 S
  walk_at "sts"
  with_reducible refine add_attr S (by kernel_rfl!) rfl (by decide) f4 f5 (lim_taker (List.mem_cons_of_mem _ (List.mem_cons_of_mem _ (List.mem_cons_of_mem _ (List.mem_cons_of_mem _ (List.mem_cons_of_mem _ (List.mem_cons_of_mem _ (List.mem_cons_of_mem _ (List.mem_cons_of_mem _ (List.mem_cons_of_mem _ (List.mem_cons_self))))))))))) f6 ?_
  intro s k9 S
  walk_at "stp"
  exact h (fun n => [k0, k1, k2, k3, k4, k5, k6, k7, k8, k9].getD n 0) _ S.ef
theorem o_limits (rm : Rm A (k + 2)) (S : St w g L m R r s) (h : ∀ x dx kt s', St w g L m ((x, instObj 53 dx) :: (dx, dictOf (limEs w.params kt) 10) :: R) r s' → Q (.ref x) s') : wpAny (model pw w) A (call (.ref 53) []) Q E s := by
  obtain ⟨f1, f2, f3, f4, f5, f6⟩ := lim_cls (w := w)
  refine o_make rm S f1 f2 f3 fun x dx s' A' S' rm' => ?_
  exact init_limits rm' S'.hs fun kt s' e => ⟨rfl, h _ _ _ _ (S'.call e)⟩
end
section
variable {w : World} {A : Around} {R : Led} {s : Shared} {Q E : Value → Shared → Prop} {k : Nat}
  {name qual : Str} {params : Arguments} {body : List Stmt} {scope : Scope} {dV kV doc pm cdv ct oc : Value} {an od : Option Addr} {osl : Array (Option Value)} {f : Addr} {args : List Value} {binds lb : List (Str × Value)} {W : Result → Shared → Prop}
theorem enterCodeC (rm : Rm A (k + 1)) (H : Hs w R s)
    (ho : (LX.hdC.heap_1 w.params).lookup f = some ⟨oc, od, .func (fnOf name qual params body scope dV kV doc pm an cdv ct), osl⟩)
    (hcd : codeIn (LX.hdC.heap_1 w.params) cdv qual = true)
    (hbind : BindsTo s (fnOf name qual params body scope dV kV doc pm an cdv ct) ⟨args, []⟩ binds) (hloc : ∀ y ∈ binds, scope.names.lookup y.1 = some .local)
    (hcell : ∀ x ∈ scope.names, x.2 ≠ .cell) (hco : scope.isCoroutine = false) (hgen : scope.isGenerator = false) (hk : scope.kind = .function)
    (hlb : binds.reverse = lb)
    (h : ∀ L s1 E' A', St w (hideAll s.heap (R.map (·.1))) L (Lm lb) R s s1 → Rm A' k →
      wpC (model PySem.Challenge.pw_nt0646_01 w) A' (execs body (envOf qual scope L f cdv)) (RetQ (fun v s' => W (.ok (.ret v)) s')) E' s1) :
    codeC (model PySem.Challenge.pw_nt0646_01 w) A (.call (.ref f) ⟨args, []⟩) W s := by
  obtain ⟨p, loose, mg, mb, T⟩ := H.base.T
  have hs : ∀ a o, (hideAll s.heap (R.map (·.1))).get? a = some o → s.heap.get? a = some o := fun a o e => of_hideAll _ e
  refine codeC_call_def (fd := fnOf name qual params body scope dV kV doc pm an cdv ct) (body := body) (binds := binds) (by have := rm.d; lia) ((H.base.X.keeps hs) _ _ ho) rfl (T.nolimit.keeps hs) hco hgen rfl (codeRec_of (H.base.X.keeps hs) hcd) hbind hcell hloc hk (fun h₁ hns hk₁ => ?_)
  subst hlb
  refine wpC_mono (h s.heap.objs.size { s with heap := h₁, toks := s.toks + binds.length } _ _ ⟨H.base, ⟨hns, fun b o e => hk₁ b o (hs b o e), Nat.le_of_eq (hideAll_size _ _)⟩, fun q hq => ⟨hk₁ _ _ (H.led q hq), Nat.ne_of_lt (Heap.lt_size (H.led q hq)), hideAll_none _ (List.mem_map_of_mem hq)⟩, H.nd, rfl, rfl, rfl⟩ rm.deeper)
    (fun fl s' hl => hl) (fun _ _ x => x)
end
section
variable {w : World} {g : Heap} {L : Addr} {m : Str → Option Value} {R R' : Led} {r s s0 s00 : Shared} {A : Around} {E : Value → Shared → Prop} {Q : Value → Shared → Prop} {k : Nat} {a x dx lim : Addr} {t t1 t2 tt tc : Tok} {W : Result → Shared → Prop} {text : List UInt8}
theorem lex_cls : makesIn (LX.hdC.heap_1 w.params) 465 = true ∧ findIn (LX.hdC.heap_1 w.params) (.ref 465) "__init__" = some (some (.ref 280)) ∧ isFn (LX.hdC.heap_1 w.params) (.ref 280) = true := by and_intros <;> kernel_rfl!
theorem lex_takers : ((["text", "source", "chunk", "limits", "kinds", "at", "sign", "line", "last_line", "buffer", "current", "ahead"] : List Str).all fun nm => takerIn (LX.hdC.heap_1 w.params) 465 nm == some none) = true := by kernel_rfl!
theorem lex_taker {nm : Str} (h : nm ∈ (["text", "source", "chunk", "limits", "kinds", "at", "sign", "line", "last_line", "buffer", "current", "ahead"] : List Str)) : takerIn (LX.hdC.heap_1 w.params) 465 nm = some none := beq_iff_eq.mp (List.all_eq_true.mp lex_takers _ h)
theorem perm3 {α : Type} {p x y : α} {R : List α} : (p :: x :: y :: R).Perm (x :: y :: p :: R) := (List.Perm.swap _ _ _).trans (.cons _ (.swap _ _ _))
theorem perm4 {α : Type} {p q x y : α} {R : List α} : (p :: q :: x :: y :: R).Perm (x :: y :: p :: q :: R) := (List.Perm.cons _ perm3).trans perm3
set_option maxHeartbeats 2000000 in
theorem init_lexer (rm : Rm A (k + 8)) (H : Hs w ((x, instObj 465 dx) :: (dx, dictOf (mkEs w.params []) 0) :: R) s00) (hz : text.length ≤ 800000)
    (h : ∀ n σ d o kvs s', Ef ((x, instObj 465 dx) :: (dx, dictOf (mkEs w.params []) 0) :: R) s00 (lexL w.params ⟨x, dx, n⟩ σ [] ((d, o) :: R)) s' → σ.kinds = d → σ.limits = lim → σ.chunk = [113] → (d == sysModules) = false → o.IsDictOf (byKind pw w) kvs → KvTo 21 kvs → Vw σ [] text → W (.ok (.ret .none)) s') :
    codeC (model pw w) A (.call (.ref 280) ⟨[.ref x, .bytes text.toArray tt, .bytes #[61, 113] tc, .ref lim], []⟩) W s00 := by
  refine' enterCodeC (binds := [("self", .ref x), ("text", .bytes text.toArray tt), ("chunk", .bytes #[61, 113] tc), ("limits", .ref lim)])
    (lb := [("limits", .ref lim), ("chunk", .bytes #[61, 113] tc), ("text", .bytes text.toArray tt), ("self", .ref x)]) rm H ?ho ?hcd ?hb ?hl ?hc ?h1 ?h2 ?h3 ?hr ?_
  walk_at "fn"
  intro L s E A S rm
  obtain ⟨f1, f2, f3⟩ := lex_cls (w := w)
  walk_at "sts"
  with_reducible refine add_attr S (by kernel_rfl!) rfl (by decide) cl_setattr cl_plainOver (lex_taker (List.mem_cons_self)) cl_hasDict ?_
  intro s k0 S
  walk_at "sts"
  with_reducible refine add_attr S (by kernel_rfl!) rfl (by decide) cl_setattr cl_plainOver (lex_taker (List.mem_cons_of_mem _ (List.mem_cons_self))) cl_hasDict ?_
  intro s k1 S
  walk_at "sts"
  with_reducible refine wpC_of (c_chunk_id rm.one S.hs fun s t e => ?_)
  have S := S.call e
  walk_at "stp"
  with_reducible refine add_attr S (by kernel_rfl!) rfl (by decide) cl_setattr cl_plainOver (lex_taker (List.mem_cons_of_mem _ (List.mem_cons_of_mem _ (List.mem_cons_self)))) cl_hasDict ?_
  intro s k2 S
  walk_at "sts"
  with_reducible refine add_attr S (by kernel_rfl!) rfl (by decide) cl_setattr cl_plainOver (lex_taker (List.mem_cons_of_mem _ (List.mem_cons_of_mem _ (List.mem_cons_of_mem _ (List.mem_cons_self))))) cl_hasDict ?_
  intro s k3 S
  walk_at "sts"
  with_reducible refine wpC_of (c_reserved_kinds rm.one S.hs fun s d o kvs e hd ho hkv => ?_)
  have S := (S.call e).perm perm3
  walk_at "stp"
  with_reducible refine add_attr S (by kernel_rfl!) rfl (by decide) cl_setattr cl_plainOver (lex_taker (List.mem_cons_of_mem _ (List.mem_cons_of_mem _ (List.mem_cons_of_mem _ (List.mem_cons_of_mem _ (List.mem_cons_self)))))) cl_hasDict ?_
  intro s k4 S
  walk_at "sts"
  with_reducible refine add_attr S (by kernel_rfl!) rfl (by decide) cl_setattr cl_plainOver (lex_taker (List.mem_cons_of_mem _ (List.mem_cons_of_mem _ (List.mem_cons_of_mem _ (List.mem_cons_of_mem _ (List.mem_cons_of_mem _ (List.mem_cons_self))))))) cl_hasDict ?_
  intro s k5 S
  walk_at "stb"
  with_reducible refine y_join (fun s => E4 fun t4 t5 t6 t7 => St w (hideAll s00.heap (((x, instObj 465 dx) :: (dx, dictOf (mkEs w.params []) 0) :: R).map (·.1))) L (Lm [("limits", .ref lim), ("chunk", .bytes #[61, 113] tc), ("text", .bytes text.toArray tt), ("self", .ref x)]) ((x, instObj 465 dx) :: (dx, dictOf (mkEs w.params [("text", k0, .bytes text.toArray tt), ("source", k1, .bytes #[61, 113] tc), ("chunk", k2, .bytes #[113] t4), ("limits", k3, .ref lim), ("kinds", k4, .ref d), ("at", k5, .int 0 t5), ("sign", t6, .int (sgn text) t7)]) 7) :: (d, o) :: R) s00 s) ?_ ?_
  · intro N hN
    walk_at "stp"
    with_reducible refine c_len (b := text) S (by lia) ?_
    intro s S t6
    walk_at "stp"
    refine ite_d (fun hc => ?_) (fun hc => ?_)
    · walk_at "stp"
      with_reducible refine o_item (b := text) (c := 0) S (by lia) (by lia) (by lia) ?_ rfl (fun _ => rfl)
      intro s S t
      have e3 : ((text.getD (0 : Int).toNat 0).toNat : Int) = sgn text := by cases text with | nil => simp at hc | cons c l => rfl
      rw [e3]
      walk_at "stp"
      with_reducible refine add_attr S (by kernel_rfl!) rfl (by decide) cl_setattr cl_plainOver (lex_taker (List.mem_cons_of_mem _ (List.mem_cons_of_mem _ (List.mem_cons_of_mem _ (List.mem_cons_of_mem _ (List.mem_cons_of_mem _ (List.mem_cons_of_mem _ (List.mem_cons_self)))))))) cl_hasDict ?_
      intro s k6 S
      walk_at "stp"
      exact ⟨rfl, hN ⟨_, _, _, _, S⟩⟩
    · have e3 : text = [] := by cases text with | nil => rfl | cons c l => exfalso; apply hc; simp only [List.length_cons]; lia
      walk_at "stp"
      have e4 : (-1 : Int) = sgn text := by rw [e3]; rfl
      rw [e4]
      with_reducible refine add_attr S (by kernel_rfl!) rfl (by decide) cl_setattr cl_plainOver (lex_taker (List.mem_cons_of_mem _ (List.mem_cons_of_mem _ (List.mem_cons_of_mem _ (List.mem_cons_of_mem _ (List.mem_cons_of_mem _ (List.mem_cons_of_mem _ (List.mem_cons_self)))))))) cl_hasDict ?_
      intro s k6 S
      walk_at "stp"
      exact ⟨rfl, hN ⟨_, _, _, _, S⟩⟩
  clear S
  intro s hP
  obtain ⟨t4, t5, k6, t7, S⟩ := hP
  walk_at "sts"
  with_reducible refine add_attr S (by kernel_rfl!) rfl (by decide) cl_setattr cl_plainOver (lex_taker (List.mem_cons_of_mem _ (List.mem_cons_of_mem _ (List.mem_cons_of_mem _ (List.mem_cons_of_mem _ (List.mem_cons_of_mem _ (List.mem_cons_of_mem _ (List.mem_cons_of_mem _ (List.mem_cons_self))))))))) cl_hasDict ?_
  intro s k7 S
  walk_at "sts"
  with_reducible refine add_attr S (by kernel_rfl!) rfl (by decide) cl_setattr cl_plainOver (lex_taker (List.mem_cons_of_mem _ (List.mem_cons_of_mem _ (List.mem_cons_of_mem _ (List.mem_cons_of_mem _ (List.mem_cons_of_mem _ (List.mem_cons_of_mem _ (List.mem_cons_of_mem _ (List.mem_cons_of_mem _ (List.mem_cons_self)))))))))) cl_hasDict ?_
  intro s k8 S
  walk_at "sts"
  have S := S.perm perm3
  with_reducible refine add_attr S (by kernel_rfl!) rfl (by decide) cl_setattr cl_plainOver (lex_taker (List.mem_cons_of_mem _ (List.mem_cons_of_mem _ (List.mem_cons_of_mem _ (List.mem_cons_of_mem _ (List.mem_cons_of_mem _ (List.mem_cons_of_mem _ (List.mem_cons_of_mem _ (List.mem_cons_of_mem _ (List.mem_cons_of_mem _ (List.mem_cons_self))))))))))) cl_hasDict ?_
  intro s k9 S
  walk_at "sts"
  with_reducible refine wpC_of (o_token rm.one S ?_)
  intro cx cdx ck1 ck2 s S
  have S := S.perm perm4
  walk_at "stp"
  with_reducible refine add_attr S (by kernel_rfl!) rfl (by decide) cl_setattr cl_plainOver (lex_taker (List.mem_cons_of_mem _ (List.mem_cons_of_mem _ (List.mem_cons_of_mem _ (List.mem_cons_of_mem _ (List.mem_cons_of_mem _ (List.mem_cons_of_mem _ (List.mem_cons_of_mem _ (List.mem_cons_of_mem _ (List.mem_cons_of_mem _ (List.mem_cons_of_mem _ (List.mem_cons_self)))))))))))) cl_hasDict ?_
  intro s k10 S
  walk_at "sts"
  with_reducible refine add_attr S (by kernel_rfl!) rfl (by decide) cl_setattr cl_plainOver (lex_taker (List.mem_cons_of_mem _ (List.mem_cons_of_mem _ (List.mem_cons_of_mem _ (List.mem_cons_of_mem _ (List.mem_cons_of_mem _ (List.mem_cons_of_mem _ (List.mem_cons_of_mem _ (List.mem_cons_of_mem _ (List.mem_cons_of_mem _ (List.mem_cons_of_mem _ (List.mem_cons_of_mem _ (List.mem_cons_self))))))))))))) cl_hasDict ?_
  intro s k11 S
  walk_at "stp"
  have S := S.sub ((((List.sublist_cons_self _ _).trans (List.sublist_cons_self _ _)).cons₂ _).cons₂ _)
  have V : Vw { kt := fun n => [k0, k1, k2, k3, k4, k5, k6, k7, k8, k9, k10, k11].getD n 0, text := text, ttext := tt, src := [61, 113], tsrc := tc, chunk := [113], tchunk := t4, limits := lim, kinds := d, at_ := 0, tat := t5, sign := sgn text, tsign := t7, line := 1, tline := ‹Tok›, last := 1, tlast := ‹Tok›, buffer := cx, current := cx } [] text :=
    ⟨⟨[], rfl, rfl⟩, rfl, hz, (show (0 : Int) ≤ 1 by decide), (show (1 : Int) + text.length ≤ 1000000 by lia), (show 0 + text.length ≤ 900000 by lia)⟩
  refine h 12 { kt := fun n => [k0, k1, k2, k3, k4, k5, k6, k7, k8, k9, k10, k11].getD n 0, text := text, ttext := tt, src := [61, 113], tsrc := tc, chunk := [113], tchunk := t4, limits := lim, kinds := d, at_ := 0, tat := t5, sign := sgn text, tsign := t7, line := 1, tline := _, last := 1, tlast := _, buffer := _, current := cx } d o kvs _ S.ef rfl rfl rfl hd ho hkv ?_
  exact ⟨V.pre, V.sign, V.fit, V.ln0, V.ln, V.bf⟩
end
section
variable {w : World} {g : Heap} {L : Addr} {m : Str → Option Value} {R R' pre post : Led} {r s s0 : Shared} {A : Around} {E : Value → Shared → Prop} {Q : Value → Shared → Prop} {k : Nat} {a x dx lim fa : Addr} {t t1 t2 tt tc k1 k2 : Tok} {W : Result → Shared → Prop} {text : List UInt8} {kind value v : Value} {e : Bool} {items : List Value} {n : Nat}
theorem tk_kind (S : St w g L m R r s) (h1 : (x, instObj 262 dx) ∈ R) (h2 : (dx, dictOf (tokEs w.params k1 k2 kind value) 2) ∈ R) (hv : handedIn kind = true) (hq : ∀ s', St w g L m R r s' → Q kind s') : wpAny (model pw w) A (getAttr (.ref x) "kind" e) Q E s := by
  obtain ⟨f1, f2, f3, f4, f5, f6, f7, f8, f9, f10, f11⟩ := tok_facts (w := w)
  exact at_get S h1 h2 f9 f8 f10 tk_get1 hv hq
theorem tk_value (S : St w g L m R r s) (h1 : (x, instObj 262 dx) ∈ R) (h2 : (dx, dictOf (tokEs w.params k1 k2 kind value) 2) ∈ R) (hv : handedIn value = true) (hq : ∀ s', St w g L m R r s' → Q value s') : wpAny (model pw w) A (getAttr (.ref x) "value" e) Q E s := by
  obtain ⟨f1, f2, f3, f4, f5, f6, f7, f8, f9, f10, f11⟩ := tok_facts (w := w)
  exact at_get S h1 h2 f9 f8 f11 tk_get2 hv hq
theorem m_lappend {pl : Sem Bool} {Q : Value × List Value → Shared → Prop} (S : St w g L m R r s) (hm : (fa, lstO items n) ∈ R) (h : Q (.builtin "list.append", [.ref fa]) s) : wpAny (model pw w) A (getMethod (.ref fa) "append" pl) Q E s :=
  listMethod_K S.N hm PySem.F.slot_list_append PySem.F.type_list_append h
theorem o_lappend (S : St w g L m (pre ++ (fa, lstO items n) :: post) r s) (hz : items.length ≤ 1000000) (h : ∀ s' n', St w g L m (pre ++ (fa, lstO (items ++ [v]) n') :: post) r s' → Q .none s') : wpAny (model pw w) A (call (.builtin "list.append") [.ref fa, v]) Q E s := by
  have hl := St.lst S (List.mem_append_right _ (.head _))
  have ho : s.heap.get? fa = some (lstO items n) := (S.N _ (List.mem_append_right _ (.head _))).1
  refine wpAny_call_entry PySem.F.slot_list_append hl.typeIs PySem.F.entry_list_append ?_ (PySem.F.args_list_append_2 _ _)
  show wpAny _ _ (updateSeq fa (·.push v) >>= fun _ => ret .none) _ _ s
  refine wpAny_bind ?_
  have nd := S.nd
  rw [List.map_append, List.map_cons] at nd
  obtain ⟨nd1, nd2, nd3⟩ := List.nodup_append.mp nd
  have hsz : items.toArray.size ≤ sizeLine := by rw [List.size_toArray, sizeLine_eq]; lia
  obtain ⟨n', e1⟩ : ∃ n', Obj.mapSeq (·.push v) (lstO items n) = lstO (items ++ [v]) n' := ⟨_, by
    show ({ cls := .type "list", dict := none, data := .seq (items.toArray.push v) _, slots := #[] } : Obj) = _
    rw [List.push_toArray]⟩
  obtain ⟨F', N'⟩ := news_upd (f := Obj.mapSeq (·.push v)) (o' := lstO (items ++ [v]) n') S.F S.N (fun p hp e => nd3 _ (List.mem_map_of_mem hp) _ (.head _) e) (fun p hp e => (List.nodup_cons.mp nd2).1 (List.mem_map.mpr ⟨p, hp, e⟩)) e1 rfl
  refine wpAny_updateSeq ho rfl (wpAny_pure ⟨.none, rfl, h _ n' (S.heap s.toks F' N' (by simpa using S.nd))⟩)
end
section
variable {w : World} {g : Heap} {L : Addr} {m : Str → Option Value} {R R' : Led} {r s s0 : Shared} {A : Around} {E : Value → Shared → Prop} {Q : Value → Shared → Prop} {i : Id} {σ σ' : Lx} {buf bf l l' l1 rest : List UInt8} {k : Nat} {kind : Int} {tv : TV}
theorem c_next (rm : Rm A (k + 13)) (H : Hs w (lexL w.params i σ buf R) s0) (hl : LimIn w σ.limits R) (hkd : KindsIn w σ.kinds R) (V : Vw σ buf l) (hb : Blanks l l1) (nb : NoBlank l1) (ho : One l1 kind tv rest)
    (h : ∀ x dx k1 k2 s' σ' bf t1 v, Ef (lexL w.params i σ buf R) s0 (lexL w.params i σ' bf (tokL w.params x dx k1 k2 (.int kind t1) v ++ R)) s' → tv.Is v → σ'.limits = σ.limits → σ'.kinds = σ.kinds → σ'.chunk = σ.chunk → Vw σ' bf rest → Q (.ref x) s') :
    wpC (model pw w) A (call (.ref 287) [.ref i.x]) Q E s0 := by
  refine' enterC (binds := [("self", .ref i.x)]) (lb := [("self", .ref i.x)]) rm H ?ho ?hcd ?hb ?hl ?hc ?h1 ?h2 ?h3 ?hr ?_
  walk_at "fn"
  intro L s E A S rm
  walk_at "stp"
  refine ite_bn rfl ?_
  walk_at "stp"
  have V' : ∀ t, Vw (σ.setLast σ.line t) buf l := fun t => ⟨V.pre, V.sign, V.fit, V.ln0, V.ln, V.bf⟩
  with_reducible refine c_read rm.one S.hs hl hkd (V' _) hb nb ho ?_
  intro x dx k1 k2 s σ₂ bf t1 v e htv sm V₂
  have S := S.call e
  have e1 : σ₂.limits = σ.limits := sm.limits
  have e2 : σ₂.kinds = σ.kinds := sm.kinds
  have e3 : σ₂.chunk = σ.chunk := sm.chunk
  walk_at "stp"
  exact h _ _ _ _ _ (σ₂.setCur x) _ _ _ S.ef htv e1 e2 e3 ⟨V₂.pre, V₂.sign, V₂.fit, V₂.ln0, V₂.ln, V₂.bf⟩
end
local macro_rules | `(tactic| walk_at "yy") => ways "! wpAny eval 2 ; ; ste|! wpAny execs 2 ; ; stx|! wpAny isTrue 3 ; ; stt|! wpC unpackItems 3 ; ; wo|! wpC assignInOrder 2 ; ; wo|! wpC newTuple 1 ; ; wo"
inductive OutL : List (Int × TV) → List Value → Led → Prop
  | nil : OutL [] [] []
  | snoc {ts vs es kd tv t v a} : OutL ts vs es → tv.Is v → OutL (ts ++ [(kd, tv)]) (vs ++ [.ref a]) ((a, tupO [.int kd t, v]) :: es)
theorem OutL.length {ts vs es} (h : OutL ts vs es) : vs.length = ts.length := by
  induction h with
  | nil => rfl
  | snoc _ _ ih => simp [ih]
theorem one_ne {l r : List UInt8} {kd : Int} {tv : TV} (h : One l kd tv r) (hl : l ≠ []) : kd ≠ 287 := by
  cases h with
  | eos => exact absurd rfl hl
  | @cmp c l h1 h2 => have := c.toNat_lt; lia
  | @other c l h1 => have := c.toNat_lt; lia
  | _ => decide
theorem noBlank_nil : NoBlank [] := ⟨by decide, by decide, fun _ e => by cases e⟩
theorem Toks.next {l : List UInt8} {ts : List (Int × TV)} (h : Toks l ts) : ∃ l1 kd tv rest, Blanks l l1 ∧ NoBlank l1 ∧ One l1 kd tv rest ∧ ((kd = 287 ∧ ts = []) ∨ (kd ≠ 287 ∧ ∃ more, ts = (kd, tv) :: more ∧ Toks rest more)) := by
  cases h with
  | nil hb => exact ⟨[], 287, .none, [], hb, noBlank_nil, .eos, .inl ⟨rfl, rfl⟩⟩
  | cons hb ho nb hne ht => exact ⟨_, _, _, _, hb, nb, ho, .inr ⟨one_ne ho hne, _, rfl, ht⟩⟩
section
variable {M : Model} {A : Around} {E : Value → Shared → Prop} {s : Shared} {ev : Env}
theorem y_Tuple2 {e1 e2 : Expr} {k : Nat} {pos : Pos} {Q : Value → Shared → Prop} (h : wpC M A (eval e1 ev) (fun v1 s1 => wpC M A (eval e2 ev) (fun v2 s2 => wpC M A (newTuple [v1, v2]) Q E s2) E s1) E s)
    (hs : starEach [e1, e2] ev = [(false, eval e1 ev), (false, eval e2 ev)]) : wpC M A (eval (.Tuple [e1, e2] k pos) ev) Q E s := by
  show wpC M A (do standAt pos; newTuple (← spliced (backTo pos (starEach [e1, e2] ev)))) Q E s
  have e' : backTo pos (starEach [e1, e2] ev) = [(false, eval e1 ev), (false, eval e2 ev)] := by rw [hs]; rfl
  rw [e']
  exact wpC_bind (wpC_standAt (wpC_bind (ySp_cons (wpC_mono h (fun _ _ h => ySp_cons (wpC_mono h (fun _ _ h => ySp_nil h) fun _ _ x => x)) fun _ _ x => x))))
end
theorem LimIn.app {w : World} {a : Addr} {R : Led} (h : LimIn w a R) : ∀ es : Led, LimIn w a (es ++ R)
  | [] => h
  | _ :: es => (LimIn.app h es).tail
theorem KindsIn.app {w : World} {a : Addr} {R : Led} (h : KindsIn w a R) : ∀ es : Led, KindsIn w a (es ++ R)
  | [] => h
  | _ :: es => (KindsIn.app h es).tail
theorem TV.handed {tv : TV} {v : Value} (h : tv.Is v) : handedIn v = true := by
  cases tv with
  | none => rw [h]; rfl
  | int n => obtain ⟨t, rfl⟩ := h; rfl
  | bytes b => obtain ⟨t, rfl⟩ := h; rfl
theorem led_perm {x y z t1 f : Addr × Obj} {es : Led} : (x :: y :: z :: t1 :: f :: es).Perm (x :: y :: z :: f :: t1 :: es) := .cons _ (.cons _ (.cons _ (.swap _ _ _)))
theorem led_sub2 {x y z t1 x2 dx2 f : Addr × Obj} {es : Led} : (x :: y :: z :: t1 :: f :: es).Sublist (x :: y :: z :: t1 :: x2 :: dx2 :: f :: es) := ((((((List.Sublist.refl (f :: es)).cons dx2).cons x2).cons_cons t1).cons_cons z).cons_cons y).cons_cons x
section
variable {w : World} {g : Heap} {L : Addr} {m : Str → Option Value} {R R' : Led} {r s s0 : Shared} {A : Around} {E : Value → Shared → Prop} {Q : Value → Shared → Prop} {i : Id} {σ σ' : Lx} {buf bf l l' l1 rest text : List UInt8} {k : Nat} {kind : Int} {tv : TV} {lim : Addr} {tt tc : Tok} {ts : List (Int × TV)}
theorem c_all_tokens (rm : Rm A (k + 15)) (H : Hs w R s0) (hl : LimIn w lim R) (hz : text.length ≤ 800000) (ht : Toks text ts) (hn : ts.length ≤ 1000) (h : ∀ s' fa vs es n, Ef R s0 ((fa, lstO vs n) :: (es ++ R)) s' → OutL ts vs es → Q (.ref fa) s') :
    wpC (model pw w) A (call (.ref 476) [.bytes text.toArray tt, .bytes #[61, 113] tc, .ref lim]) Q E s0 := by
  refine' enterC (binds := [("text", .bytes text.toArray tt), ("chunk", .bytes #[61, 113] tc), ("limits", .ref lim)]) (lb := [("limits", .ref lim), ("chunk", .bytes #[61, 113] tc), ("text", .bytes text.toArray tt)]) rm H ?ho ?hcd ?hb ?hl ?hc ?h1 ?h2 ?h3 ?hr ?_
  walk_at "fn"
  intro L s E A S rm
  with_reducible refine y_tupS (names := ["lexer", "found"]) ?_ rfl (by kernel_rfl!)
  with_reducible refine y_Tuple2 ?_ rfl
  walk_at "stp"
  obtain ⟨f1, f2, f3⟩ := lex_cls (w := w)
  with_reducible refine y_make (k := 13) rm.one S f1 f2 f3 fun x dx s' A' S' rm' => ?_
  refine init_lexer (k := 5) rm'.one S'.hs hz fun n σ d o kvs s e hk hlm _ hd hdo hkv V => ⟨rfl, ?_⟩
  have S := S'.call e
  clear S' e s'
  walk_at "stb"
  have S := S.drop.into
  generalize hi : (⟨x, dx, n⟩ : Id) = i at S
  obtain rfl : x = i.x := by rw [← hi]
  have hkin : KindsIn w σ.kinds ((d, o) :: R) := ⟨o, kvs, by rw [hk]; exact .head _, by rw [hk]; exact hd, hdo, hkv⟩
  have hlim : LimIn w σ.limits ((d, o) :: R) := by rw [hlm]; exact hl.tail
  generalize hR2 : ((d, o) :: R) = R2 at S hkin hlim
  obtain ⟨fa, S⟩ : ∃ fa, St w (hideAll s0.heap (R.map (·.1))) L (Lm [("lexer", .ref i.x), ("found", .ref fa), ("limits", .ref lim), ("chunk", .bytes #[61, 113] tc), ("text", .bytes text.toArray tt)]) (lexL w.params i σ [] ((fa, lstO [] 0) :: R2)) s0 _ := ⟨_, S⟩
  obtain ⟨l1, kd, tv, rest, b1, b2, b3, b4⟩ := ht.next
  walk_at "sts"
  with_reducible refine c_next rm.one S.hs hlim.tail hkin.tail V b1 b2 b3 ?_
  intro x2 dx2 k1 k2 s σ₂ bf t1 v e htv el ek _ V₂
  have S := S.call e
  walk_at "stb"
  with_reducible refine y_while (fun n s => E16 fun (done : List (Int × TV)) (vs : List Value) (es : Led) (cap : Nat) (σ₂ : Lx) (bf rest : List UInt8) (x2 dx2 : Addr) (k1 k2 t1 : Tok) (v : Value) (kd : Int) (tv : TV) (ls : List (Str × Value)) => A10 (OutL done vs es) (tv.Is v) (σ₂.limits = σ.limits) (σ₂.kinds = σ.kinds) (Vw σ₂ bf rest) (((kd = 287 ∧ ts = done ∧ n = 0) ∨ (kd ≠ 287 ∧ ∃ more, ts = done ++ (kd, tv) :: more ∧ Toks rest more ∧ n = more.length + 1))) (St w (hideAll s0.heap (R.map (·.1))) L (Lm ls) (lexL w.params i σ₂ bf (tokL w.params x2 dx2 k1 k2 (.int kd t1) v ++ (fa, lstO vs cap) :: (es ++ R2))) s0 s) (Lm ls "token" = some (.ref x2)) (Lm ls "lexer" = some (.ref i.x)) (Lm ls "found" = some (.ref fa))) ts.length ?_ ?_
  · refine ⟨[], [], [], 0, σ₂, bf, rest, x2, dx2, k1, k2, t1, v, kd, tv, _, .nil, htv, el, ek, V₂, ?_, S, by walk_at "lm", by walk_at "lm", by walk_at "lm"⟩
    rcases b4 with ⟨c1, c2⟩ | ⟨c1, more, c2, c3⟩
    · exact .inl ⟨c1, c2, by rw [c2]; rfl⟩
    · exact .inr ⟨c1, more, c2, c3, by rw [c2]; rfl⟩
  clear S V V₂ b1 b2 b3 b4 htv el ek e ht
  intro n' s E' N hN hI
  obtain ⟨done, vs, es, cap, σ₂, bf, rest, x2, dx2, k1, k2, t1, v, kd, tv, ls, hout, htv, el, ek, V₂, hcase, S, m1, m2, m3⟩ := hI
  walk_at "stp"
  with_reducible refine tk_kind S (lexL_rest List.mem_cons_self) (lexL_rest (List.mem_cons_of_mem _ List.mem_cons_self)) rfl ?_
  intro s S
  walk_at "stp"
  rcases hcase with ⟨rfl, rfl, rfl⟩ | ⟨hne, more, hts, hmore, rfl⟩
  · refine ite_dn (by lia) ?_
    walk_at "stp"
    subst hR2
    have sub : ((fa, lstO vs cap) :: (es ++ R)).Sublist (lexL w.params i σ₂ bf (tokL w.params x2 dx2 k1 k2 (.int 287 t1) v ++ (fa, lstO vs cap) :: (es ++ (d, o) :: R))) :=
      (((((((List.Sublist.refl es).append (List.sublist_cons_self (d, o) R)).cons_cons (fa, lstO vs cap)).cons _).cons _).cons _).cons _).cons _
    exact h _ _ _ _ _ (S.sub sub).ef hout
  · refine ite_dy hne ?_
    walk_at "stp"
    have hzv : vs.length ≤ 1000 := by have e1 := hout.length; have e2 := congrArg List.length hts; simp only [List.length_append, List.length_cons] at e2; lia
    have hmem : (fa, lstO vs cap) ∈ lexL w.params i σ₂ bf (tokL w.params x2 dx2 k1 k2 (.int kd t1) v ++ (fa, lstO vs cap) :: (es ++ R2)) := lexL_rest (.tail _ (.tail _ (.head _)))
    with_reducible refine m_lappend S hmem ?_
    walk_at "stp"
    with_reducible refine tk_kind S (lexL_rest List.mem_cons_self) (lexL_rest (List.mem_cons_of_mem _ List.mem_cons_self)) rfl ?_
    intro s S
    walk_at "stp"
    with_reducible refine tk_value S (lexL_rest List.mem_cons_self) (lexL_rest (List.mem_cons_of_mem _ List.mem_cons_self)) (TV.handed htv) ?_
    intro s S
    walk_at "stp"
    refine wpC_of (o_lappend (pre := [(i.x, instObj 465 i.dx), (i.dx, dictOf (lexEs w.params σ₂) i.n), (σ₂.buffer, baObj bf), (_, tupO [.int kd t1, v]), (x2, instObj 262 dx2), (dx2, dictOf (tokEs w.params k1 k2 (.int kd t1) v) 2)]) (fa := fa) (items := vs) (n := cap) (post := es ++ R2) S (by lia) ?_)
    intro s cap' S
    have S := (S.sub led_sub2).perm led_perm
    have S : St w (hideAll s0.heap (R.map (·.1))) L (Lm ls) (lexL w.params i σ₂ bf ((fa, lstO (vs ++ [.ref _]) cap') :: (((_, tupO [.int kd t1, v]) :: es) ++ R2))) s0 s := S
    refine ⟨rfl, ?_⟩
    obtain ⟨l1, kd', tv', rest', b1, b2, b3, b4⟩ := hmore.next
    walk_at "stp"
    with_reducible refine c_next rm.one S.hs (by rw [el]; exact (hlim.app _).tail) (by rw [ek]; exact (hkin.app _).tail) V₂ b1 b2 b3 ?_
    intro x3 dx3 k3 k4 s σ₃ bf' t3 v' e htv' el' ek' _ V₃
    have S := S.call e
    walk_at "stp"
    rcases b4 with ⟨c1, c2⟩ | ⟨c1, more', c2, c3⟩
    · exact hN ⟨0, by lia, done ++ [(kd, tv)], _, _, _, σ₃, bf', rest', x3, dx3, k3, k4, t3, v', kd', tv', _, .snoc hout htv, htv', el'.trans el, ek'.trans ek, V₃, .inl ⟨c1, by rw [hts, c2], rfl⟩, S, by walk_at "lm", by walk_at "lm", by walk_at "lm"⟩
    · exact hN ⟨more'.length + 1, by rw [c2]; simp, done ++ [(kd, tv)], _, _, _, σ₃, bf', rest', x3, dx3, k3, k4, t3, v', kd', tv', _, .snoc hout htv, htv', el'.trans el, ek'.trans ek, V₃, .inr ⟨c1, more', by rw [hts, c2]; simp, c3, rfl⟩, S, by walk_at "lm", by walk_at "lm", by walk_at "lm"⟩
end
section
open PySem.Builtin
/-- the class of the errors, as it stands in the text's own heap -/
noncomputable abbrev lseTail : List Value := [.ref 74, .type "Exception", .type "BaseException", .type "object"]
noncomputable abbrev lseObj : Obj := excClassObj "LuaSyntaxError" "LuaSyntaxError" 87 86 [.ref 74] lseTail true [] [] false none none (some (.ref 78)) none (some (.str "LuaSyntaxError" 299)) (some (.str "LuaSyntaxError" 307)) (some (.bool true)) "Exception.__new__"
theorem lse_at {w : World} : (LX.hdC.heap_1 w.params).lookup 87 = some lseObj := by kernel_rfl!
section
variable {prog : Program} {w : World} {A : Around} {E : Value → Shared → Prop} {R : Result → Shared → Prop} {h : Heap} {g : Array GenState} {d : Drawn} {t : Nat} {os : OsState} {rest : List Value} {M : Model}
open PySem.F in
theorem lse_check_new {Q : Unit → Shared → Prop} (hC : h.get? 87 = some lseObj) (hq : Q () ⟨h, g, d, t, os⟩) : wpAny M A (checkBuiltinCall "Exception.__new__" ⟨.ref 87 :: rest, []⟩) Q E ⟨h, g, d, t, os⟩ := by
  have hcont : (Value.ref 87 :: lseTail).contains (.type "Exception") = true := by decide
  have hstar := excBase_Exception.noStar
  simp only [checkBuiltinCall, excBase_Exception.newKind, excBase_Exception.newSplit, excBase_Exception.newRow]
  repeat (first | refine wpAny_loadPart_at hC ?_ | (refine wpAny_isSubtype_exc hC ?_; rw [hcont]) | refine wpAny_staticBase_exc hC ?_ | refine wpAny_madeBy_exc hC ?_ | simp only [bne_self_eq_false, Bool.false_eq_true, if_false] | wp_step)
  exact hq
open PySem.F in
theorem lse_new (hC : h.get? 87 = some lseObj) (hq : R (.ok (.ret (.ref (h.objs.size + 1)))) ⟨(h.push { cls := .type "tuple", data := .seq rest.toArray }).push { cls := .ref 87, data := .fields #[.ref h.objs.size, .none, .none, .none, .bool false, .none] }, g, d, t, os⟩) (hrest : rest.length ≤ sizeLine) :
    codeAny (model prog w) A (.builtin "Exception.__new__" ⟨.ref 87 :: rest, []⟩) R ⟨h, g, d, t, os⟩ := by
  have hends := excBase_Exception.ends
  have hcB : (Value.ref 87 :: lseTail).contains (.type "Exception") = true := by decide
  have hcA : (Value.ref 87 :: lseTail).contains (.type "AttributeError") = false := by decide
  have hcN : (Value.ref 87 :: lseTail).contains (.type "NameError") = false := by decide
  refine codeAny_builtinAt excBase_Exception.entry ?_
  unfold Builtin.«BaseException.__new__»
  refine PySem.wpAt_bind ?_
  show PySem.wpAt _ _ _ (stack >>= _) _ _ _
  refine PySem.wpAt_bind (PySem.wpAt_stack fun p below => PySem.wpAt_of_wpAny ?_)
  wp_walk
  refine PySem.wpAt_of_wpAny ?_
  rw [excBase_Exception.owner]
  repeat (first | with_reducible refine wpAny_madeHere_exc excBase_Exception.canon hC ?_ | with_reducible refine wpAny_loadPart_at hC ?_ | (with_reducible refine wpAny_isSubtype_exc hC ?_; first | rw [hcB] | rw [hcA] | rw [hcN]) | wp_step)
  show R _ _
  rw [Heap.size_push]
  exact hq

theorem lse_facts {w : World} : findIn (LX.hdC.heap_1 w.params) (.ref 87) "__init__" = some (some (.ref 71)) ∧ typeIn (LX.hdC.heap_1 w.params) (.ref 71) = some (.type "function") ∧ subIn (LX.hdC.heap_1 w.params) (.ref 87) (.type "BaseException") = some true ∧
  subIn (LX.hdC.heap_1 w.params) (.ref 87) (.ref 87) = some true ∧ specialIn (LX.hdC.heap_1 w.params) (.ref 87) "__call__" = some (some (.builtin "type.__call__")) ∧ instIn (LX.hdC.heap_1 w.params) (.ref 87) (.type "type") = some true ∧
  findIn (LX.hdC.heap_1 w.params) (.ref 87) "__setattr__" = some (some (.builtin "object.__setattr__")) ∧ takerIn (LX.hdC.heap_1 w.params) 87 "value" = some none ∧ takerIn (LX.hdC.heap_1 w.params) 87 "trace" = some none := by and_intros <;> kernel_rfl!
theorem lse_type_call {Q : Fin → Shared → Prop} (hX : (LX.hdC.heap_1 w.params).In h)
    (hq : ∀ h' e, Heap.MadeExcOf h h' e (.ref 87) rest → wpAny (model prog w) A (call (.ref 71) (.ref e :: rest)) (fun r s' => r = .none ∧ Q (.done (.ret (.ref e))) s') E ⟨h', g, d, t, os⟩) (hrest : rest.length ≤ sizeLine) :
    wpAny (model prog w) A (Builtin.«type.__call__» ⟨.ref 87 :: rest, []⟩) Q E ⟨h, g, d, t, os⟩ := by
  have hC : h.get? 87 = some lseObj := hX _ _ lse_at
  repeat (first | with_reducible refine wpAny_loadPart_at hC ?_ | with_reducible refine wpAny_madeBy_exc hC ?_ | wp_step)
  refine codeAny_call_builtin_code (Code.quiet_builtin _ PySem.F.excBase_Exception.quiet) (lse_check_new hC ?_)
  refine lse_new hC ?_ hrest
  show wpAny _ _ _ _ _ _
  have k : ∀ b o, h.get? b = some o → ((h.push { cls := .type "tuple", data := .seq rest.toArray }).push { cls := .ref 87, data := .fields #[.ref h.objs.size, .none, .none, .none, .bool false, .none] }).get? b = some o := fun b o e => Heap.get?_push_of_some _ (Heap.get?_push_of_some _ e)
  have hC₁ := k _ _ hC
  have hX₁ : (LX.hdC.heap_1 w.params).In _ := hX.keeps k
  have hget : ((h.push { cls := .type "tuple", data := .seq rest.toArray }).push
      { cls := .ref 87, data := .fields #[.ref h.objs.size, .none, .none, .none, .bool false, .none] }).get? (h.objs.size + 1) = some
      { cls := .ref 87, data := .fields #[.ref h.objs.size, .none, .none, .none, .bool false, .none] } := by heap_get
  have hcC : (Value.ref 87 :: lseTail).contains (.ref 87) = true := by decide
  unfold isInstance
  repeat (first | with_reducible refine wpAny_loadPart_at hget ?_ | (with_reducible refine wpAny_isSubtype_exc hC₁ ?_; rw [hcC]) | wp_step)
  show wpAny _ _ (typeLookup (.ref 87) _) _ _ _
  obtain ⟨f1, f2, f3, f4, f5, f6, f7, f8, f9⟩ := lse_facts (w := w)
  refine (looks_findIn hX₁ f1).here ?_
  dsimp only
  refine wpAny_holding (wpAny_bind ((bind_fn hX₁ _ f2).here ?_))
  dsimp only
  refine wpAny_bind (wpAny_mono (hq _ (h.objs.size + 1) ⟨k, Heap.get?_none_of_le (Nat.le_succ _), h.objs.size, hget, Heap.get?_none_of_le (Nat.le_refl _), ?_⟩) (fun r s' hr => ?_) fun _ _ x => x)
  · exact Heap.get?_push_of_some _ (Heap.get?_push_at rfl rfl)
  · obtain ⟨rfl, hQ⟩ := hr
    wp_walk
    exact hQ
theorem lse_call {Q : Value → Shared → Prop} (hX : (LX.hdC.heap_1 w.params).In h)
    (hq : ∀ h' e, Heap.MadeExcOf h h' e (.ref 87) rest → wpAny (model prog w) (A.under (.builtin "type.__call__" ⟨.ref 87 :: rest, []⟩)) (call (.ref 71) (.ref e :: rest)) (fun r s' => r = .none ∧ Q (.ref e) s') E ⟨h', g, d, t, os⟩) (hrest : rest.length ≤ sizeLine) :
    wpAny (model prog w) A (call (.ref 87) rest) Q E ⟨h, g, d, t, os⟩ := by
  have hC : h.get? 87 = some lseObj := hX _ _ lse_at
  have f1 := tc_lookup
  have f2 := tc_bind (.ref 87)
  have hT : (⟨h, g, d, t, os⟩ : Shared).TypeIs (.ref 87) "type" := ⟨_, hC, rfl⟩
  refine wpAny_call (codeAny_of_tree ?_)
  show wpAny _ _ (callAny (.ref 87) _) _ _ _
  repeat (any_goals (first | assumption | with_reducible refine wpAny_loadPart_at hC ?_ | wp_step))
  refine ⟨rfl, ?_⟩
  refine codeAny_call_builtin_at (Code.quiet_builtin _ (by decide +kernel)) PySem.entry_typeCall (wpAny_check_type_call_sub hC (lse_type_call hX (fun h' e hm => ?_) hrest))
  exact hq h' e hm
end

end
section
open PySem.Builtin PySem.Builtin.ObjectAttr
section
variable {prog : Program} {w : World} {A : Around} {E : Value → Shared → Prop} {R : Result → Shared → Prop} {h : Heap} {g : Array GenState} {d : Drawn} {t : Nat} {os : OsState} {x : Addr} {mA : Str → Option Value} {name : Str} {v : Value} {tk : Tok}

theorem lse_facts2 {w : World} : subIn (LX.hdC.heap_1 w.params) (.ref 87) (.type "object") = some true ∧ (["value", "trace"] : List Str).all (fun nm => findIn (LX.hdC.heap_1 w.params) (.ref 87) nm == some none) = true := by and_intros <;> kernel_rfl!

/-- an attribute of an error's object is set -/
theorem lse_store {Q : Unit → Shared → Prop} {ns : List Str} (hX : (LX.hdC.heap_1 w.params).In h) (ht : findIn (LX.hdC.heap_1 w.params) (.ref 87) name = some none) (I : h.Inst x 87 mA)
    (hq : ∀ h' tk', h'.Inst x 87 (fun y => if y = name then some v else mA y) →
      (∀ b o, b ≠ x → (∀ o₀ dx, h.get? x = some o₀ → o₀.dict = some dx → b ≠ dx) → h.get? b = some o → h'.get? b = some o) →
      (∀ o₀, h.get? x = some o₀ → ∃ o₁, h'.get? x = some o₁ ∧ o₁.cls = o₀.cls ∧ o₁.data = o₀.data ∧ o₁.slots = o₀.slots ∧ ∀ dx, o₀.dict = some dx → o₁.dict = some dx) → (∀ o₀ o₁ dx, h.get? x = some o₀ → o₀.dict = none → h'.get? x = some o₁ → o₁.dict = some dx → h.get? dx = none) → Q () ⟨h', g, d, tk', os⟩) (hw : Within mA ns) (hsz : ns.length + 1 ≤ sizeLine) :
    wpAny (model prog w) A (setAttr (.ref x) name v) Q E ⟨h, g, d, t, os⟩ := by
  have SF := PySem.F.store_Exception
  have SO := PySem.F.store_object
  have hC : h.get? 87 = some lseObj := hX _ _ lse_at
  obtain ⟨o, hx, hc, hnc, hd⟩ := I
  have IA : ∃ od, InstAt h x o 87 od := by
    have hno : notCls o = true := by
      unfold notCls
      split
      · rename_i c hcd
        exact absurd hcd (hnc c)
      · rfl
    rcases hd with ⟨hdn, _⟩ | ⟨dx, hdx, _, o', _, _, ho', _⟩
    · exact ⟨none, hx, hc, hno, by rw [hdn]; trivial⟩
    · exact ⟨some o', hx, hc, hno, by rw [hdx]; exact ho'⟩
  obtain ⟨od, IA⟩ := IA
  refine set_plain (s := ⟨h, g, d, t, os⟩) hX IA lse_facts.2.2.2.2.2.2.1 ?_
  have sub : Looks (model prog w) h (isInstance (.ref x) (.type "object")) true := IA.type.andThen (looks_subIn hX lse_facts2.1)
  refine codeAny_call_builtin SO.slot.plain SO.entry (@check_slot (model prog w) _ _ ⟨h, g, d, t + 1, os⟩ "object.__setattr__" "object" "__setattr__" (.ref x) [.str name t, v] [] _ SO.kind SO.split sub (SO.args (.ref x) (.str name t) v) ?_)
  rw [osa_eq, refuse_eq]
  refine wpAny_bind (wpAny_bind (IA.type.here (wpAny_bind (wpAny_mroOf_exc hC ?_))))
  rw [refuseLoop_ref, refuseLoop_ref, SF.passes]
  refine wpAny_pure (wpAny_bind (IA.type.here (wpAny_bind ((looks_findIn hX ht).here ?_))))
  refine wpAny_bind (wpAny_pure ?_)
  show wpAny _ _ (storeInOwnDict (.ref x) (.ref 87) (.str name t) name v false) _ _ _
  unfold storeInOwnDict ownStreamTells ownDictForStores
  repeat (first | (with_reducible refine wpAny_loadPart_at hx ?_; rw [hc]) | with_reducible refine wpAny_loadPart_at hC ?_ | wp_step)
  rcases hd with ⟨hdn, hmA⟩ | ⟨dx, hdx, hne, hns⟩
  · rw [hdn]
    dsimp only
    rw [if_neg (by simp [typeHasDict])]
    split
    · rename_i c hcd
      exact absurd hcd (hnc c)
    · have hx₁ : (h.push { cls := .type "dict", data := .dict #[] }).get? x = some o := Heap.get?_push_of_some _ hx
      have hxs : x ≠ h.objs.size := Nat.ne_of_lt (Heap.lt_size hx)
      refine wpAny_bind (wpAny_alloc' ?_)
      refine wpAny_bind (wpAny_update' hx₁ ?_)
      refine wpAny_pure ?_
      have hgd : ((h.push { cls := .type "dict", data := .dict #[] }).update x fun o => { cls := o.cls, dict := some h.objs.size, data := o.data, slots := o.slots }).get? h.objs.size
          = some { cls := .type "dict", data := .dict #[] } :=
        (Heap.get?_update_ne _ _ _ _ hxs.symm).trans (Heap.get?_push_at rfl rfl)
      have hnd : ((h.push { cls := .type "dict", data := .dict #[] }).update x fun o => { cls := o.cls, dict := some h.objs.size, data := o.data, slots := o.slots }).Ns h.objs.size (fun _ => none) :=
        ⟨_, #[], _, hgd, rfl, fun e he => absurd he (by simp), fun _ => rfl⟩
      show wpAny _ _ (storeInDict h.objs.size (.str name t) name v) _ _ _
      unfold storeInDict newKeyGuard
      refine wpAny_bind (wpAny_pure (wpAny_bind (wpAny_nsSet1 (Heap.Ns1.of_empty hnd) fun h' hn' hs => ?_)))
      obtain ⟨oD, esD, epD, hoD, hdD, hcD⟩ := hn'.count (Within.cons name v Within.nil)
      refine wpAny_bind (wpAny_lookBehind hoD (by rw [hdD]; exact pastItsLine_dict (Nat.le_trans hcD (by rw [List.length_cons, List.length_nil, sizeLine_eq]; lia))) ?_)
      have hx' : h'.get? x = some { cls := o.cls, dict := some h.objs.size, data := o.data, slots := o.slots } := by
        refine (hs.2 x hxs).trans (Heap.get?_update_self _ hx₁ ?_)
        have hfr := (Heap.get?_some_iff.mp hx).2
        obtain ⟨oc, od, odt, osl⟩ := o
        cases odt <;> first | rfl | exact hfr
      refine wpAny_pure (hq h' _ ⟨{ cls := o.cls, dict := some h.objs.size, data := o.data, slots := o.slots }, hx', hc, hnc, .inr ⟨h.objs.size, rfl, hxs.symm, ?_⟩⟩ (fun b ob hbx _ hb => ?_)
        (fun o₀ h₀ => by obtain rfl : o = o₀ := Option.some.inj (hx.symm.trans h₀); exact ⟨_, hx', rfl, rfl, rfl, fun dx e => by rw [hdn] at e; cases e⟩)
        (fun o₀ o₁ dx _ _ e1 e2 => by rw [hx'] at e1; cases e1; cases e2; exact Heap.get?_none_of_le (Nat.le_refl _)))
      · obtain ⟨o', es, ep, e1, e2, e3, eu, e4⟩ := hn'
        exact ⟨o', es, ep, e1, e2, e3, eu, fun y => by rw [e4 y]; by_cases hy : y = name <;> simp [hy, hmA]⟩
      · exact (hs.2 b (Nat.ne_of_lt (Heap.lt_size hb))).trans ((Heap.get?_update_ne _ _ _ _ hbx).trans (Heap.get?_push_of_some _ hb))
  · rw [hdx]
    refine wpAny_pure ?_
    show wpAny _ _ (storeInDict dx (.str name t) name v) _ _ _
    unfold storeInDict newKeyGuard
    refine wpAny_bind (wpAny_pure (wpAny_bind (wpAny_nsSet1 hns fun h' hn' hs => ?_)))
    obtain ⟨oD, esD, epD, hoD, hdD, hcD⟩ := hn'.count (Within.cons name v hw)
    refine wpAny_bind (wpAny_lookBehind hoD (by rw [hdD]; exact pastItsLine_dict (Nat.le_trans hcD (by rw [List.length_cons]; lia))) ?_)
    refine wpAny_pure (hq h' _ ⟨o, (hs.2 x hne.symm).trans hx, hc, hnc, .inr ⟨dx, hdx, hne, hn'⟩⟩ (fun b ob _ hbd hb => ?_)
      (fun o₀ h₀ => ⟨o₀, (hs.2 x hne.symm).trans h₀, rfl, rfl, rfl, fun _ e => e⟩)
      (fun o₀ o₁ dx' e0 e1 _ _ => by rw [hx] at e0; cases e0; rw [hdx] at e1; cases e1))
    exact (hs.2 b (hbd o dx hx hdx)).trans hb
end
/-- an error's object -/
noncomputable abbrev eo (d : Option Addr) (F : Array Value) : Obj := ⟨.ref 87, d, .fields F, #[]⟩
/-- a dictionary that holds mA -/
noncomputable def NsO (od : Obj) (mA : Str → Option Value) : Prop := ∃ es ep, od.data = .dict es ep ∧ StrKeys es ∧ UniqKeys es ∧ ∀ name, nsFind es name = mA name
section
variable {w : World} {g : Heap} {L : Addr} {m mA : Str → Option Value} {R R' : Led} {r s s0 : Shared} {A : Around} {E : Value → Shared → Prop} {Q : Value → Shared → Prop} {k : Nat} {e a d : Addr} {od : Obj} {F : Array Value} {t t1 t2 tb : Tok} {text : List UInt8} {u v : Value} {nm : Str}
theorem lse_nm (h : nm ∈ (["value", "trace"] : List Str)) : findIn (LX.hdC.heap_1 w.params) (.ref 87) nm = some none := beq_iff_eq.mp (List.all_eq_true.mp lse_facts2.2 _ h)
theorem lse_st0 {Q : Unit → Shared → Prop} (S : St w g L m ((e, eo none F) :: R) r s) (hm : nm ∈ (["value", "trace"] : List Str))
    (h : ∀ s' d od, St w g L m ((e, eo (some d) F) :: (d, od) :: R) r s' → NsO od (fun y => if y = nm then some v else none) → Q () s') : wpAny (model pw w) A (setAttr (.ref e) nm v) Q E s := by
  have he : s.heap.get? e = some (eo none F) := (S.N _ (.head _)).1
  have nd := S.nd
  refine lse_store (ns := []) (mA := fun _ => none) S.Xs (lse_nm hm) ⟨_, he, rfl, (fun c q => by cases q), .inl ⟨rfl, fun _ => rfl⟩⟩ (fun h' tk' I k o1 fresh => ?_) Within.nil (by decide +kernel)
  obtain ⟨o₁, ho₁, c1, c2, c3, -⟩ := o1 _ he
  obtain ⟨o₁', ho₁', -, -, hd⟩ := I
  rw [ho₁] at ho₁'; cases ho₁'
  rcases hd with ⟨_, hd⟩ | ⟨d, hd, hne, od, es, ep, hod, n1, n2, n3, n4⟩
  · have := hd nm
    dsimp only at this
    rw [if_pos rfl] at this; cases this
  have hdn := fresh _ _ d he rfl ho₁ hd
  have hdR : d ∉ ((e, eo none F) :: R).map (·.1) := fun q => by
    obtain ⟨p, hp, rfl⟩ := List.mem_map.mp q
    rw [(S.N p hp).1] at hdn; cases hdn
  have e1 : o₁ = eo (some d) F := by
    obtain ⟨_, _, _, _⟩ := o₁
    dsimp only at c1 c2 c3 hd
    subst c1 c2 c3 hd; rfl
  subst e1
  refine h _ d od (S.of_ef (fun b o hb q => k b o (fun z => hb (z ▸ .head _)) (fun o₀ dx a b => by rw [he] at a; cases a; cases b) q) (fun p hp => ?_) ?_) ⟨es, ep, n1, n2, n3, n4⟩
  · rcases List.mem_cons.mp hp with rfl | hp
    · exact ⟨ho₁, .inl (.head _)⟩
    rcases List.mem_cons.mp hp with rfl | hp
    · exact ⟨hod, .inr hdn⟩
    · exact ⟨k _ _ (fun z => (List.nodup_cons.mp nd).1 (z ▸ List.mem_map_of_mem (f := (·.1)) hp)) (fun o₀ dx a b => by rw [he] at a; cases a; cases b) (S.N p (.tail _ hp)).1, .inl (.tail _ (List.mem_map_of_mem hp))⟩
  · simp only [List.map_cons, List.nodup_cons, List.mem_cons, not_or] at nd hdR ⊢
    exact ⟨⟨fun z => hdR.1 z.symm, nd.1⟩, hdR.2, nd.2⟩
theorem lse_st1 {Q : Unit → Shared → Prop} (S : St w g L m ((e, eo (some d) F) :: (d, od) :: R) r s) {y0 : Str} (hn : NsO od (fun y => if y = y0 then some u else none)) (hm : nm ∈ (["value", "trace"] : List Str))
    (h : ∀ s' od', St w g L m ((e, eo (some d) F) :: (d, od') :: R) r s' → Q () s') : wpAny (model pw w) A (setAttr (.ref e) nm v) Q E s := by
  have he : s.heap.get? e = some (eo (some d) F) := (S.N _ (.head _)).1
  have hdd : s.heap.get? d = some od := (S.N _ (.tail _ (.head _))).1
  have nd := S.nd
  simp only [List.map_cons, List.nodup_cons, List.mem_cons, not_or] at nd
  obtain ⟨es, ep, n1, n2, n3, n4⟩ := hn
  refine lse_store (ns := [y0]) (mA := fun y => if y = y0 then some u else none) S.Xs (lse_nm hm) ⟨_, he, rfl, (fun c q => by cases q), .inr ⟨d, rfl, fun z => nd.1.1 z.symm, od, es, ep, hdd, n1, n2, n3, n4⟩⟩ (fun h' tk' I k o1 fresh => ?_) (Within.cons y0 u Within.nil) (by rw [List.length_cons, List.length_nil, sizeLine_eq]; lia)
  obtain ⟨o₁, ho₁, c1, c2, c3, c4⟩ := o1 _ he
  obtain ⟨o₁', ho₁', -, -, hd⟩ := I
  rw [ho₁] at ho₁'; cases ho₁'
  have c5 := c4 d rfl
  clear c4
  rcases hd with ⟨hd, _⟩ | ⟨d', hd, hne, od', es', ep', hod, m1, m2, m3, m4⟩
  · rw [c5] at hd; cases hd
  rw [c5] at hd; cases hd
  have e1 : o₁ = eo (some d) F := by
    obtain ⟨_, _, _, _⟩ := o₁
    dsimp only at c1 c2 c3 c5
    subst c1 c2 c3 c5; rfl
  subst e1
  refine h _ od' (S.of_ef (fun b o hb q => k b o (fun z => hb (z ▸ .head _)) (fun o₀ dx a b' => by rw [he] at a; cases a; cases b'; exact fun z => hb (z ▸ .tail _ (.head _))) q) (fun p hp => ?_) S.nd)
  · rcases List.mem_cons.mp hp with rfl | hp
    · exact ⟨ho₁, .inl (.head _)⟩
    rcases List.mem_cons.mp hp with rfl | hp
    · exact ⟨hod, .inl (.tail _ (.head _))⟩
    · exact ⟨k _ _ (fun z => nd.1.2 (z ▸ List.mem_map_of_mem (f := (·.1)) hp)) (fun o₀ dx a b' => by rw [he] at a; cases a; cases b'; exact fun z => nd.2.1 (z ▸ List.mem_map_of_mem (f := (·.1)) hp)) (S.N p (.tail _ (.tail _ hp))).1, .inl (.tail _ (.tail _ (List.mem_map_of_mem hp)))⟩

theorem c_exc_init (rm : Rm A (k + 1)) (H : Hs w ((e, eo none F) :: R) s0) (h : ∀ d s', Ef ((e, eo none F) :: R) s0 ((e, eo (some d) F) :: R) s' → Q .none s') :
    wpAny (model pw w) A (call (.ref 71) [.ref e, v]) Q E s0 := by
  refine' enter (binds := [("self", .ref e), ("value", v)]) (lb := [("value", v), ("self", .ref e)]) rm H ?ho ?hcd ?hb ?hl ?hc ?h1 ?h2 ?h3 ?hr ?_
  walk_at "fn"
  intro L s E A S rm
  walk_at "stp"
  with_reducible refine lse_st0 S (List.mem_cons_self) ?_
  intro s d od S hn
  walk_at "stp"
  obtain ⟨fa, S⟩ : ∃ fa, St w (hideAll s0.heap (((e, eo none F) :: R).map (·.1))) L (Lm [("value", v), ("self", .ref e)]) ((fa, lstO [] 0) :: (e, eo (some d) F) :: (d, od) :: R) s0 _ := ⟨_, S⟩
  have S := S.perm (((List.Perm.swap _ _ _).trans (.cons _ (.swap _ _ _))) : List.Perm _ ((e, eo (some d) F) :: (d, od) :: (fa, lstO [] 0) :: R))
  with_reducible refine lse_st1 S hn (List.mem_cons_of_mem _ List.mem_cons_self) ?_
  intro s od' S
  walk_at "stp"
  exact h d _ (S.sub (R' := (e, eo (some d) F) :: R) (.cons_cons _ (.cons _ (.cons _ (.refl _))))).ef
end

end
/-- the machine's other parts -/
noncomputable def SameG (r s : Shared) : Prop := s.gens = r.gens ∧ s.os = r.os
theorem SameG.trans {a b c : Shared} (x : SameG a b) (y : SameG b c) : SameG a c := ⟨y.1.trans x.1, y.2.trans x.2⟩
/-- an error flies through the frames l -/
noncomputable def Fly (base : Heap) (l : List Env) (e : Addr) (s : Shared) : Prop := ∃ a0, Heap.FlyingW base l e (.ref 87) a0 s.heap
/-- it was seen in the frame L -/
noncomputable def Held (base : Heap) (l : List Env) (L e : Addr) (s : Shared) : Prop := ∃ a0, Heap.HeldW base l e (.ref 87) a0 L s.heap
/-- it is new -/
noncomputable def Newly (base : Heap) (l : List Env) (e : Addr) (s : Shared) : Prop :=
  ∃ oe vs a0, base.StaysIn s.heap ∧ s.heap.FunFrames base l ∧ base.get? e = none ∧ s.heap.get? e = some oe ∧ oe.cls = .ref 87 ∧ oe.data = .fields vs ∧ vs[1]? = some .none ∧ vs[0]? = some a0

/-- what a call that raises asks of its caller -/
structure Rz (base : Heap) (l : List Env) (A : Around) (E : Value → Shared → Prop) (R : Led) (s : Shared) : Prop where
  K : Below A base l (hideAll s.heap (R.map (·.1)))
  E : ∀ e s', Fly base l e s' → (hideAll s.heap (R.map (·.1))).UpToSlots s'.heap → SameG s s' → E (.ref e) s'

/-- a frame in which an error may be raised -/
structure Rf (base : Heap) (l : List Env) (env : Env) (L : Addr) (g : Heap) (r : Shared) (A : Around) (E : Value → Shared → Prop) : Prop where
  stack : A.frames = some (env :: l)
  fr : env.frame = some L
  kind : env.scope.kind ≠ .module
  stays : base.StaysIn g
  frames : g.FunFrames base l
  E : ∀ e s', Fly base (env :: l) e s' ∨ Held base (env :: l) L e s' → g.UpToSlots s'.heap → SameG r s' → E (.ref e) s'

/-- .. not in a loop -/
structure Rf1 (base : Heap) (l : List Env) (env : Env) (L : Addr) (g : Heap) (r : Shared) (A : Around) (E : Value → Shared → Prop) : Prop where
  f : Rf base l env L g r A E
  E1 : ∀ e s', Newly base (env :: l) e s' → g.UpToSlots s'.heap → SameG r s' → E (.ref e) s'

section
variable {w : World} {g base : Heap} {L : Addr} {m : Str → Option Value} {R R' : Led} {r s s0 : Shared} {A : Around} {E : Value → Shared → Prop} {Q : Value → Shared → Prop} {k : Nat} {l : List Env} {env : Env} {e : Addr} {M : Model}

theorem upto_hide (S : St w g L m R r s) : g.UpToSlots (hideAll s.heap (R.map (·.1))) := .of_keeps fun b o q => hideAll_get _ (S.F.keep b o q) (not_mem_of_N S.N q)

theorem none_base (S : St w g L m R r s) (hb : base.StaysIn g) : base.get? L = none := by
  cases hq : base.get? L with
  | none => rfl
  | some o => exact absurd (Nat.lt_of_lt_of_le (Heap.lt_size (hb L o hq)) S.F.above) (Nat.lt_irrefl _)

theorem Rf.below (X : Rf base l env L g r A E) (S : St w g L m R r s) : Below A base (env :: l) (hideAll s.heap (R.map (·.1))) := by
  refine ⟨X.stack, fun b o q => hideAll_get _ (S.F.keep b o (X.stays b o q)) (not_mem_of_N S.N (X.stays b o q)), X.kind, ?_, ?_⟩
  · obtain ⟨o, es, ep, hL, hd⟩ := S.F.ns
    refine ⟨L, o, X.fr, none_base S X.stays, hideAll_get _ hL fun q => ?_, fun vs q => by rw [hd.1] at q; cases q⟩
    obtain ⟨p, hp, h⟩ := List.mem_map.mp q
    exact (S.N p hp).2.1 h
  · exact X.frames.of_keeps fun b o q _ => ⟨o, hideAll_get _ (S.F.keep b o q) (not_mem_of_N S.N q), rfl⟩

theorem Rf.rz (X : Rf base l env L g r A E) (S : St w g L m R r s) : Rz base (env :: l) A E R s :=
  ⟨X.below S, fun e s' fl u q => X.E e s' (.inl fl) ((upto_hide S).trans u) ⟨q.1.trans S.rest.1, q.2.trans S.rest.2.2⟩⟩

/-- out of the frame -/
theorem leaves_any {Q : Unit → Shared → Prop} (hst : A.frames = some (env :: l)) (hf : env.frame = some L) (h : Fly base (env :: l) e s ∨ Held base (env :: l) L e s)
    (hQ : ∀ s', Fly base l e s' → s.heap.UpToSlots s'.heap → SameG s s' → Q () s') : wpAny M A (leaving env (.ref e)) Q E s := by
  rcases h with ⟨a0, h⟩ | ⟨a0, h⟩
  · exact wpAny_leaves_onW hst hf h fun h' x u => hQ _ ⟨a0, x⟩ u ⟨rfl, rfl⟩
  · unfold leaving
    refine wpAny_bind (wpAny_noteFrame_againW hf h.2.2.2 ?_)
    refine wpAny_landsW h fun h' hfl u => hQ _ ⟨a0, ?_⟩ u ⟨rfl, rfl⟩
    obtain ⟨k1, k2, ⟨_, _, k3⟩, k4⟩ := hfl
    exact ⟨k1, k2, k3, k4⟩
theorem leaves_new {Q : Unit → Shared → Prop} (hst : A.frames = some (env :: l)) (hf : env.frame = some L) (h : Newly base (env :: l) e s)
    (hQ : ∀ s', Fly base l e s' → s.heap.UpToSlots s'.heap → SameG s s' → Q () s') : wpAny M A (leaving env (.ref e)) Q E s := by
  obtain ⟨oe, vs, a0, h1, h2, h3, h4, h5, h6, h7, h8⟩ := h
  refine wpAny_leaving_firstW hst h2 hf h4 h1 h3 h6 h7 h8 fun h' hL => ?_
  obtain ⟨k1, ⟨_, _, k2⟩, k3, k4⟩ := hL
  exact hQ _ ⟨a0, k1, h3, k2, h5 ▸ k3⟩ k4 ⟨rfl, rfl⟩

theorem setFlight_held {Q : Unit → Shared → Prop} (h : Held base l L e s) (hQ : ∀ s', Held base l L e s' → s.heap.UpToSlots s'.heap → SameG s s' → Q () s') : wpAny M A (do
    if (← field (.ref e) 1) == .none then unsupported "frame.own-activation:exception-without-traceback"
    setFlight (.ref e) (some L)) Q E s := by
  obtain ⟨a0, hkb, hen, hl, ht⟩ := h
  obtain ⟨oe, vs, T, oT, ts, he, hcls, hd, h1, hnT, hTe, hT, hdT, h3⟩ := ht
  have hsz3 : 3 < ts.size := (Array.getElem?_eq_some_iff.mp h3).1
  have other : ∀ b, b ≠ T → (s.heap.update T (Obj.mapFields (·.setIfInBounds 3 ((some L : Option Addr).elim Value.none fun f => rawInt f)))).get? b = s.heap.get? b :=
    fun b hb => Heap.get?_update_other _ _ (Ne.symm hb)
  have noRecord : ∀ b o, s.heap.get? b = some o → (∀ vs, o.data ≠ .fields vs) → b ≠ T := fun b o hb hnf q => by
    rw [q, hT] at hb; injection hb with hb; subst hb; exact hnf ts hdT
  refine wpAny_bind (wpAny_field he hd h1 ?_)
  rw [if_neg (by simp)]
  unfold setFlight
  refine wpAny_bind (wpAny_field he hd h1 ?_)
  rw [if_pos (show (Value.ref T != Value.none) = true from by simp)]
  refine wpAny_setField hT hdT hsz3 (hQ _ ⟨a0, (fun b o hbo => (other b fun q => by rw [q, hnT] at hbo; cases hbo).trans (hkb b o hbo)), hen,
    (hl.of_keeps fun b o hb hnf => ⟨o, (other b (noRecord b o hb hnf)).trans hb, rfl⟩), ?_⟩ (fun b o hb hnf => ⟨o.slots, (other b (noRecord b o hb hnf)).trans hb⟩) ⟨rfl, rfl⟩)
  exact ⟨oe, vs, T, _, _, (other e (Ne.symm hTe)).trans he, hcls, hd, h1, hnT, hTe, Heap.get?_update_self _ hT (Obj.isFreed_of_fields (Obj.data_mapFields hdT _)), Obj.data_mapFields hdT _, by simp [hsz3]⟩

theorem notes_any {Q : Unit → Shared → Prop} (hst : A.frames = some (env :: l)) (hf : env.frame = some L) (h : Fly base (env :: l) e s ∨ Held base (env :: l) L e s)
    (hQ : ∀ s', Held base (env :: l) L e s' → s.heap.UpToSlots s'.heap → SameG s s' → Q () s') : wpAny M A (noteFrame (.ref e) env) Q E s := by
  rcases h with ⟨a0, h⟩ | ⟨a0, h⟩
  · exact wpAny_looks_onW hst hf h fun h' x u => hQ _ ⟨a0, x⟩ u ⟨rfl, rfl⟩
  · exact wpAny_noteFrame_againW hf h.2.2.2 (hQ _ ⟨a0, h⟩ (.refl _) ⟨rfl, rfl⟩)

/-- the body of a while -/
theorem Rf.noted (X : Rf base l env L g r A E) : Rf base l env L g r A (notedC M A env fun e s' => cameBackC M A env E e s') := by
  refine ⟨X.stack, X.fr, X.kind, X.stays, X.frames, fun e s' h u q => ?_⟩
  unfold notedC
  refine wpC_of (notes_any X.stack X.fr h fun s₂ h₂ u₂ q₂ => ?_)
  unfold cameBackC
  rw [X.fr]
  exact wpC_of (setFlight_held h₂ fun s₃ h₃ u₃ q₃ => X.E e s₃ (.inr h₃) ((u.trans u₂).trans u₃) ((q.trans q₂).trans q₃))

theorem y_whileR {Q : Flow → Shared → Prop} {rest : List Stmt} {test : Expr} {body : List Stmt} {pos : Pos} (X : Rf base l env L g r A E)
    (I : Nat → Shared → Prop) (n : Nat) (h : I n s)
    (turn : ∀ n s E' (N : Shared → Prop), (∀ {s}, Nx I n s → N s) → I n s → Rf base l env L g r A E' → wpC (model pw w) A (isTrue test env (eval test env)) (fun b s₂ =>
      if b then wpC (model pw w) A (execs body env) (fun f s₃ => match f with
            | .next | .cont => N s₃
            | .brk => wpC (model pw w) A (execs rest env) Q E s₃
            | .ret v => Q (.ret v) s₃) E' s₂
      else wpC (model pw w) A (execs rest env) Q E s₂) E' s) :
    wpC (model pw w) A (execs (.While test body [] pos :: rest) env) Q E s := by
  refine y_cons ?_
  rw [exec_While]
  refine wpC_bind (wpC_standAt (wpC_runOwn (codeC_whileLoop I (fun n s hI => wpC_mono (turn n s _ (Nx I n) (fun h => h) hI X.noted) (fun b s₂ h₂ => ?_) fun _ _ x => x) n h) rfl))
  cases b with
  | true => simp only [if_true] at h₂ ⊢; exact wpC_mono h₂ (fun f s₃ h₃ => by cases f <;> first | exact h₃ | exact (let ⟨m, a, b⟩ := h₃; ⟨m, a, b⟩)) fun _ _ x => x
  | false => simp only [Bool.false_eq_true, if_false] at h₂ ⊢; exact y_nil h₂
end
section
variable {w : World} {A : Around} {R : Led} {s : Shared} {Q E : Value → Shared → Prop} {k : Nat} {base : Heap} {l : List Env}
  {name qual : Str} {params : Arguments} {body : List Stmt} {scope : Scope} {dV kV doc pm cdv ct oc : Value} {an od : Option Addr} {osl : Array (Option Value)} {f : Addr} {args : List Value} {binds lb : List (Str × Value)}
/-- a def in which an error may be raised -/
theorem enterCR (rm : Rm A (k + 1)) (H : Hs w R s) (Z : Rz base l A E R s)
    (ho : (LX.hdC.heap_1 w.params).lookup f = some ⟨oc, od, .func (fnOf name qual params body scope dV kV doc pm an cdv ct), osl⟩)
    (hcd : codeIn (LX.hdC.heap_1 w.params) cdv qual = true)
    (hbind : BindsTo s (fnOf name qual params body scope dV kV doc pm an cdv ct) ⟨args, []⟩ binds) (hloc : ∀ y ∈ binds, scope.names.lookup y.1 = some .local)
    (hcell : ∀ x ∈ scope.names, x.2 ≠ .cell) (hco : scope.isCoroutine = false) (hgen : scope.isGenerator = false) (hk : scope.kind = .function)
    (hlb : binds.reverse = lb)
    (h : ∀ L s1 E' A', St w (hideAll s.heap (R.map (·.1))) L (Lm lb) R s s1 → Rm A' k → Rf1 base l (envOf qual scope L f cdv) L (hideAll s.heap (R.map (·.1))) s A' E' →
      wpC (model PySem.Challenge.pw_nt0646_01 w) A' (execs body (envOf qual scope L f cdv)) (RetQ Q) E' s1) :
    wpC (model PySem.Challenge.pw_nt0646_01 w) A (call (.ref f) args) Q E s := by
  obtain ⟨p, loose, mg, mb, T⟩ := H.base.T
  have hs : ∀ a o, (hideAll s.heap (R.map (·.1))).get? a = some o → s.heap.get? a = some o := fun a o e => of_hideAll _ e
  refine wpC_call (codeC_call_def (fd := fnOf name qual params body scope dV kV doc pm an cdv ct) (body := body) (binds := binds) (by have := rm.d; lia) ((H.base.X.keeps hs) _ _ ho) rfl (T.nolimit.keeps hs) hco hgen rfl (codeRec_of (H.base.X.keeps hs) hcd) hbind hcell hloc hk (fun h₁ hns hk₁ => ?_))
  subst hlb
  have S : St w (hideAll s.heap (R.map (·.1))) s.heap.objs.size (Lm binds.reverse) R s { s with heap := h₁, toks := s.toks + binds.length } := ⟨H.base, ⟨hns, fun b o e => hk₁ b o (hs b o e), Nat.le_of_eq (hideAll_size _ _)⟩, fun q hq => ⟨hk₁ _ _ (H.led q hq), Nat.ne_of_lt (Heap.lt_size (H.led q hq)), hideAll_none _ (List.mem_map_of_mem hq)⟩, H.nd, rfl, rfl, rfl⟩
  have hst : (A.deeper (envOf qual scope s.heap.objs.size f cdv)).frames = some (envOf qual scope s.heap.objs.size f cdv :: l) := Around.frames_deeper Z.K.stack
  refine wpC_mono (h s.heap.objs.size { s with heap := h₁, toks := s.toks + binds.length } _ _ S rm.deeper ⟨⟨hst, rfl, (by show scope.kind ≠ .module; rw [hk]; decide), Z.K.stays, Z.K.frames, ?_⟩, ?_⟩)
    (fun fl s' hl => hl) (fun _ _ x => x)
  · intro e s' hx u q
    exact wpC_of (leaves_any hst rfl hx fun s₂ h₂ u₂ q₂ => Z.E e s₂ h₂ (u.trans u₂) (q.trans q₂))
  · intro e s' hx u q
    exact wpC_of (leaves_new hst rfl hx fun s₂ h₂ u₂ q₂ => Z.E e s₂ h₂ (u.trans u₂) (q.trans q₂))
end
section
variable {w : World} {g : Heap} {L : Addr} {m : Str → Option Value} {R R' pre post : Led} {r s s0 : Shared} {A : Around} {E : Value → Shared → Prop} {Q : Value → Shared → Prop} {k : Nat} {a x dx lim fa : Addr} {t t1 t2 tt tc k1 k2 u : Tok} {text b : List UInt8} {kind value v : Value} {e : Bool} {items vs : List Value} {n : Nat} {c d z : Int} {ns : List Int}
theorem o_fdiv (S : St w g L m R r s) (hd : d ≠ 0) (hz : d.natAbs < 1073741824) (h : ∀ s' t, St w g L m R r s' → Q (.int (c.fdiv d) t) s') : wpAny (model pw w) A (binaryOp .FloorDiv (.int c t1) (.int d t2)) Q E s := by
  with_reducible exact PyProof.Rows.floordiv_int hd (h _ _ (S.tok _)) (.inl (PyProof.noPylong_small hz))
theorem o_abs (S : St w g L m R r s) (h : ∀ s' t, St w g L m R r s' → Q (.int (c.natAbs : Int) t) s') : wpAny (model pw w) A (call (.builtin "abs") [.int c t1]) Q E s := by
  with_reducible refine PyProof.Rows.call_abs_int (fun u tk => ?_)
  have : (if c < 0 then -c else c) = (c.natAbs : Int) := by split <;> lia
  rw [this]
  exact h _ _ (S.tok _)
theorem o_isi_int_bytes (S : St w g L m R r s) (h : ∀ s', St w g L m R r s' → Q (.bool false) s') : wpAny (model pw w) A (call (.builtin "isinstance") [.int c t, .type "bytes"]) Q E s := by
  with_reducible exact IsiPair.int_bytes (h _ (S.tok _))
theorem o_isi_int_bool (S : St w g L m R r s) (h : ∀ s', St w g L m R r s' → Q (.bool false) s') : wpAny (model pw w) A (call (.builtin "isinstance") [.int c t, .type "bool"]) Q E s := by
  with_reducible exact IsiPair.int_bool (h _ (S.tok _))
theorem o_isi_int_int (S : St w g L m R r s) (h : Q (.bool true) s) : wpAny (model pw w) A (call (.builtin "isinstance") [.int c t, .type "int"]) Q E s := by
  with_reducible exact IsiPair.int_int h
theorem m_lreverse {pl : Sem Bool} {Q : Value × List Value → Shared → Prop} (S : St w g L m R r s) (hm : (fa, lstO items n) ∈ R) (h : Q (.builtin "list.reverse", [.ref fa]) s) : wpAny (model pw w) A (getMethod (.ref fa) "reverse" pl) Q E s :=
  listMethod_K S.N hm PySem.F.slot_list_reverse PySem.F.type_list_reverse h
theorem o_lreverse (S : St w g L m ((fa, lstO items n) :: R) r s) (hz : items.length ≤ 1000000) (h : ∀ s' n', St w g L m ((fa, lstO items.reverse n') :: R) r s' → Q .none s') : wpAny (model pw w) A (call (.builtin "list.reverse") [.ref fa]) Q E s := by
  have hl := St.lst S (.head _)
  have ho : s.heap.get? fa = some (lstO items n) := (S.N _ (.head _)).1
  have nd := S.nd
  have hsz : items.toArray.size ≤ sizeLine := by rw [List.size_toArray, sizeLine_eq]; lia
  obtain ⟨n', e1⟩ : ∃ n', Obj.mapSeq (fun x => x.reverse) (lstO items n) = lstO items.reverse n' := ⟨_, by
    show ({ cls := .type "list", dict := none, data := .seq (items.toArray.reverse) _, slots := #[] } : Obj) = _
    rw [List.reverse_toArray]⟩
  obtain ⟨F', N'⟩ := news_upd (pre := []) (f := Obj.mapSeq (fun x => x.reverse)) (o' := lstO items.reverse n') S.F S.N (fun p hp => by cases hp) (fun p hp e => (List.nodup_cons.mp nd).1 (List.mem_map.mpr ⟨p, hp, e⟩)) e1 rfl
  refine wpAny_call_entry PySem.F.slot_list_reverse hl.typeIs PySem.F.entry_list_reverse ?_ (PySem.F.args_list_reverse_1 _)
  show wpAny _ _ (updateSeq fa (fun x => x.reverse) >>= fun _ => ret .none) _ _ s
  refine wpAny_bind ?_
  refine wpAny_updateSeq ho rfl (wpAny_pure ⟨.none, rfl, h _ n' (S.heap s.toks F' N' (by simpa using S.nd))⟩)

theorem ints_app {vs vs' : List Value} {ns ns' : List Int} (h : IntsAre vs ns) (h' : IntsAre vs' ns') : IntsAre (vs ++ vs') (ns ++ ns') := by
  induction h with
  | nil => exact h'
  | cons n t _ ih => exact .cons n t ih
theorem ints_rev {vs : List Value} {ns : List Int} (h : IntsAre vs ns) : IntsAre vs.reverse ns.reverse := by
  induction h with
  | nil => exact .nil
  | cons n t _ ih => rw [List.reverse_cons, List.reverse_cons]; exact ints_app ih (.cons n t .nil)
theorem ints_len {vs : List Value} {ns : List Int} (h : IntsAre vs ns) : vs.length = ns.length := by
  induction h with
  | nil => rfl
  | cons n t _ ih => rw [List.length_cons, List.length_cons, ih]
theorem St.kl (S : St w g L m R r s) (h : (LX.hdC.heap_1 w.params).lookup a = some (lstO vs n)) : s.heap.IsList a vs.toArray := ⟨_, S.Xs _ _ h, rfl, n, rfl⟩
theorem o_len_list {items : Array Value} (S : St w g L m R r s) (hl : s.heap.IsList a items) (hz : items.size ≤ 1000000) (h : ∀ s' t, St w g L m R r s' → Q (.int items.size t) s') : wpAny (model pw w) A (call (.builtin "len") [.ref a]) Q E s := by
  with_reducible exact PyProof.Rows.len_list hl (by lia) (h _ _ (S.tok _))
theorem o_item_list {items : Array Value} {value slice : Expr} {z : Int} (_S : St w g L m R r s) (hl : s.heap.IsList a items) (h0 : 0 ≤ z) (hz : z < 2 ^ 63) (hx : items[z.toNat]? = some v) (h : Q v s)
    (hs : subscripted slice false (.ref a) (.int z u) = operate [.ref a, .int z u] (getItem (.ref a) (.int z u))) (hg : ∀ r, letTemporaryGo value (.ref a) r = pure ()) :
    wpAny (model pw w) A (subscriptTail value slice (.ref a) (.int z u)) Q E s :=
  PyProof.Rows.item_list hl h0 hz hx h hs hg
noncomputable abbrev OTHL : List Value := [.bytes #[46, 46] 483, .bytes #[46, 46, 46] 484, .bytes #[61, 61] 485, .bytes #[62, 61] 486, .bytes #[60, 61] 487, .bytes #[126, 61] 488, .bytes #[60, 110, 117, 109, 98, 101, 114, 62] 489, .bytes #[60, 110, 97, 109, 101, 62] 490, .bytes #[60, 115, 116, 114, 105, 110, 103, 62] 491, .bytes #[60, 101, 111, 102, 62] 492]
theorem oth_at {w : World} : (LX.hdC.heap_1 w.params).lookup 182 = some (lstO OTHL 0) := by kernel_rfl!
theorem c_is_number (rm : Rm A (k + 3)) (H : Hs w R s0) (h : ∀ s', Ef R s0 R s' → Q (.bool true) s') : wpAny (model pw w) A (call (.ref 96) [.int z t]) Q E s0 := by
  refine' enter (binds := [("value", .int z t)]) (lb := [("value", .int z t)]) rm H ?ho ?hcd ?hb ?hl ?hc ?h1 ?h2 ?h3 ?hr ?_
  walk_at "fn"
  intro L s E A S rm
  walk_at "stp"
  with_reducible refine o_isi_int_int S ?_
  walk_at "stp"
  with_reducible refine o_isi_int_bool S ?_
  intro s S
  walk_at "stp"
  with_reducible refine PyProof.Rows.not_of ?_
  walk_at "stp"
  exact h _ S.ef
theorem c_number_text (rm : Rm A (k + 3)) (H : Hs w R s0) (hz : 0 ≤ z) (hz2 : z < 100000000) (h : ∀ s' (b : List UInt8) t, Ef R s0 R s' → b.length ≤ 100 → Q (.bytes b.toArray t) s') : wpAny (model pw w) A (call (.ref 152) [.int z t]) Q E s0 := by
  refine' enter (binds := [("n", .int z t)]) (lb := [("n", .int z t)]) rm H ?ho ?hcd ?hb ?hl ?hc ?h1 ?h2 ?h3 ?hr ?_
  walk_at "fn"
  intro L s E A S rm
  with_reducible refine x_tupS (names := ["left", "found"]) ?_ rfl (by kernel_rfl!)
  walk_at "stp"
  with_reducible refine (o_abs S ?_)
  intro s t1 S
  walk_at "stp"
  obtain ⟨fa, S⟩ : ∃ fa, St w (hideAll s0.heap (R.map (·.1))) L (Lm [("left", .int z.natAbs t1), ("found", .ref fa), ("n", .int z t)]) ((fa, lstO [] 0) :: R) s0 _ := ⟨_, S.drop⟩
  with_reducible refine x_while (fun n s => E7 fun (left : Int) (vs : List Value) (ns : List Int) (cap j : Nat) (ls : List (Str × Value)) (t' : Tok) => A10 (IntsAre vs ns) ((∀ x ∈ ns, 48 ≤ x ∧ x < 58)) (0 ≤ left) (left < 10 ^ j) (ns.length + j = 8) (n = left.toNat) (St w (hideAll s0.heap (R.map (·.1))) L (Lm ls) ((fa, lstO vs cap) :: R) s0 s) (Lm ls "left" = some (.int left t')) (Lm ls "found" = some (.ref fa)) (Lm ls "n" = some (.int z t))) z.natAbs ?_ ?_
  · exact ⟨z.natAbs, [], [], 0, 8, _, t1, .nil, (fun x hx => by cases hx), by lia, by lia, rfl, by lia, S, by walk_at "lm", by walk_at "lm", by walk_at "lm"⟩
  clear S
  intro n s E' N hN hI
  obtain ⟨left, vs, ns, cap, j, ls, t', hi, hr, h0, h1, hj, rfl, S, m1, m2, m3⟩ := hI
  have hlen := ints_len hi
  walk_at "stp"
  refine ite_d (fun hc => ?_) (fun hc => ?_)
  · walk_at "stp"
    with_reducible refine m_lappend S List.mem_cons_self ?_
    walk_at "stp"
    with_reducible refine o_mod S (by decide) ?_
    intro s t2 S
    walk_at "stp"
    refine (o_lappend (pre := []) (fa := fa) (items := vs) (n := cap) (post := R) S (by lia) ?_)
    intro s cap' S
    refine ⟨rfl, ?_⟩
    walk_at "stp"
    with_reducible refine o_fdiv S (by decide) (by decide) ?_
    intro s t3 S
    walk_at "stp"
    have hm0 : left.fmod 10 = left % 10 := Int.fmod_eq_emod_of_nonneg _ (by decide)
    have hd : left.fdiv 10 = left / 10 := Int.fdiv_eq_ediv_of_nonneg _ (by decide)
    rw [hd] at S
    have hj0 : j ≠ 0 := by rintro rfl; simp at h1; lia
    obtain ⟨j, rfl⟩ := Nat.exists_eq_succ_of_ne_zero hj0
    rw [Nat.succ_eq_add_one, Int.pow_succ] at h1
    exact hN ⟨(left / 10).toNat, by lia, left / 10, _, ns ++ [48 + left.fmod 10], cap', j, _, t3, ints_app hi (.cons _ _ .nil), (fun x hx => by
      rcases List.mem_append.mp hx with hx | hx
      · exact hr x hx
      · rw [List.mem_singleton.mp hx]; lia), by lia, by lia, by rw [List.length_append, List.length_singleton]; lia, rfl, S, by walk_at "lm", by walk_at "lm", by walk_at "lm"⟩
  · walk_at "stp"
    with_reducible refine m_lappend S List.mem_cons_self ?_
    walk_at "stp"
    refine (o_lappend (pre := []) (fa := fa) (items := vs) (n := cap) (post := R) S (by lia) ?_)
    intro s cap' S
    refine ⟨rfl, ?_⟩
    walk_at "stp"
    refine ite_dn (by lia) ?_
    walk_at "stp"
    with_reducible refine m_lreverse S List.mem_cons_self ?_
    walk_at "stp"
    refine (mb0 ?_)
    dsimp only [List.cons_append, List.nil_append]
    with_reducible refine (o_lreverse S (by rw [List.length_append, List.length_singleton]; lia) ?_)
    intro s cap2 S
    refine ⟨rfl, ?_⟩
    walk_at "stp"
    with_reducible refine o_bytes_ints S rm.h List.mem_cons_self (ints_rev (ints_app hi (.cons _ _ .nil))) ?_ ?_ ?_
    · intro x hx
      rw [List.mem_reverse] at hx
      rcases List.mem_append.mp hx with hx | hx
      · have := hr x hx; lia
      · rw [List.mem_singleton.mp hx]; lia
    · rw [List.length_reverse, List.length_append, List.length_singleton]; lia
    intro s t4 S
    exact h _ _ _ S.drop.ef (by rw [List.length_map, List.length_reverse, List.length_append, List.length_singleton]; lia)
theorem c_to_text (rm : Rm A (k + 4)) (H : Hs w R s0) (hz : 0 ≤ z) (hz2 : z < 100000000) (h : ∀ s' (b : List UInt8) t, Ef R s0 R s' → b.length ≤ 100 → Q (.bytes b.toArray t) s') : wpAny (model pw w) A (call (.ref 159) [.int z t]) Q E s0 := by
  refine' enter (binds := [("value", .int z t)]) (lb := [("value", .int z t)]) rm H ?ho ?hcd ?hb ?hl ?hc ?h1 ?h2 ?h3 ?hr ?_
  walk_at "fn"
  intro L s E A S rm
  walk_at "stp"
  with_reducible refine o_isi_int_bytes S ?_
  intro s S
  walk_at "stp"
  with_reducible refine c_is_number rm.one S.hs fun s e => ?_
  have S := S.call e
  walk_at "stp"
  with_reducible refine c_number_text (k := k) (rm.le (by lia)) S.hs hz hz2 fun s b t e hb => ?_
  have S := S.call e
  exact h _ _ _ S.ef hb
theorem c_token_text (rm : Rm A (k + 4)) (H : Hs w R s0) (h : ∀ s' (b : List UInt8) t, Ef R s0 R s' → b.length ≤ 100 → Q (.bytes b.toArray t) s') : wpAny (model pw w) A (call (.ref 245) [.int 287 t]) Q E s0 := by
  refine' enter (binds := [("kind", .int 287 t)]) (lb := [("kind", .int 287 t)]) rm H ?ho ?hcd ?hb ?hl ?hc ?h1 ?h2 ?h3 ?hr ?_
  walk_at "fn"
  intro L s E A S rm
  walk_at "stp"
  refine ite_dn (by lia) ?_
  walk_at "stp"
  have i1 := S.kl res_at
  with_reducible refine o_len_list S i1 (by decide) ?_
  intro s t2 S
  walk_at "stp"
  refine ite_dn (by decide) ?_
  walk_at "stp"
  have i1 := S.kl res_at
  with_reducible refine o_len_list S i1 (by decide) ?_
  intro s t2 S
  walk_at "stp"
  have i2 := S.kl oth_at
  with_reducible refine o_item_list (v := .bytes #[60, 101, 111, 102, 62] 492) S i2 (by decide) (by decide) (by decide) ?_ ?_ ?_
  · exact h _ [60, 101, 111, 102, 62] _ S.ef (by decide)
  · rfl
  · exact fun _ => rfl
end
section
variable {w : World} {g base : Heap} {L : Addr} {m : Str → Option Value} {R R' pre post : Led} {r s s0 : Shared} {A : Around} {E : Value → Shared → Prop} {Q : Value → Shared → Prop} {k : Nat} {a x dx lim fa : Addr} {t t1 t2 tt tc k1 k2 u : Tok} {text b : List UInt8} {kind value v : Value} {e : Bool} {items vs : List Value} {n : Nat} {c d z : Int} {ns : List Int} {i : Id} {σ σ' : Lx} {buf bf : List UInt8} {l : List Env}
noncomputable abbrev excF (t : Addr) : Array Value := #[.ref t, .none, .none, .none, .bool false, .none]
theorem y_raise {Q : Flow → Shared → Prop} {ex : Expr} {pos : Pos} {rest : List Stmt} {ev : Env} (hh : A.handled = none)
    (h : wpAny (model pw w) A (eval ex ev) (fun v s₁ => ∃ (e : Addr) (d : Option Addr) (t : Addr), v = .ref e ∧ s₁.heap.get? 87 = some lseObj ∧ s₁.heap.get? e = some (eo d (excF t)) ∧ E (.ref e) s₁) E s) :
    wpC (model pw w) A (execs (.Raise (some ex) none pos :: rest) ev) Q E s := by
  refine y_cons (wpC_of ?_)
  rw [arm_exec_Raise]
  refine wpAny_bind (wpAny_standAt ?_)
  show wpAny _ _ (raiseStmt ev (some (eval ex ev >>= fun v => standAt pos >>= fun _ => pure v)) none) _ _ _
  have hcB : (Value.ref 87 :: lseTail).contains (.type "BaseException") = true := by decide
  unfold raiseStmt
  refine wpAny_bind (wpAny_bind (wpAny_mono h (fun v s₁ h₁ => wpAny_bind (wpAny_standAt (wpAny_pure ?_))) fun _ _ x => x))
  obtain ⟨e, d, t, rfl, hC, he, hE⟩ := h₁
  obtain ⟨hp, g, dr, tk, os⟩ := s₁
  repeat (first | with_reducible refine wpAny_loadPart_at he ?_ | with_reducible refine wpAny_loadPart_at hC ?_ | (with_reducible refine wpAny_isSubtype_exc hC ?_; rw [hcB]) | wp_step)
  exact wpAny_raiseNew_none hh hE
theorem c_lse (rm : Rm A (k + 2)) (S : St w g L m R r s)
    (h : ∀ e d t s', St w g L m ((e, eo (some d) (excF t)) :: R) r s' → g.get? e = none → Q (.ref e) s') : wpAny (model pw w) A (call (.ref 87) [v]) Q E s := by
  obtain ⟨hp, g1, dr, tk, os⟩ := s
  refine lse_call S.Xs (fun h' e hm => ?_) (by rw [List.length_cons, List.length_nil, sizeLine_eq]; lia)
  obtain ⟨t, ht, htn, htt⟩ := hm.there
  have S1 : St w g L m ((e, eo none (excF t)) :: R) r ⟨h', g1, dr, tk, os⟩ := by
    have hnew := hm.new
    have hR : e ∉ R.map (·.1) := fun q => by
      obtain ⟨p, hp, rfl⟩ := List.mem_map.mp q
      rw [(S.N p hp).1] at hnew; cases hnew
    refine S.of_ef (s := ⟨hp, g1, dr, tk, os⟩) (fun b o _ q => hm.keeps b o q) (fun p hp => ?_) (List.nodup_cons.mpr ⟨hR, S.nd⟩)
    rcases List.mem_cons.mp hp with rfl | hp
    · exact ⟨ht, .inr hnew⟩
    · exact ⟨hm.keeps _ _ (S.N p hp).1, .inl (List.mem_map_of_mem hp)⟩
  refine c_exc_init (k := k) rm.under S1.hs fun d s' ef => ⟨rfl, ?_⟩
  have S2 := S1.call ef
  exact h e d t s' S2 (S2.N _ (.head _)).2.2
theorem c_near_text (rm : Rm A (k + 5)) (H : Hs w (lexL w.params i σ buf R) s0) (h : ∀ s' (b : List UInt8) t, Ef (lexL w.params i σ buf R) s0 (lexL w.params i σ buf R) s' → b.length ≤ 100 → Q (.bytes b.toArray t) s') : wpAny (model pw w) A (call (.ref 315) [.ref i.x, .int 287 t]) Q E s0 := by
  refine' enter (binds := [("self", .ref i.x), ("kind", .int 287 t)]) (lb := [("kind", .int 287 t), ("self", .ref i.x)]) rm H ?ho ?hcd ?hb ?hl ?hc ?h1 ?h2 ?h3 ?hr ?_
  walk_at "fn"
  intro L s E A S rm
  walk_at "stp"
  refine o_in S (lexL_rest List.mem_cons_self) (.cons _ _ (.cons _ _ (.cons _ _ .nil))) ?_
  rw [show ([285, 286, 284] : List Int).any (· == 287) = false from rfl]
  have S := S.dropL
  walk_at "stp"
  with_reducible refine c_token_text rm S.hs fun s b t e hb => ?_
  have S := S.call e
  exact h _ _ _ S.ef hb
theorem r_error (rm : Rm A (k + 6)) (H : Hs w (lexL w.params i σ buf R) s0) (Z : Rz base l A E (lexL w.params i σ buf R) s0) (h0 : 0 ≤ σ.line) (h1 : σ.line < 100000000) (hc : σ.chunk.length ≤ 1000) (ht : text.length ≤ 1000) :
    wpC (model pw w) A (call (.ref 301) [.ref i.x, .bytes text.toArray tt, .int 287 t]) Q E s0 := by
  refine' enterCR (binds := [("self", .ref i.x), ("text", .bytes text.toArray tt), ("kind", .int 287 t)]) (lb := [("kind", .int 287 t), ("text", .bytes text.toArray tt), ("self", .ref i.x)]) rm H Z ?ho ?hcd ?hb ?hl ?hc ?h1 ?h2 ?h3 ?hr ?_
  walk_at "fn"
  intro L s E A S rm X
  walk_at "stp"
  with_reducible refine o_addb (c := [58]) S (by simp only [List.length_cons, List.length_nil]; lia) ?_
  intro s t1 S
  walk_at "stp"
  with_reducible refine c_to_text (k := k) (rm.le (by lia)) S.hs h0 h1 fun s b1 t e hb => ?_
  have S := S.call e
  walk_at "stp"
  with_reducible refine o_addb S (by simp only [List.length_append, List.length_cons, List.length_nil]; lia) ?_
  intro s t2 S
  walk_at "stp"
  with_reducible refine o_addb (c := [58, 32]) S (by simp only [List.length_append, List.length_cons, List.length_nil]; lia) ?_
  intro s t3 S
  walk_at "stp"
  with_reducible refine o_addb S (by simp only [List.length_append, List.length_cons, List.length_nil]; lia) ?_
  intro s t4 S
  walk_at "stp"
  refine ite_by rfl ?_
  walk_at "stp"
  with_reducible refine o_addb (c := [32, 110, 101, 97, 114, 32, 39]) S (by simp only [List.length_append, List.length_cons, List.length_nil]; lia) ?_
  intro s t5 S
  walk_at "stp"
  with_reducible refine c_near_text (k := k) rm S.hs fun s b2 t e hb2 => ?_
  have S := S.call e
  walk_at "stp"
  with_reducible refine o_addb S (by simp only [List.length_append, List.length_cons, List.length_nil]; lia) ?_
  intro s t6 S
  walk_at "stp"
  with_reducible refine o_addb (c := [39]) S (by simp only [List.length_append, List.length_cons, List.length_nil]; lia) ?_
  intro s t7 S
  walk_at "stp"
  with_reducible refine y_raise rm.h ?_
  walk_at "stp"
  with_reducible refine c_lse (k := k + 3) rm S ?_
  intro e d t8 s S hn
  refine ⟨e, some d, t8, rfl, S.Xs _ _ lse_at, (S.N _ List.mem_cons_self).1, X.E1 e s ?_ ?_ ⟨S.rest.1, S.rest.2.2⟩⟩
  · exact ⟨_, _, _, fun b o q => S.F.keep b o (X.f.stays b o q), (X.f.below S).frames.of_keeps fun b o q _ => ⟨o, of_hideAll _ q, rfl⟩, fresh_of_stays X.f.stays hn, (S.N _ List.mem_cons_self).1, rfl, rfl, rfl, rfl⟩
  · exact .of_keeps S.F.keep
end
/-- a long bracket that the text's end cuts off -/
inductive Open (lv : Nat) : List UInt8 → Prop
  | eot : Open lv []
  | shut {l} : lev 93 l ≠ lv → Open lv (past l) → Open lv (93 :: l)
  | other {d l} : d ≠ 10 → d ≠ 13 → d ≠ 91 → d ≠ 93 → Open lv l → Open lv (d :: l)
/-- blanks, then a long comment that is not closed -/
inductive Cut (l : List UInt8) : Prop
  | mk {l' l3 : List UInt8} {lv : Nat} : Blanks l (45 :: 45 :: 91 :: l') → lev 91 l' = lv → past l' = 91 :: l3 → Open lv (eol1 l3) → Cut l
/-- tokens, then a long comment that is not closed -/
inductive Bad : List UInt8 → List (Int × TV) → Prop
  | nil {l} : Cut l → Bad l []
  | cons {l l' k v r ts} : Blanks l l' → One l' k v r → NoBlank l' → l' ≠ [] → Bad r ts → Bad l ((k, v) :: ts)
section
variable {text : List UInt8} {tt tc : Tok} {lim : Addr} {ts : List (Int × TV)} {w : World} {g base : Heap} {R R' : Led} {r s s0 : Shared} {A : Around} {E : Value → Shared → Prop} {Q : Value → Shared → Prop} {i : Id} {σ σ' : Lx} {buf bf l l' l1 rest ct : List UInt8} {c : UInt8} {k : Nat} {t : Tok} {n : Int} {a : Addr} {vs : List Value} {ns : List Int} {b : UInt8} {lv : Nat} {fr : List Env}
theorem r_read_long (rm : Rm A (k + 7)) (H : Hs w (lexL w.params i σ buf R) s0) (Z : Rz base fr A E (lexL w.params i σ buf R) s0) (hl : LimIn w σ.limits R) (hch : σ.chunk.length ≤ 1000) (V : Vw σ buf (b :: l)) (hL : Open lv (eol1 l)) :
    wpC (model pw w) A (call (.ref 434) [.ref i.x, .int lv t, .bool false]) Q E s0 := by
  refine' enterCR (binds := [("self", .ref i.x), ("level", .int lv t), ("is_text", .bool false)]) (lb := [("is_text", .bool false), ("level", .int lv t), ("self", .ref i.x)]) rm H Z ?ho ?hcd ?hb ?hl ?hc ?h1 ?h2 ?h3 ?hr ?_
  walk_at "fn"
  intro L s E A S rm X
  walk_at "stp"
  with_reducible refine c_keep_and_move rm.one S.hs hl V ?_
  intro s σ₁ e sm V₁
  have S := S.call e
  refine ⟨rfl, ?_⟩
  have e1 : σ₁.sign = sgn l := V₁.sign
  generalize hpre : buf ++ [b] = pre at S V₁
  with_reducible refine y_join (fun s => E1 fun σ₂ => A3 (Same σ σ₂) (Vw σ₂ pre (eol1 l)) (St w (hideAll s0.heap ((lexL w.params i σ buf R).map (·.1))) L (Lm [("is_text", .bool false), ("level", .int lv t), ("self", .ref i.x)]) (lexL w.params i σ₂ pre R) s0 s)) ?_ ?_
  · intro N hN
    walk_at "stp"
    with_reducible refine c_is_newline rm.one S.hs fun s e => ?_
    have S := S.call e
    walk_at "stp"
    refine ite_d (fun hd => ?_) (fun hd => ?_)
    · cases l with
      | nil => exfalso; rw [e1] at hd; simp [sgn] at hd
      | cons d l =>
        have e1 : σ₁.sign = d.toNat := V₁.sign
        rw [e1, toNat_10, toNat_13] at hd
        walk_at "stp"
        with_reducible refine wpC_of (c_end_line rm.one S.hs V₁ hd (by lia) ?_)
        intro s σ₂ e sm2 V₂
        have S := S.call e
        refine ⟨rfl, ?_⟩
        walk_at "stp"
        exact ⟨rfl, hN ⟨σ₂, sm.trans sm2, by rw [show eol1 (d :: l) = eol d l from if_pos hd]; exact V₂, S⟩⟩
    · walk_at "stp"
      have : eol1 l = l := by
        cases l with
        | nil => rfl
        | cons d l =>
          have e1 : σ₁.sign = d.toNat := V₁.sign
          rw [e1, toNat_10, toNat_13] at hd
          exact if_neg hd
      exact ⟨rfl, hN ⟨σ₁, sm, by rw [this]; exact V₁, S⟩⟩
  clear V₁ S e1
  intro s hP
  obtain ⟨σ₂, sm2, V₂, S⟩ := hP
  have z := V₂.bf
  walk_at "stp"
  with_reducible refine y_whileR X.f (fun n s => E6 fun (σ₂ : Lx) (l₂ bf : List UInt8) (v : Int) (ls : List (Str × Value)) (t' : Tok) => A9 (Open lv l₂) (Same σ σ₂) (Vw σ₂ bf l₂) (n = l₂.length) (St w (hideAll s0.heap ((lexL w.params i σ buf R).map (·.1))) L (Lm ls) (lexL w.params i σ₂ bf R) s0 s) (Lm ls "self" = some (.ref i.x)) (Lm ls "level" = some (.int lv t)) (Lm ls "is_text" = some (.bool false)) (Lm ls "begin" = some (.int v t'))) (eol1 l).length ?_ ?_
  · exact ⟨σ₂, eol1 l, _, _, _, _, hL, sm2, V₂, rfl, S, by walk_at "lm", by walk_at "lm", by walk_at "lm", by walk_at "lm"⟩
  clear S V₂ sm2 z
  intro n s E' N hN hI XE
  obtain ⟨σ₂, l₂, bf, v, ls, t', hl2, sm2, V₂, rfl, S, m1, m2, m3, m4⟩ := hI
  have e2 : σ₂.sign = sgn l₂ := V₂.sign
  have z := V₂.bf
  have hlim : LimIn w σ₂.limits R := by rw [sm2.limits]; exact hl
  walk_at "stp"
  have n91 : (91 : UInt8).toNat = 91 := rfl
  have n93 : (93 : UInt8).toNat = 93 := rfl
  cases hl2 with
  | eot =>
    have e2 : σ₂.sign = -1 := e2
    refine ite_dy (by lia) ?_
    walk_at "stp"
    have V0 := V₂.ln0
    have V1 := V₂.ln
    with_reducible refine r_error (k := k) rm S.hs (XE.rz S) V0 (by lia) (by rw [sm2.chunk]; exact hch) (by decide)
  | @shut l h1 h2 =>
    simp only [sgn] at e2
    refine ite_dn (by lia) ?_
    walk_at "stp"
    refine ite_dn (by lia) ?_
    walk_at "stp"
    refine ite_dy (by lia) ?_
    walk_at "stp"
    with_reducible refine c_read_level rm.one S.hs hlim V₂ ?_
    intro s σ₃ t3 e sm3 V₃
    have S := S.call e
    walk_at "stp"
    refine ite_dn h1 ?_
    walk_at "stp"
    exact hN ⟨_, by have := past_le l; simp only [List.length_cons]; lia, σ₃, _, _, _, ls, _, h2, sm2.trans sm3, V₃, rfl, S, m1, m2, m3, m4⟩
  | @other d1 l h1 h2 h3 h4 h5 =>
    simp only [sgn] at e2
    have i1 : (d1.toNat : Int) ≠ 10 := by rw [Ne, toNat_10]; exact h1
    have i2 : (d1.toNat : Int) ≠ 13 := by rw [Ne, toNat_13]; exact h2
    have i3 : (d1.toNat : Int) ≠ 91 := fun e => h3 (UInt8.toNat_inj.mp (by lia))
    have i4 : (d1.toNat : Int) ≠ 93 := fun e => h4 (UInt8.toNat_inj.mp (by lia))
    refine ite_dn (by lia) ?_
    walk_at "stp"
    refine ite_dn (by lia) ?_
    walk_at "stp"
    refine ite_dn (by lia) ?_
    walk_at "stp"
    with_reducible refine c_is_newline rm.one S.hs fun s e => ?_
    have S := S.call e
    walk_at "stp"
    refine ite_dn (by lia) ?_
    walk_at "stp"
    with_reducible refine wpC_of (e_move rm.one S.hs V₂ (by lia) ?_)
    intro s σ₃ e sm3 _ V₃
    have S := S.call e
    refine ⟨rfl, ?_⟩
    walk_at "stp"
    exact hN ⟨_, by simp only [List.length_cons]; lia, σ₃, _, _, _, ls, _, h5, sm2.trans sm3, V₃, rfl, S, m1, m2, m3, m4⟩
theorem r_skip_comment {l3 : List UInt8} (rm : Rm A (k + 9)) (H : Hs w (lexL w.params i σ [] R) s0) (Z : Rz base fr A E (lexL w.params i σ [] R) s0) (hl : LimIn w σ.limits R) (hch : σ.chunk.length ≤ 1000) (V : Vw σ [] (45 :: 45 :: 91 :: l)) (h1 : lev 91 l = lv) (h2 : past l = 91 :: l3) (hL : Open lv (eol1 l3)) :
    wpC (model pw w) A (call (.ref 385) [.ref i.x]) Q E s0 := by
  refine' enterCR (binds := [("self", .ref i.x)]) (lb := [("self", .ref i.x)]) rm H Z ?ho ?hcd ?hb ?hl ?hc ?h1 ?h2 ?h3 ?hr ?_
  walk_at "fn"
  intro L s E A S rm X
  walk_at "stp"
  with_reducible refine wpC_of (e_move rm.one S.hs V (by simp) ?_)
  intro s σ₁ e sm _ V₁
  have S := S.call e
  refine ⟨rfl, ?_⟩
  walk_at "stp"
  with_reducible refine wpC_of (e_move rm.one S.hs V₁ (by simp) ?_)
  intro s σ₂ e sm2 _ V₂
  have S := S.call e
  refine ⟨rfl, ?_⟩
  have sm := sm.trans sm2
  have e2 : σ₂.sign = 91 := V₂.sign
  walk_at "stp"
  refine ite_dy e2 ?_
  walk_at "stp"
  with_reducible refine c_read_level rm.one S.hs (by rw [sm.limits]; exact hl) V₂ ?_
  intro s σ₃ t3 e sm3 V₃
  have S := S.call e
  rw [h1] at *
  rw [h2] at V₃
  walk_at "stp"
  with_reducible refine c_clear rm.one S.hs V₃ ?_
  intro s σ₄ e sm4 V₄
  have S := S.call e
  refine ⟨rfl, ?_⟩
  have sm := (sm.trans sm3).trans sm4
  walk_at "stp"
  refine ite_dy (by lia) ?_
  walk_at "stp"
  with_reducible refine r_read_long rm.one S.hs (X.f.rz S) (by rw [sm.limits]; exact hl) (by rw [sm.chunk]; exact hch) V₄ hL
theorem r_skip_blank {l3 : List UInt8} (rm : Rm A (k + 10)) (H : Hs w (lexL w.params i σ [] R) s0) (Z : Rz base fr A E (lexL w.params i σ [] R) s0) (hl : LimIn w σ.limits R) (hch : σ.chunk.length ≤ 1000) (V : Vw σ [] (45 :: 45 :: 91 :: l)) (h1 : lev 91 l = lv) (h2 : past l = 91 :: l3) (hL : Open lv (eol1 l3)) :
    wpC (model pw w) A (call (.ref 371) [.ref i.x]) Q E s0 := by
  refine' enterCR (binds := [("self", .ref i.x)]) (lb := [("self", .ref i.x)]) rm H Z ?ho ?hcd ?hb ?hl ?hc ?h1 ?h2 ?h3 ?hr ?_
  walk_at "fn"
  intro L s E A S rm X
  walk_at "stp"
  with_reducible refine c_is_newline rm.one S.hs fun s e => ?_
  have S := S.call e
  have e0 : σ.sign = 45 := V.sign
  walk_at "stp"
  refine ite_dn (by lia) ?_
  walk_at "stp"
  with_reducible refine wpC_of (c_is_blank rm.one S.hs fun s b e hb => ?_)
  have S := S.call e
  walk_at "stp"
  refine ite_bn (Bool.eq_false_iff.mpr fun e => by have := hb.mp e; lia) ?_
  walk_at "stp"
  refine ite_dy (by lia) ?_
  walk_at "stp"
  with_reducible refine c_sign_behind rm.one S.hs V ?_
  intro s t e
  have S := S.call e
  walk_at "stp"
  refine ite_dy (by simp [sgn]) ?_
  walk_at "stp"
  with_reducible refine r_skip_comment rm.one S.hs (X.f.rz S) hl hch V h1 h2 hL
theorem r_read (rm : Rm A (k + 12)) (H : Hs w (lexL w.params i σ buf R) s0) (Z : Rz base fr A E (lexL w.params i σ buf R) s0) (hl : LimIn w σ.limits R) (hch : σ.chunk.length ≤ 1000) (V : Vw σ buf l) (hc : Cut l) :
    wpC (model pw w) A (call (.ref 364) [.ref i.x]) Q E s0 := by
  obtain ⟨hb, h1, h2, hL⟩ := hc
  refine' enterCR (binds := [("self", .ref i.x)]) (lb := [("self", .ref i.x)]) rm H Z ?ho ?hcd ?hb ?hl ?hc ?h1 ?h2 ?h3 ?hr ?_
  walk_at "fn"
  intro L s E A S rm X
  walk_at "sts"
  with_reducible refine c_clear rm.one S.hs V ?_
  intro s σ₁ e sm V₁
  have S := S.call e
  refine ⟨rfl, ?_⟩
  generalize hl1 : (45 :: 45 :: 91 :: _ : List UInt8) = l1 at hb
  with_reducible refine y_whileR X.f (fun n s => E2 fun (σ₂ : Lx) (l₂ : List UInt8) => A5 (Same σ σ₂) (Vw σ₂ [] l₂) (Blanks l₂ l1) (n = l₂.length) (St w (hideAll s0.heap ((lexL w.params i σ buf R).map (·.1))) L (Lm [("self", .ref i.x)]) (lexL w.params i σ₂ [] R) s0 s)) l.length ?_ ?_
  · exact ⟨σ₁, l, sm, V₁, hb, rfl, S⟩
  clear S V V₁ hb sm
  intro n s E' N hN hI XE
  obtain ⟨σ₂, l₂, sm, V₂, hb, rfl, S⟩ := hI
  walk_at "stp"
  have hlim : LimIn w σ₂.limits R := by rw [sm.limits]; exact hl
  cases hb with
  | cons h1 h2 =>
    with_reducible refine c_skip_blank rm.one S.hs hlim V₂ h1 ?_
    intro s σ₃ e sm3 V₃
    have S := S.call e
    walk_at "stp"
    exact hN ⟨_, h1.len, σ₃, _, sm.trans sm3, V₃, h2, rfl, S⟩
  | nil =>
    subst hl1
    with_reducible refine r_skip_blank rm.one S.hs (XE.rz S) hlim (by rw [sm.chunk]; exact hch) V₂ h1 h2 hL
theorem r_next (rm : Rm A (k + 13)) (H : Hs w (lexL w.params i σ buf R) s0) (Z : Rz base fr A E (lexL w.params i σ buf R) s0) (hl : LimIn w σ.limits R) (hch : σ.chunk.length ≤ 1000) (V : Vw σ buf l) (hc : Cut l) :
    wpC (model pw w) A (call (.ref 287) [.ref i.x]) Q E s0 := by
  refine' enterCR (binds := [("self", .ref i.x)]) (lb := [("self", .ref i.x)]) rm H Z ?ho ?hcd ?hb ?hl ?hc ?h1 ?h2 ?h3 ?hr ?_
  walk_at "fn"
  intro L s E A S rm X
  walk_at "stp"
  refine ite_bn rfl ?_
  walk_at "stp"
  have V' : ∀ t, Vw (σ.setLast σ.line t) buf l := fun t => ⟨V.pre, V.sign, V.fit, V.ln0, V.ln, V.bf⟩
  with_reducible refine r_read rm.one S.hs (X.f.rz S) hl hch (V' _) hc
theorem r_all_tokens (rm : Rm A (k + 15)) (H : Hs w R s0) (Z : Rz base fr A E R s0) (hl : LimIn w lim R) (hz : text.length ≤ 800000) (ht : Bad text ts) (hn : ts.length ≤ 1000) :
    wpC (model pw w) A (call (.ref 476) [.bytes text.toArray tt, .bytes #[61, 113] tc, .ref lim]) Q E s0 := by
  refine' enterCR (binds := [("text", .bytes text.toArray tt), ("chunk", .bytes #[61, 113] tc), ("limits", .ref lim)]) (lb := [("limits", .ref lim), ("chunk", .bytes #[61, 113] tc), ("text", .bytes text.toArray tt)]) rm H Z ?ho ?hcd ?hb ?hl ?hc ?h1 ?h2 ?h3 ?hr ?_
  walk_at "fn"
  intro L s E A S rm X
  with_reducible refine y_tupS (names := ["lexer", "found"]) ?_ rfl (by kernel_rfl!)
  with_reducible refine y_Tuple2 ?_ rfl
  walk_at "stp"
  obtain ⟨f1, f2, f3⟩ := lex_cls (w := w)
  with_reducible refine y_make (k := 13) rm.one S f1 f2 f3 fun x dx s' A' S' rm' => ?_
  refine init_lexer (k := 5) rm'.one S'.hs hz fun n σ d o kvs s e hk hlm hck hd hdo hkv V => ⟨rfl, ?_⟩
  have S := S'.call e
  clear S' e s'
  walk_at "stb"
  have S := S.drop.into
  generalize hi : (⟨x, dx, n⟩ : Id) = i at S
  obtain rfl : x = i.x := by rw [← hi]
  have hkin : KindsIn w σ.kinds ((d, o) :: R) := ⟨o, kvs, by rw [hk]; exact .head _, by rw [hk]; exact hd, hdo, hkv⟩
  have hlim : LimIn w σ.limits ((d, o) :: R) := by rw [hlm]; exact hl.tail
  generalize hR2 : ((d, o) :: R) = R2 at S hkin hlim
  obtain ⟨fa, S⟩ : ∃ fa, St w (hideAll s0.heap (R.map (·.1))) L (Lm [("lexer", .ref i.x), ("found", .ref fa), ("limits", .ref lim), ("chunk", .bytes #[61, 113] tc), ("text", .bytes text.toArray tt)]) (lexL w.params i σ [] ((fa, lstO [] 0) :: R2)) s0 _ := ⟨_, S⟩
  walk_at "sts"
  cases ht with
  | nil hc =>
    with_reducible refine r_next rm.one S.hs (X.f.rz S) hlim.tail (by rw [hck]; decide) V hc
  | @cons _ l1 kd tv rest more b1 b3 b2 hne ht =>
  have b4 := one_ne b3 hne
  have hck' : σ.chunk.length ≤ 1000 := by rw [hck]; decide
  with_reducible refine c_next rm.one S.hs hlim.tail hkin.tail V b1 b2 b3 ?_
  intro x2 dx2 k1 k2 s σ₂ bf t1 v e htv el ek ec V₂
  have S := S.call e
  walk_at "stb"
  with_reducible refine y_whileR X.f (fun n s => E16 fun (vs : List Value) (es : Led) (cap : Nat) (σ₂ : Lx) (bf rest : List UInt8) (x2 dx2 : Addr) (k1 k2 t1 : Tok) (v : Value) (kd : Int) (tv : TV) (ls : List (Str × Value)) (more : List (Int × TV)) => A13 (vs.length + more.length ≤ 1000) (tv.Is v) (σ₂.limits = σ.limits) (σ₂.kinds = σ.kinds) (σ₂.chunk = σ.chunk) (Vw σ₂ bf rest) (kd ≠ 287) (Bad rest more) (n = more.length + 1) (St w (hideAll s0.heap (R.map (·.1))) L (Lm ls) (lexL w.params i σ₂ bf (tokL w.params x2 dx2 k1 k2 (.int kd t1) v ++ (fa, lstO vs cap) :: (es ++ R2))) s0 s) (Lm ls "token" = some (.ref x2)) (Lm ls "lexer" = some (.ref i.x)) (Lm ls "found" = some (.ref fa))) (more.length + 1) ?_ ?_
  · simp only [List.length_cons] at hn
    exact ⟨[], [], 0, σ₂, bf, rest, x2, dx2, k1, k2, t1, v, kd, tv, _, more, by simp; lia, htv, el, ek, ec, V₂, b4, ht, rfl, S, by walk_at "lm", by walk_at "lm", by walk_at "lm"⟩
  clear S V V₂ b1 b2 b3 b4 htv el ek e ht
  intro n' s E' N hN hI XE
  obtain ⟨vs, es, cap, σ₂, bf, rest, x2, dx2, k1, k2, t1, v, kd, tv, ls, more, hzv, htv, el, ek, ec, V₂, hne, hbad, rfl, S, m1, m2, m3⟩ := hI
  walk_at "stp"
  with_reducible refine tk_kind S (lexL_rest List.mem_cons_self) (lexL_rest (List.mem_cons_of_mem _ List.mem_cons_self)) rfl ?_
  intro s S
  walk_at "stp"
  refine ite_dy hne ?_
  walk_at "stp"
  have hmem : (fa, lstO vs cap) ∈ lexL w.params i σ₂ bf (tokL w.params x2 dx2 k1 k2 (.int kd t1) v ++ (fa, lstO vs cap) :: (es ++ R2)) := lexL_rest (.tail _ (.tail _ (.head _)))
  with_reducible refine m_lappend S hmem ?_
  walk_at "stp"
  with_reducible refine tk_kind S (lexL_rest List.mem_cons_self) (lexL_rest (List.mem_cons_of_mem _ List.mem_cons_self)) rfl ?_
  intro s S
  walk_at "stp"
  with_reducible refine tk_value S (lexL_rest List.mem_cons_self) (lexL_rest (List.mem_cons_of_mem _ List.mem_cons_self)) (TV.handed htv) ?_
  intro s S
  walk_at "stp"
  refine wpC_of (o_lappend (pre := [(i.x, instObj 465 i.dx), (i.dx, dictOf (lexEs w.params σ₂) i.n), (σ₂.buffer, baObj bf), (_, tupO [.int kd t1, v]), (x2, instObj 262 dx2), (dx2, dictOf (tokEs w.params k1 k2 (.int kd t1) v) 2)]) (fa := fa) (items := vs) (n := cap) (post := es ++ R2) S (by lia) ?_)
  intro s cap' S
  have S := (S.sub led_sub2).perm led_perm
  have S : St w (hideAll s0.heap (R.map (·.1))) L (Lm ls) (lexL w.params i σ₂ bf ((fa, lstO (vs ++ [.ref _]) cap') :: (((_, tupO [.int kd t1, v]) :: es) ++ R2))) s0 s := S
  refine ⟨rfl, ?_⟩
  walk_at "stp"
  cases hbad with
  | nil hc =>
    with_reducible refine r_next rm.one S.hs (XE.rz S) (by rw [el]; exact (hlim.app _).tail) (by rw [ec]; exact hck') V₂ hc
  | @cons _ l1 kd' tv' rest' more' b1 b3 b2 hne' ht' =>
  have b4 := one_ne b3 hne'
  with_reducible refine c_next rm.one S.hs (by rw [el]; exact (hlim.app _).tail) (by rw [ek]; exact (hkin.app _).tail) V₂ b1 b2 b3 ?_
  intro x3 dx3 k3 k4 s σ₃ bf' t3 v' e htv' el' ek' ec' V₃
  have S := S.call e
  walk_at "stp"
  exact hN ⟨more'.length + 1, by simp only [List.length_cons]; lia, _, _, _, σ₃, bf', rest', x3, dx3, k3, k4, t3, v', kd', tv', _, more', by simp only [List.length_append, List.length_cons, List.length_nil] at hzv ⊢; lia, htv', el'.trans el, ek'.trans ek, ec'.trans ec, V₃, b4, ht', rfl, S, by walk_at "lm", by walk_at "lm", by walk_at "lm"⟩
end
/-- the stack, and what stays of the heap at its foot -/
structure Rb (w : World) (base : Heap) (l : List Env) (A : Around) (R : Led) (s : Shared) : Prop where
  K : Below A base l (hideAll s.heap (R.map (·.1)))
  B : Bs w base
  sz : base.objs.size ≤ s.heap.objs.size
  gd : A.guards = some []
/-- a frame over it -/
structure Rg (w : World) (base : Heap) (l : List Env) (env : Env) (L : Addr) (g : Heap) (A : Around) : Prop where
  stack : A.frames = some (env :: l)
  fr : env.frame = some L
  kind : env.scope.kind ≠ .module
  stays : base.StaysIn g
  frames : g.FunFrames base l
  B : Bs w base
  sz : base.objs.size ≤ g.objs.size
  gd : A.guards = some []
section
variable {w : World} {g base : Heap} {L : Addr} {m : Str → Option Value} {R R' : Led} {r s s0 : Shared} {A : Around} {E : Value → Shared → Prop} {Q : Value → Shared → Prop} {k : Nat} {l : List Env} {env : Env} {e : Addr} {M : Model}
theorem Rg.below (X : Rg w base l env L g A) (S : St w g L m R r s) : Below A base (env :: l) (hideAll s.heap (R.map (·.1))) :=
  Rf.below (E := fun _ _ => True) ⟨X.stack, X.fr, X.kind, X.stays, X.frames, fun _ _ _ _ _ => trivial⟩ S
theorem Rg.rb (X : Rg w base l env L g A) (S : St w g L m R r s) : Rb w base (env :: l) A R s :=
  ⟨X.below S, X.B, Nat.le_trans X.sz (Nat.le_trans S.F.above (Nat.le_of_lt S.F.ns.lt)), X.gd⟩
theorem y_try {Q : Flow → Shared → Prop} {body rest : List Stmt} {h₀ : ExceptHandler} {hs : List ExceptHandler} {pos : Pos} {ev : Env}
    (h : wpC M A (execs body ev) (fun f s₁ => match f with | .next => wpC M A (execs [] ev) (SeqC M A ev rest Q E) E s₁ | f => SeqC M A ev rest Q E f s₁)
      (fun e s₁ => wpC M A (noteFrame e ev) (fun _ s₂ => wpC M A (setFlight e none) (fun _ s₃ => wpC M A (handleBy e ev (h₀ :: hs)) (SeqC M A ev rest Q E) E s₃) E s₂) E s₁) s) :
    wpC M A (execs (.Try body (h₀ :: hs) [] [] pos :: rest) ev) Q E s := by
  refine y_cons ?_
  rw [arm_exec_Try]
  refine wpC_bind (wpC_standAt ?_)
  unfold tryStmt
  simp only [List.isEmpty_nil, if_true, List.isEmpty_cons, Bool.false_and, Bool.false_eq_true, if_false]
  refine wpC_bind (wpC_attempt (wpC_mono h (fun f s₁ h₁ => ?_) fun e s₁ h₁ => ?_))
  · cases f <;> first | exact h₁ | exact wpC_pure h₁
  · exact wpC_bind (wpC_mono h₁ (fun _ _ h₂ => wpC_bind h₂) fun _ _ x => x)
end
section
variable {w : World} {A : Around} {R : Led} {s : Shared} {Q E : Value → Shared → Prop} {k : Nat} {base : Heap} {l : List Env}
  {name qual : Str} {params : Arguments} {body : List Stmt} {scope : Scope} {dV kV doc pm cdv ct oc : Value} {an od : Option Addr} {osl : Array (Option Value)} {f : Addr} {args : List Value} {binds lb : List (Str × Value)}
/-- a def, the stack known -/
theorem enterCB (rm : Rm A (k + 1)) (H : Hs w R s) (Z : Rb w base l A R s)
    (ho : (LX.hdC.heap_1 w.params).lookup f = some ⟨oc, od, .func (fnOf name qual params body scope dV kV doc pm an cdv ct), osl⟩)
    (hcd : codeIn (LX.hdC.heap_1 w.params) cdv qual = true)
    (hbind : BindsTo s (fnOf name qual params body scope dV kV doc pm an cdv ct) ⟨args, []⟩ binds) (hloc : ∀ y ∈ binds, scope.names.lookup y.1 = some .local)
    (hcell : ∀ x ∈ scope.names, x.2 ≠ .cell) (hco : scope.isCoroutine = false) (hgen : scope.isGenerator = false) (hk : scope.kind = .function)
    (hlb : binds.reverse = lb)
    (h : ∀ L s1 E' A', St w (hideAll s.heap (R.map (·.1))) L (Lm lb) R s s1 → Rm A' k → Rg w base l (envOf qual scope L f cdv) L (hideAll s.heap (R.map (·.1))) A' →
      wpC (model PySem.Challenge.pw_nt0646_01 w) A' (execs body (envOf qual scope L f cdv)) (RetQ Q) E' s1) :
    wpC (model PySem.Challenge.pw_nt0646_01 w) A (call (.ref f) args) Q E s := by
  obtain ⟨p, loose, mg, mb, T⟩ := H.base.T
  have hs : ∀ a o, (hideAll s.heap (R.map (·.1))).get? a = some o → s.heap.get? a = some o := fun a o e => of_hideAll _ e
  refine wpC_call (codeC_call_def (fd := fnOf name qual params body scope dV kV doc pm an cdv ct) (body := body) (binds := binds) (by have := rm.d; lia) ((H.base.X.keeps hs) _ _ ho) rfl (T.nolimit.keeps hs) hco hgen rfl (codeRec_of (H.base.X.keeps hs) hcd) hbind hcell hloc hk (fun h₁ hns hk₁ => ?_))
  subst hlb
  have S : St w (hideAll s.heap (R.map (·.1))) s.heap.objs.size (Lm binds.reverse) R s { s with heap := h₁, toks := s.toks + binds.length } := ⟨H.base, ⟨hns, fun b o e => hk₁ b o (hs b o e), Nat.le_of_eq (hideAll_size _ _)⟩, fun q hq => ⟨hk₁ _ _ (H.led q hq), Nat.ne_of_lt (Heap.lt_size (H.led q hq)), hideAll_none _ (List.mem_map_of_mem hq)⟩, H.nd, rfl, rfl, rfl⟩
  have hst : (A.deeper (envOf qual scope s.heap.objs.size f cdv)).frames = some (envOf qual scope s.heap.objs.size f cdv :: l) := Around.frames_deeper Z.K.stack
  exact wpC_mono (h s.heap.objs.size { s with heap := h₁, toks := s.toks + binds.length } _ _ S rm.deeper ⟨hst, rfl, (by show scope.kind ≠ .module; rw [hk]; decide), Z.K.stays, Z.K.frames, Z.B, (by rw [hideAll_size]; exact Z.sz), Z.gd⟩)
    (fun fl s' hl => hl) (fun _ _ x => x)
end
section
variable {text : List UInt8} {tt tc : Tok} {lim : Addr} {ts : List (Int × TV)} {w : World} {g base : Heap} {R R' : Led} {r s s0 : Shared} {A : Around} {E : Value → Shared → Prop} {Q : Value → Shared → Prop} {k : Nat} {fr : List Env}
theorem c_is_refused (rm : Rm A (k + 16)) (H : Hs w R s0) (Z : Rb w base fr A R s0) (hz : text.length ≤ 800000) (ht : Bad text ts) (hn : ts.length ≤ 1000) (h : ∀ s', base.StaysIn s'.heap → SameG s0 s' → Q (.bool true) s') :
    wpC (model pw w) A (call (.ref 539) [.bytes text.toArray tt]) Q E s0 := by
  refine' enterCB (binds := [("piece", .bytes text.toArray tt)]) (lb := [("piece", .bytes text.toArray tt)]) rm H Z ?ho ?hcd ?hb ?hl ?hc ?h1 ?h2 ?h3 ?hr ?_
  walk_at "fn"
  intro L s E A S rm X
  with_reducible refine y_try ?_
  walk_at "stp"
  with_reducible refine wpC_of (o_limits (k := k + 13) rm S ?_)
  intro x dx kt s S
  walk_at "stp"
  obtain ⟨p, loose, mg, mb, T⟩ := X.B.T
  have hL : (hideAll s.heap (((x, instObj 53 dx) :: (dx, dictOf (limEs w.params kt) 10) :: R).map (·.1))).Ns L (Lm [("piece", .bytes text.toArray tt)]) := by
    obtain ⟨o, es, ep, hL, hd⟩ := S.F.ns
    refine ⟨o, es, ep, hideAll_get _ hL fun q => ?_, hd⟩
    obtain ⟨p, hp, h⟩ := List.mem_map.mp q
    exact (S.N p hp).2.1 h
  have hsz : base.objs.size ≤ L := Nat.le_trans X.sz S.F.above
  refine r_all_tokens (k := k) rm S.hs ⟨X.below S, fun e s' fl u q => ?_⟩ ⟨dx, 10, kt, List.mem_cons_self, List.mem_cons_of_mem _ List.mem_cons_self⟩ hz ht hn
  obtain ⟨a0, hfl⟩ := fl
  refine wpC_of (wpAny_looks_onW X.stack X.fr hfl fun h₄ hheld₄ sm₄ => ?_)
  refine wpC_of (wpAny_landsW hheld₄ fun h₅ hfl₅ sm₅ => ?_)
  have F₅ : Fr base L h₅ (Lm [("piece", .bytes text.toArray tt)]) := ⟨(u.trans (sm₄.trans sm₅)).ns hL, hfl₅.1, hsz⟩
  obtain ⟨ob, hob, hobc⟩ := hfl₅.there
  refine wpC_of (wpAny_handleBy_cons (codeAny_handlers_test (name_K F₅ X.B.X T G_LuaSyntaxError ?_ rfl rfl (by decide))) (by intro q; cases q))
  have hC : h₅.get? 87 = some lseObj := hfl₅.1 _ _ (X.B.X _ _ lse_at)
  refine wpAny_excMatches_sub_self hC hob hobc (by decide) (codeAny_handlers_suite ?_)
  refine lands_againW hfl₅ fun h₆ hfl₆ sm₆ => ?_
  refine x_ret (Constant_bool ?_)
  exact h _ hfl₆.1 ⟨q.1.trans S.rest.1, q.2.trans S.rest.2.2⟩
end
section
open PySem.Builtin
namespace FBI
theorem slot_iter : Slot "bytes" "__iter__" "bytes.__iter__" :=
  .of (owner := "bytes") (n := "__iter__") (by rw [typeLookup_type, builtinLookup_eq_fast]; kernel_rfl) (by decide +kernel) (by decide +kernel) (by decide +kernel)
    (by first | exact .inl (by decide +kernel) | exact .inr (by decide +kernel)) (by rw [isSubtype_type]; kernel_rfl)
theorem entry_iter : entryFor table "bytes.__iter__" = some Builtin.«bytes.__iter__» := entryFor_of_tree (by kernel_rfl)
theorem args_iter (a : Value) : argsOk "bytes.__iter__" ⟨[a], []⟩ := by
  unfold argsOk; rw [signature?_of (id := "bytes.__iter__") (n := ['_', '_', 'r', 'e', 't', 'i', '_', '_']) (o := ['s', 'e', 't', 'y', 'b']) (by kernel_rfl) FB.owner_bytes]; kernel_rfl
theorem owner_bi : Manifest.owners.lookup (String.ofList ['r', 'o', 't', 'a', 'r', 'e', 't', 'i', '_', 's', 'e', 't', 'y', 'b'].reverse) = some Manifest.sig_bytes_iterator := by kernel_rfl!
theorem slot_next : Slot "bytes_iterator" "__next__" "bytes_iterator.__next__" :=
  .of (owner := "bytes_iterator") (n := "__next__") (by rw [typeLookup_type, builtinLookup_eq_fast]; kernel_rfl) (by decide +kernel) (by decide +kernel) (by decide +kernel)
    (by first | exact .inl (by decide +kernel) | exact .inr (by decide +kernel)) (by rw [isSubtype_type]; kernel_rfl)
theorem entry_next : entryFor table "bytes_iterator.__next__" = some Builtin.«bytes_iterator.__next__» := entryFor_of_tree (by kernel_rfl)
theorem args_next (a : Value) : argsOk "bytes_iterator.__next__" ⟨[a], []⟩ := by
  unfold argsOk; rw [signature?_of (id := "bytes_iterator.__next__") (n := ['_', '_', 't', 'x', 'e', 'n', '_', '_']) (o := ['r', 'o', 't', 'a', 'r', 'e', 't', 'i', '_', 's', 'e', 't', 'y', 'b']) (by kernel_rfl) owner_bi]; kernel_rfl
theorem slot_iter2 : Slot "bytes_iterator" "__iter__" "bytes_iterator.__iter__" :=
  .of (owner := "bytes_iterator") (n := "__iter__") (by rw [typeLookup_type, builtinLookup_eq_fast]; kernel_rfl) (by decide +kernel) (by decide +kernel) (by decide +kernel)
    (by first | exact .inl (by decide +kernel) | exact .inr (by decide +kernel)) (by rw [isSubtype_type]; kernel_rfl)
theorem entry_iter2 : entryFor table "bytes_iterator.__iter__" = some Builtin.«dict_keyiterator.__iter__» :=
  entryFor_alias (id' := "dict_keyiterator.__iter__") (by kernel_rfl) rfl (by decide +kernel) (by kernel_rfl)
theorem args_iter2 (a : Value) : argsOk "bytes_iterator.__iter__" ⟨[a], []⟩ := by unfold argsOk; kernel_rfl
end FBI
/-- an iterator over bytes -/
noncomputable def IsByIter (h : Heap) (a : Addr) (x : Array UInt8) (t : Tok) (i : Nat) : Prop := ∃ o, h.get? a = some o ∧ o.cls = .type "bytes_iterator" ∧ o.data = .fields #[.bytes x t, .int i 0]
section
variable {prog : Program} {w : World} {A : Around} {E : Value → Shared → Prop} {s : Shared} {it : Addr} {x : Array UInt8} {t : Tok} {i : Nat} {c : UInt8}
theorem IsByIter.typeIs (y : IsByIter s.heap it x t i) : s.TypeIs (.ref it) "bytes_iterator" := let ⟨o, ho, hc, _⟩ := y; ⟨o, ho, hc⟩
theorem pyIter_by {Q : Value → Shared → Prop} (hQ : Q (.ref s.heap.objs.size) { s with heap := s.heap.push { cls := .type "bytes_iterator", data := .fields #[.bytes x t, .int 0 0] } }) : wpAny (model prog w) A (pyIter (.bytes x t)) Q E s := by
  refine wpAny_pyIter_slot (typeIs_bytes s x t) FBI.slot_iter (wpAny_call_entry FBI.slot_iter (typeIs_bytes s x t) FBI.entry_iter ?_ (FBI.args_iter _))
  show wpAny _ _ (do ret (← newFields "bytes_iterator" [.bytes x t, rawInt 0])) _ _ s
  exact wpAny_bind (wpAny_newObj_type (wpAny_pure ⟨_, rfl, "bytes_iterator", _, ⟨_, Heap.get?_push_size _ rfl, rfl⟩, FBI.slot_next.lookup, hQ⟩))
theorem pyIter_by2 {Q : Value → Shared → Prop} (hit : IsByIter s.heap it x t i) (h : Q (.ref it) s) : wpAny (model prog w) A (pyIter (.ref it)) Q E s := by
  refine wpAny_pyIter_slot hit.typeIs FBI.slot_iter2 (wpAny_call_entry FBI.slot_iter2 hit.typeIs FBI.entry_iter2 ?_ (FBI.args_iter2 _))
  show wpAny _ _ (ret (.ref it)) _ _ s
  exact wpAny_pure ⟨_, rfl, "bytes_iterator", _, hit.typeIs, FBI.slot_next.lookup, h⟩
theorem pyNext_by {Q : Option Value → Shared → Prop} (hit : IsByIter s.heap it x t i) (hx : x[i]? = some c)
    (hQ : ∀ h' k, IsByIter h' it x t (i + 1) → Heap.SameBut it s.heap h' → Q (some (.int c.toNat k)) { s with heap := h', toks := s.toks + 1 }) :
    wpAny (model prog w) A (pyNext (.ref it)) Q E s := by
  obtain ⟨o, ho, hc, hd⟩ := id hit
  unfold pyNext
  refine wpAny_bind (wpAny_attempt (wpAny_callSpecial?_slot (name := Str.ofString "__next__") hit.typeIs FBI.slot_next
    (wpAny_call_entry FBI.slot_next hit.typeIs FBI.entry_next ?_ (FBI.args_next _))))
  show wpAny _ _ (field (.ref it) 0 >>= _) _ _ s
  refine wpAny_bind (wpAny_field ho hd (x := .bytes x t) rfl ?_)
  show wpAny _ _ (field (.ref it) 1 >>= _) _ _ s
  refine wpAny_bind (wpAny_field ho hd (x := .int i 0) rfl ?_)
  refine wpAny_bind (wpAny_of_eq (a := x) rfl ?_)
  simp only [Int.toNat_natCast, hx]
  refine wpAny_bind (wpAny_setField ho hd (by simp) ?_)
  refine wpAny_ret_mkInt ?_
  refine wpAny_pure (hQ _ _ ?_ (Heap.SameBut.update ..))
  exact ⟨_, Heap.get?_update_self _ ho (Obj.isFreed_of_fields (Obj.data_mapFields hd _)), (Obj.cls_mapFields ..).trans hc, by
    rw [Obj.data_mapFields hd]; simp [rawInt]⟩
theorem pyNext_by_end {Q : Option Value → Shared → Prop} (hh : A.handled = none) (hit : IsByIter s.heap it x t i) (hx : x[i]? = none)
    (hQ : ∀ h', Heap.ExtBut it s.heap h' → Q none { s with heap := h' }) : wpAny (model prog w) A (pyNext (.ref it)) Q E s := by
  obtain ⟨o, ho, hc, hd⟩ := id hit
  unfold pyNext
  refine wpAny_bind (wpAny_attempt (wpAny_callSpecial?_slot (name := Str.ofString "__next__") hit.typeIs FBI.slot_next
    (wpAny_call_entry FBI.slot_next hit.typeIs FBI.entry_next ?_ (FBI.args_next _))))
  show wpAny _ _ (field (.ref it) 0 >>= _) _ _ s
  refine wpAny_bind (wpAny_field ho hd (x := .bytes x t) rfl ?_)
  show wpAny _ _ (field (.ref it) 1 >>= _) _ _ s
  refine wpAny_bind (wpAny_field ho hd (x := .int i 0) rfl ?_)
  refine wpAny_bind (wpAny_of_eq (a := x) rfl ?_)
  simp only [Int.toNat_natCast, hx]
  refine wpAny_bind (wpAny_rule (wpAny_bind (wpAny_setField ho hd (by simp) ?_)))
  show wpAny _ _ (newExc (.type "StopIteration") [] >>= _) _ _ _
  refine wpAny_bind ?_
  simp only [newExc, newTuple]
  refine wpAny_bind (wpAny_newObj_type ?_ (by size_fits))
  refine wpAny_bind (m := firstArgMember _ _) (wpAny_of_eq (a := Value.none) (by first | rfl | (simp only [firstArgMember]; rfl)) ?_)
  refine wpAny_newObj_type ?_ (by size_fits)
  simp only [raiseNew]
  refine wpAny_bind (wpAny_handled ?_)
  rw [show A.in1.handled = none from hh]
  refine wpAny_bind (wpAny_pure (wpAny_throw ?_))
  refine wpAny_bind (wpAny_isInstance (T := "StopIteration") (b := true) ⟨_, Heap.get?_push_size _ rfl, rfl⟩ isSubtype_stop ?_)
  exact wpAny_pure (hQ _ (((Heap.SameBut.update ..).extBut.push _).push _))
theorem walks_by (hh : A.handled = none) (I : Addr) (x : Array UInt8) (t : Tok) :
    Walks prog w A I [I] [I] x.size (fun i v => ∃ c k, x[i]? = some c ∧ v = .int (c.toNat : Int) k) (fun i h => IsByIter h I x t i) where
  sub := fun _ hb => hb
  frame := fun _ _ _ st hk => let ⟨o, ho, r⟩ := st; ⟨o, hk I (by simp) o ho, r⟩
  item := fun i s Q E hi st hQ => by
    refine pyNext_by st (c := x[i]) (by simp [hi]) fun h' k hit' hs' => ?_
    exact hQ _ h' (s.toks + 1) ⟨_, _, by simp [hi], rfl⟩ hit' fun b o hb e => hs'.extBut b o (fun h => hb (by simp [h])) e
  done := fun s Q E st hQ => pyNext_by_end hh st (by simp) fun h' he' => hQ h' s.toks fun b o hb e => he' b o (fun h => hb (by simp [h])) e
  self := fun _ _ _ _ st hQ => pyIter_by2 st hQ
end

end
section
variable {w : World} {g : Heap} {L : Addr} {ls : List (Str × Value)} {m : Str → Option Value} {R R' : Led} {r s s' : Shared} {A : Around} {E : Value → Shared → Prop} {a : Addr} {J : Inv} {x : List UInt8} {t : Tok} {vs : List Value} {n : Nat} {z : Int}
/-- the loop over bytes -/
theorem it_by (S : St w g L (Lm ls) R r s) (hh : A.handled = none) (hJ : J 0 ls R) :
    wpAny (model pw w) A (pyIter (.bytes x.toArray t)) (fun itv s₂ => LoopAt w A g L r J x.length (fun i v => ∃ c k, x[i]? = some c ∧ v = .int (c.toNat : Int) k) itv s₂) E s := by
  have W : Walks pw w A s.heap.objs.size [s.heap.objs.size] [s.heap.objs.size] x.length (fun i v => ∃ c k, x[i]? = some c ∧ v = .int (c.toNat : Int) k) (fun i h => IsByIter h s.heap.objs.size x.toArray t i) := by
    have W := walks_by (prog := pw) (w := w) hh s.heap.objs.size x.toArray t; simpa using W
  refine pyIter_by ⟨_, _, _, _, ls, R, rfl, W, ⟨_, Heap.get?_push_size _ rfl, rfl, rfl⟩, fun i h ⟨o, ho, _⟩ => ⟨o, ho⟩, S.more (k := s.toks) (S.F.push _) (S.N.push S.F _), hJ, fun b hb hn => ?_⟩
  simp only [List.mem_cons, List.not_mem_nil, or_false] at hb
  exact absurd hb hn
/-- the loop over a list that stays -/
theorem it_list (S : St w g L (Lm ls) R r s) (hh : A.handled = none) (ha : s.heap.IsList a vs.toArray) (hf : Fixed w J a) (hJ : J 0 ls R) :
    wpAny (model pw w) A (pyIter (.ref a)) (fun itv s₂ => LoopAt w A g L r J vs.length (fun i v => vs[i]? = some v) itv s₂) E s := by
  have hla : a < s.heap.objs.size := by obtain ⟨o, ho, _⟩ := ha; exact Heap.lt_size ho
  have hne : a ≠ s.heap.objs.size := Nat.ne_of_lt hla
  have W : Walks pw w A s.heap.objs.size [s.heap.objs.size, a] [s.heap.objs.size] vs.length (fun i v => vs[i]? = some v) (fun i h => h.IsListIter s.heap.objs.size a i ∧ h.IsList a vs.toArray) := by
    have W := Walks.list (prog := pw) (w := w) hh s.heap.objs.size a hne vs.toArray; simpa using W
  refine wpAny_pyIter_list ha ⟨_, _, _, _, ls, R, rfl, W, ⟨⟨_, Heap.get?_push_size _ rfl, rfl, rfl⟩, ha.at fun o e => Heap.get?_push_of_some _ e⟩, fun i h ⟨⟨o, ho, _⟩, _⟩ => ⟨o, ho⟩, S.more (k := s.toks) (S.F.push _) (S.N.push S.F _), hJ, fun b hb hn => ?_⟩
  simp only [List.mem_cons, List.not_mem_nil, or_false] at hb
  rcases hb with rfl | rfl
  · exact absurd rfl hn
  · exact hf
/-- the loop over a range -/
theorem it_range (S : St w g L (Lm ls) R r s) (hh : A.handled = none) (h0 : 0 ≤ z) (h1 : z < 1000000) (hJ : J 0 ls R) :
    wpAny (model pw w) A (call (.type "range") [.int z t]) (fun v s₁ => wpAny (model pw w) A (pyIter v) (fun itv s₂ => LoopAt w A g L r J z.toNat (fun i v => ∃ k, v = .int (i : Int) k) itv s₂) E s₁) E s := by
  refine call_range_1 ?_
  refine wpAny_pyIter_range (IsRange.new ..) (small_one (by decide) (by decide) (by lia) (by lia)) ?_
  have S1 := (S.more (o := { cls := .type "range", data := .fields #[.int 0 s.toks, .int z t, .int 1 (s.toks + 1)] }) (k := s.toks + 1 + 1) (S.F.push _) (S.N.push S.F _)).drop
  have S2 := S1.more (o := { cls := .type "range_iterator", data := .fields #[rawInt 0, rawInt (Builtin.Range.rangeSize 0 z 1), rawInt 1] }) (k := s.toks + 1 + 1) (S1.F.push _) (S1.N.push S1.F _)
  have hsz : Builtin.Range.rangeSize 0 z 1 = (z.toNat : Int) := by rw [rangeSize_one]; split <;> lia
  generalize hI : (s.heap.push { cls := .type "range", data := .fields #[.int 0 s.toks, .int z t, .int 1 (s.toks + 1)] }).objs.size = I at S2
  have W : Walks pw w A I [I] [I] z.toNat (fun i v => ∃ k, v = .int (i : Int) k) (fun i h => IsRangeIter h I (0 + (i : Nat) * 1) ((z.toNat : Int) - (i : Nat)) 1) := by
    have W := Walks.range (prog := pw) (w := w) hh I 0 1 z.toNat
    simpa using W
  refine ⟨I, _, _, _, ls, R, by rw [← hI], W, ?_, fun i h st => ⟨_, st⟩, S2, hJ, fun b hb hn => ?_⟩
  · subst hI
    show IsRangeIter _ _ (0 + ((0 : Nat) : Int) * 1) ((z.toNat : Int) - ((0 : Nat) : Int)) 1
    have e1 : (0 + ((0 : Nat) : Int) * 1) = 0 := by simp
    have e2 : ((z.toNat : Int) - ((0 : Nat) : Int)) = Builtin.Range.rangeSize 0 z 1 := by rw [hsz]; simp
    rw [e1, e2]
    exact Heap.get?_push_size _ rfl
  · simp only [List.mem_cons, List.not_mem_nil, or_false] at hb
    exact absurd hb hn
end
noncomputable def GAPS : List (List UInt8) := [[32], [10], [13, 10, 13, 10], [9, 11, 12], [32, 45, 45, 10], [32, 45, 45, 91, 32, 110, 111, 116, 32, 108, 111, 110, 103, 10], [32, 45, 45, 91, 91, 32, 108, 111, 110, 103, 32, 93, 93], [32, 45, 45, 91, 61, 61, 91, 32, 93, 93, 32, 93, 61, 93, 32, 10, 32, 93, 61, 61, 93], [10, 45, 45, 91, 91, 93, 93], [32, 45, 45, 93, 93, 32, 45, 45, 91, 91, 13], [32, 45, 45, 91, 91, 10, 10, 93, 93, 45, 45, 91, 61, 91, 32, 91, 91, 32, 93, 61, 93, 32]]
noncomputable def SIGNS : List (List UInt8 × Int) := [([46, 46], 278), ([46, 46, 46], 279), ([61, 61], 280), ([62, 61], 281), ([60, 61], 282), ([126, 61], 283), ([45], 45), ([91], 91), ([93], 93), ([61], 61), ([60], 60), ([62], 62), ([46], 46), ([123], 123), ([125], 125), ([40], 40), ([43], 43), ([59], 59), ([110, 105, 108], 269), ([119, 104, 105, 108, 101], 277)]
/-- digits to a base -/
noncomputable def vB (b a : Nat) : List UInt8 → Nat
  | [] => a
  | c :: l => vB b (b * a + hexD c) l
structure Digs (b n : Nat) (ds : List UInt8) : Prop where
  ne : ds ≠ []
  ok : ∀ c ∈ ds, isHex c ∧ (b = 10 → isDec c)
  val : vB b 0 ds = n
  len : ds.length ≤ 8
noncomputable def OCT : List UInt8 := [97, 10, 34, 93, 91, 61, 45, 0]
structure Oct (os : List UInt8) : Prop where
  ok : ∀ c ∈ os, c ∈ OCT
  len : os.length ≤ 4
noncomputable def esc (c : UInt8) : List UInt8 := if c = 10 then [92, 110] else if c = 34 then [92, 34] else if c = 0 then [92, 48, 48, 48] else [c]
noncomputable def txtL (os : List UInt8) : List UInt8 := [91, 61, 61, 61, 61, 91] ++ (if os.take 1 = [10] ∨ os.length < 2 then [10] else []) ++ os ++ [93, 61, 61, 61, 61, 93]
noncomputable def txtQ (os : List UInt8) : List UInt8 := 34 :: os.flatMap esc ++ [34]
/-- a drawn token: kind, tight, loose, value -/
inductive Drawn : Int → List UInt8 → List UInt8 → TV → Prop
  | text1 {os} : Oct os → Drawn 286 (txtQ os) (txtL os) (.bytes os)
  | text2 {os} : Oct os → Drawn 286 (txtL os) (txtQ os) (.bytes os)
  | num {n ds hs} : n < 100000000 → Digs 10 n ds → Digs 16 n hs → Drawn 284 ds (48 :: 120 :: hs) (.int n)
  | name {n hs} : Digs 16 n hs → Drawn 285 (110 :: hs) (110 :: hs) (.bytes (110 :: hs))
  | sign {p k} : (p, k) ∈ SIGNS → Drawn k p p .none
/-- values that hold bytes -/
inductive BysAre : List Value → List (List UInt8) → Prop
  | nil : BysAre [] []
  | cons (b : List UInt8) (t : Tok) {vs bs} : BysAre vs bs → BysAre (.bytes b.toArray t :: vs) (b :: bs)
theorem BysAre.get {vs : List Value} {bs : List (List UInt8)} (h : BysAre vs bs) : ∀ {i : Nat} {b : List UInt8}, bs[i]? = some b → ∃ t, vs[i]? = some (.bytes b.toArray t) := by
  induction h with
  | nil => intro i b h; simp at h
  | cons b t _ ih =>
    intro i c h
    cases i with
    | zero => simp at h; subst h; exact ⟨t, rfl⟩
    | succ i => simpa using ih (by simpa using h)
theorem BysAre.length {vs : List Value} {bs : List (List UInt8)} (h : BysAre vs bs) : vs.length = bs.length := by
  induction h with
  | nil => rfl
  | cons b t _ ih => simp [ih]
/-- pairs of bytes and an int -/
inductive PairsL : List (List UInt8 × Int) → List Value → Led → Prop
  | nil : PairsL [] [] []
  | snoc {l vs es b k a t1 t2} : PairsL l vs es → PairsL (l ++ [(b, k)]) (vs ++ [.ref a]) ((a, tupO [.bytes b.toArray t1, .int k t2]) :: es)
theorem PairsL.snoc2 {l vs es b k a t1 t2 b2 k2 a2 t3 t4} (h : PairsL l vs es) : PairsL (l ++ [(b, k), (b2, k2)]) (vs ++ [.ref a, .ref a2]) ((a2, tupO [.bytes b2.toArray t3, .int k2 t4]) :: (a, tupO [.bytes b.toArray t1, .int k t2]) :: es) := by
  have := PairsL.snoc (b := b2) (k := k2) (a := a2) (t1 := t3) (t2 := t4) (PairsL.snoc (b := b) (k := k) (a := a) (t1 := t1) (t2 := t2) h)
  rw [List.append_assoc, List.append_assoc] at this
  exact this
theorem SIGNS_18 : SIGNS = SIGNS.take (6 + 12) ++ [([110, 105, 108], 269), ([119, 104, 105, 108, 101], 277)] := by decide
theorem PairsL.length {l : List (List UInt8 × Int)} {vs : List Value} {es : Led} (h : PairsL l vs es) : vs.length = l.length := by
  induction h with
  | nil => rfl
  | snoc _ ih => simp [ih]
theorem PairsL.get {l : List (List UInt8 × Int)} {vs : List Value} {es : Led} (h : PairsL l vs es) : ∀ {i : Nat} {p : List UInt8 × Int}, l[i]? = some p → ∃ a t1 t2, vs[i]? = some (.ref a) ∧ (a, tupO [.bytes p.1.toArray t1, .int p.2 t2]) ∈ es := by
  induction h with
  | nil => intro i p h; simp at h
  | @snoc l vs es b k a t1 t2 h ih =>
    intro i p hp
    by_cases hi : i < l.length
    · rw [List.getElem?_append_left hi] at hp
      obtain ⟨a, t1, t2, e1, e2⟩ := ih hp
      exact ⟨a, t1, t2, by rw [List.getElem?_append_left (by rw [h.length]; exact hi)]; exact e1, .tail _ e2⟩
    · have hi' : l.length ≤ i := by lia
      rw [List.getElem?_append_right hi'] at hp
      cases hz : i - l.length with
      | zero =>
        rw [hz] at hp
        simp at hp
        subst hp
        exact ⟨a, t1, t2, by rw [List.getElem?_append_right (by rw [h.length]; exact hi'), h.length, hz]; rfl, .head _⟩
      | succ j => rw [hz] at hp; simp at hp
section
variable {w : World} {g : Heap} {L : Addr} {m : Str → Option Value} {R R' pre post : Led} {r s s0 : Shared} {A : Around} {E : Value → Shared → Prop} {Q : Value → Shared → Prop} {k : Nat} {a x dx lim fa : Addr} {t t1 t2 tt tc k1 k2 u : Tok} {text b : List UInt8} {kind value v : Value} {e : Bool} {items vs : List Value} {n : Nat} {c d z : Int} {ns : List Int}
theorem c_law_gaps (rm : Rm A (k + 1)) (H : Hs w R s0) (h : ∀ s' fa vs, Ef R s0 ((fa, lstO vs 0) :: R) s' → BysAre vs GAPS → Q (.ref fa) s') : wpAny (model pw w) A (call (.ref 483) []) Q E s0 := by
  refine' enter (binds := []) (lb := []) rm H ?ho ?hcd ?hb ?hl ?hc ?h1 ?h2 ?h3 ?hr ?_
  walk_at "fn"
  intro L s E A S rm
  walk_at "stp"
  refine h _ _ _ S.ef ?_
  unfold GAPS
  repeat (first | exact .nil | refine .cons _ _ ?_)
theorem o_ladd {vs2 : List Value} {n2 : Nat} {la lb : Addr} (S : St w g L m R r s) (h1 : (la, lstO vs n) ∈ R) (h2 : (lb, lstO vs2 n2) ∈ R) (hz : vs.length ≤ 100000) (hz2 : vs2.length ≤ 100000)
    (h : ∀ s' c, St w g L m ((c, lstO (vs ++ vs2) 0) :: R) r s' → Q (.ref c) s') : wpAny (model pw w) A (binaryOp .Add (.ref la) (.ref lb)) Q E s := by
  refine PySem.P.add_list (items := vs.toArray) (items2 := vs2.toArray) (n := n) (n2 := n2) (S.N _ h1).1 (S.N _ h2).1 ?_ (by rw [List.size_toArray, List.size_toArray, sizeLine_eq]; lia)
  rw [List.append_toArray]
  exact h _ _ (S.more (k := s.toks) (o := lstO (vs ++ vs2) 0) (S.F.push _) (S.N.push S.F _))
theorem SIGNS_at : ∀ i < 12, ∃ c, ([45, 91, 93, 61, 60, 62, 46, 123, 125, 40, 43, 59] : List UInt8)[i]? = some c ∧ SIGNS.take (6 + (i + 1)) = SIGNS.take (6 + i) ++ [([c], (c.toNat : Int))] := by decide
theorem c_law_signs (rm : Rm A (k + 1)) (H : Hs w R s0) (h : ∀ s' fa vs es n, Ef R s0 ((fa, lstO vs n) :: (es ++ R)) s' → PairsL SIGNS vs es → Q (.ref fa) s') : wpAny (model pw w) A (call (.ref 490) []) Q E s0 := by
  refine' enter (binds := []) (lb := []) rm H ?ho ?hcd ?hb ?hl ?hc ?h1 ?h2 ?h3 ?hr ?_
  walk_at "fn"
  intro L s E A S rm
  walk_at "stp"
  obtain ⟨fa, vs0, es0, hp0, S⟩ : ∃ fa vs0 es0, PairsL (SIGNS.take 6) vs0 es0 ∧ St w (hideAll s0.heap (R.map (·.1))) L (Lm [("found", .ref fa)]) ((fa, lstO vs0 0) :: (es0 ++ R)) s0 _ :=
    ⟨_, _, _, .snoc (.snoc (.snoc (.snoc (.snoc (.snoc .nil))))), S⟩
  refine x_for1 (J := fun i ls R' => E3 fun vs es cap => A3 (PairsL (SIGNS.take (6 + i)) vs es) (Lm ls "found" = some (.ref fa)) (R' = (fa, lstO vs cap) :: (es ++ R))) (n := 12) (P := fun i v => ∃ c k, ([45, 91, 93, 61, 60, 62, 46, 123, 125, 40, 43, 59] : List UInt8)[i]? = some c ∧ v = .int (c.toNat : Int) k) S (by kernel_rfl!) ?_ ?_ ?_ ?_
  · walk_at "stp"
    exact it_by (x := [45, 91, 93, 61, 60, 62, 46, 123, 125, 40, 43, 59]) S rm.h ⟨_, _, _, hp0, by walk_at "lm", rfl⟩
  · clear S hp0
    intro i v ls R' I o s E' N hN hi hv hJ S
    obtain ⟨c, k0, hc, rfl⟩ := hv
    obtain ⟨vs, es, cap, hp, m1, rfl⟩ := hJ
    walk_at "stp"
    with_reducible refine m_lappend S (List.mem_cons_of_mem _ List.mem_cons_self) ?_
    walk_at "stp"
    have hc0 := c.toNat_lt
    with_reducible refine o_bytes_ints S rm.h List.mem_cons_self (.cons _ _ .nil) ?_ ?_ ?_
    · intro x hx; rw [List.mem_singleton.mp hx]; lia
    · simp
    intro s t1 S
    have ec : ([(c.toNat : Int)].map fun n => n.toNat.toUInt8) = [c] := by simp
    rw [ec]
    walk_at "stp"
    refine o_lappend (pre := [(_, tupO [.bytes [c].toArray t1, .int (c.toNat : Int) k0]), (_, lstO [.int (c.toNat : Int) k0] 0), (I, o)]) (fa := fa) (items := vs) (n := cap) (post := es ++ R) S (by rw [hp.length]; simp; lia) ?_
    intro s cap' S
    refine ⟨rfl, ?_⟩
    walk_at "stp"
    obtain ⟨c', hc', hs⟩ := SIGNS_at i hi
    rw [hc] at hc'; cases hc'
    refine ⟨rfl, hN ⟨_, (fa, lstO (vs ++ [.ref _]) cap') :: ((_, tupO [.bytes [c].toArray t1, .int (c.toNat : Int) k0]) :: es ++ R), ⟨_, _, _, ?_, ?_, rfl⟩, (S.sub (.cons_cons _ (.cons _ (.refl _)))).perm perm3⟩⟩
    · rw [hs]; exact .snoc hp
    · walk_at "lm"
  · clear S hp0
    intro ls R' s hJ S
    obtain ⟨vs, es, cap, hp, m1, rfl⟩ := hJ
    walk_at "stp"
    with_reducible refine o_ladd S (List.mem_cons_of_mem _ (List.mem_cons_of_mem _ (List.mem_cons_of_mem _ List.mem_cons_self))) List.mem_cons_self (by rw [hp.length]; decide) (by simp) ?_
    intro s ca S
    have S := S.sub (R' := (ca, lstO (vs ++ _) 0) :: (_ :: _ :: (es ++ R))) (.cons_cons _ (.cons _ (.cons_cons _ (.cons_cons _ (.cons _ (.refl _))))))
    refine h _ _ _ (_ :: _ :: es) _ S.ef ?_
    rw [SIGNS_18]
    exact .snoc2 hp
  · exact fun _ => rfl
theorem vB_add (b : Nat) (f : List UInt8) (m : Nat) (c : UInt8) (hc : hexD c = m % b) : vB b (m / b) (c :: f) = vB b m f := by
  show vB b (b * (m / b) + hexD c) f = _
  rw [hc, Nat.div_add_mod]
noncomputable def DG (i : Nat) : UInt8 := if i < 10 then (48 + i).toUInt8 else (55 + i).toUInt8
theorem DIG_at : ∀ i < 16, cut [48, 49, 50, 51, 52, 53, 54, 55, 56, 57, 65, 66, 67, 68, 69, 70] (some ((i : Nat) : Int)) (some ((i : Int) + 1)) = [DG i] ∧ hexD (DG i) = i ∧ isHex (DG i) ∧ (i < 10 → isDec (DG i)) := by
  unfold isHex isDec hexD DG
  decide
theorem c_law_digits {B n : Nat} (rm : Rm A (k + 1)) (H : Hs w R s0) (hB : B = 10 ∨ B = 16) (hn : n < 100000000) (h : ∀ s' (ds : List UInt8) t, Ef R s0 R s' → Digs B n ds → Q (.bytes ds.toArray t) s') : wpAny (model pw w) A (call (.ref 497) [.int n t1, .int B t2]) Q E s0 := by
  refine' enter (binds := [("number", .int n t1), ("base", .int B t2)]) (lb := [("base", .int B t2), ("number", .int n t1)]) rm H ?ho ?hcd ?hb ?hl ?hc ?h1 ?h2 ?h3 ?hr ?_
  walk_at "fn"
  intro L s E A S rm
  walk_at "stp"
  with_reducible refine x_while (fun k s => E6 fun (x j : Nat) (f : List UInt8) (ls : List (Str × Value)) (t' t'' : Tok) => A9 (k = (if f = [] then 1 else 0) + x) (vB B x f = n) ((∀ c ∈ f, isHex c ∧ (B = 10 → isDec c))) (x < 10 ^ j) (f.length + j = 8) (St w (hideAll s0.heap (R.map (·.1))) L (Lm ls) R s0 s) (Lm ls "number" = some (.int x t')) (Lm ls "base" = some (.int B t2)) (Lm ls "found" = some (.bytes f.toArray t''))) (1 + n) ?_ ?_
  · exact ⟨n, 8, [], _, _, _, rfl, rfl, (fun c hc => by cases hc), by lia, rfl, S, by walk_at "lm", by walk_at "lm", by walk_at "lm"⟩
  clear S
  intro kk s E' N hN hI
  obtain ⟨x, j, f, ls, t', t'', rfl, hv, hok, hlt, hlen, S, m1, m2, m3⟩ := hI
  walk_at "stp"
  have hB0 : 0 < B := by lia
  have hm : (x : Int).fmod B = ((x % B : Nat) : Int) := by rw [Int.fmod_eq_emod_of_nonneg _ (by lia)]; exact (Int.natCast_emod x B).symm
  have hd : (x : Int).fdiv B = ((x / B : Nat) : Int) := by rw [Int.fdiv_eq_ediv_of_nonneg _ (by lia)]; exact (Int.natCast_ediv x B).symm
  have hml : x % B < 16 := by have := Nat.mod_lt x hB0; lia
  obtain ⟨g1, g2, g3, g4⟩ := DIG_at (x % B) hml
  have hj0 : x = 0 ∧ f ≠ [] ∨ (0 < x ∨ ¬ 0 < x ∧ f = []) := by
    by_cases h0 : 0 < x
    · exact .inr (.inl h0)
    · by_cases h1 : f = []
      · exact .inr (.inr ⟨h0, h1⟩)
      · exact .inl ⟨by lia, h1⟩
  rcases hj0 with ⟨h0, h1⟩ | hj0
  · refine ite_dn (by lia) ?_
    walk_at "stp"
    refine ite_bn (by simpa using h1) ?_
    walk_at "stp"
    subst h0
    exact h _ _ _ S.ef ⟨h1, hok, hv, by lia⟩
  have hjp : ∃ j', j = j' + 1 := by
    rcases hj0 with h0 | ⟨_, h1⟩
    · cases j with
      | zero => simp at hlt; lia
      | succ j => exact ⟨j, rfl⟩
    · subst h1; exact ⟨7, by simpa using hlen⟩
  obtain ⟨j, rfl⟩ := hjp
  have hdec : ∀ m, m = (if DG (x % B) :: f = [] then 1 else 0) + x / B → m < (if f = [] then 1 else 0) + x := by
    rintro m rfl
    rw [if_neg (by simp)]
    rcases hj0 with h0 | ⟨h0, h1⟩
    · have := Nat.div_lt_self h0 (show 1 < B by lia)
      lia
    · rw [if_pos h1]
      have : x = 0 := by lia
      subst this
      simp
  have hlt' : x / B < 10 ^ j := by
    rw [Nat.pow_succ] at hlt
    have h1 : x / B ≤ x / 10 := Nat.div_le_div_left (by lia) (by decide)
    lia
  rcases hj0 with h0 | h0
  all_goals
    first
      | (refine ite_dy (by lia) ?_; walk_at "stp")
      | (refine ite_dn (by lia) ?_; walk_at "stp"; refine ite_by (by rw [h0.2]; rfl) ?_; walk_at "stp")
    with_reducible refine o_mod S (by lia) ?_
    intro s t3 S
    walk_at "stp"
    with_reducible refine o_mod S (by lia) ?_
    intro s t4 S
    rw [hm]
    walk_at "stp"
    rw [g1]
    with_reducible refine o_addb S (by simp only [List.length_cons, List.length_nil]; lia) ?_
    intro s t5 S
    walk_at "stp"
    with_reducible refine o_fdiv S (by lia) (by lia) ?_
    intro s t6 S
    rw [hd]
    walk_at "stp"
    exact hN ⟨_, hdec _ rfl, x / B, j, [DG (x % B)] ++ f, _, t6, t5, rfl, (vB_add B f x _ g2).trans hv, (fun c hc => by
      have hc : c ∈ DG (x % B) :: f := hc
      rcases List.mem_cons.mp hc with rfl | hc
      · exact ⟨g3, fun e => g4 (by subst e; lia)⟩
      · exact hok c hc), hlt', by simp only [List.length_append, List.length_cons, List.length_nil]; lia, S, by walk_at "lm", by walk_at "lm", by walk_at "lm"⟩
end
section
variable {w : World} {g : Heap} {L : Addr} {m : Str → Option Value} {R R' pre post : Led} {r s s0 : Shared} {A : Around} {E : Value → Shared → Prop} {Q : Value → Shared → Prop} {k : Nat} {a x dx lim fa : Addr} {t t1 t2 tt tc k1 k2 u : Tok} {text b : List UInt8} {kind value v : Value} {e : Bool} {items vs : List Value} {n : Nat} {c d z : Int} {ns : List Int}
theorem it_rangeN {J : Inv} {ls : List (Str × Value)} {n : Nat} (S : St w g L (Lm ls) R r s) (hh : A.handled = none) (h1 : n < 1000000) (hJ : J 0 ls R) :
    wpAny (model pw w) A (call (.type "range") [.int n t]) (fun v s₁ => wpAny (model pw w) A (pyIter v) (fun itv s₂ => LoopAt w A g L r J n (fun i v => ∃ k, v = .int (i : Int) k) itv s₂) E s₁) E s := by
  have := it_range (E := E) (z := (n : Int)) (t := t) (J := J) S hh (by lia) (by lia) hJ
  rw [Int.toNat_natCast] at this
  exact this
theorem sub_any {value slice : Expr} {o i : Value} {T id : String} (hT : s.TypeIs o T)
    (hl : typeLookup (.type T) "__getitem__" = pure (some (.builtin id))) (h : wpAny (model pw w) A (getItem o i) Q E s)
    (hs : subscripted slice false o i = operate [o, i] (getItem o i)) :
    wpAny (model pw w) A (subscriptTail value slice o i) Q E s := by
  unfold subscriptTail
  refine wpAny_bind ?_
  rw [getitemInPython_of_ne hT.not_modules]
  refine wpAny_bind (wpAny_specialOf hT hl ?_)
  have fin : wpAny (model pw w) A (subscripted slice false o i) (fun r s₃ => wpAny (model pw w) A (letTemporaryGo value o r >>= fun _ => pure r) Q E s₃) E s := by
    rw [hs]
    exact wpAny_operating (wpAny_mono h (fun r s₃ h₃ => wpAny_bind (wpAny_letTemporaryGo (wpAny_pure h₃))) fun _ _ x => x)
  first
    | exact wpAny_pure (wpAny_bind fin)
    | exact wpAny_bind (wpAny_pure (wpAny_bind fin))
    | exact wpAny_bind fin
theorem o_litem {value slice : Expr} (S : St w g L m R r s) (hm : (a, lstO items n) ∈ R) (h0 : 0 ≤ z) (hz : z < 1000000) (hx : items[z.toNat]? = some v) (h : Q v s)
    (hs : subscripted slice false (.ref a) (.int z u) = operate [.ref a, .int z u] (getItem (.ref a) (.int z u))) :
    wpAny (model pw w) A (subscriptTail value slice (.ref a) (.int z u)) Q E s :=
  sub_any (S.lst hm).typeIs slot_list_getitem.lookup (wpAny_getItem_list (S.lst hm) h0 (by lia) (by simpa using hx) h) hs
theorem o_item_ints {value slice : Expr} (S : St w g L m R r s) (hm : (a, lstO vs n) ∈ R) (hi : IntsAre vs ns) (h0 : 0 ≤ z) (h1 : z < ns.length) (hf : ns.length ≤ 1000000) (h : ∀ t, Q (.int (ns.getD z.toNat 0) t) s)
    (hs : subscripted slice false (.ref a) (.int z u) = operate [.ref a, .int z u] (getItem (.ref a) (.int z u))) :
    wpAny (model pw w) A (subscriptTail value slice (.ref a) (.int z u)) Q E s := by
  obtain ⟨t, hx⟩ := hi.get z.toNat _ (ints_getD h0 h1)
  exact o_litem S hm h0 (by lia) hx (h t) hs
theorem OCT_at : ∀ i < 8, ([97, 10, 34, 93, 91, 61, 45, 0] : List Int).getD i 0 = ((OCT.getD i 0).toNat : Int) ∧ OCT.getD i 0 ∈ OCT := by decide
noncomputable abbrev oints (os : List UInt8) : List Int := os.map fun c => (c.toNat : Int)
theorem c_law_octets {n : Nat} (rm : Rm A (k + 1)) (H : Hs w R s0) (h : ∀ s' fa (os : List UInt8) vs cap, Ef R s0 ((fa, lstO vs cap) :: R) s' → Oct os → IntsAre vs (oints os) → Q (.ref fa) s') : wpAny (model pw w) A (call (.ref 504) [.int n t1]) Q E s0 := by
  refine' enter (binds := [("number", .int n t1)]) (lb := [("number", .int n t1)]) rm H ?ho ?hcd ?hb ?hl ?hc ?h1 ?h2 ?h3 ?hr ?_
  walk_at "fn"
  intro L s E A S rm
  walk_at "stp"
  obtain ⟨fa, S⟩ : ∃ fa, St w (hideAll s0.heap (R.map (·.1))) L (Lm [("found", .ref fa), ("number", .int n t1)]) ((fa, lstO [] 0) :: R) s0 _ := ⟨_, S⟩
  have hm5 : (n : Int).fmod 5 = ((n % 5 : Nat) : Int) := by rw [Int.fmod_eq_emod_of_nonneg _ (by decide)]; exact (Int.natCast_emod n 5).symm
  have hl5 := Nat.mod_lt n (show 0 < 5 by decide)
  refine x_for1 (J := fun i ls R' => E5 fun (x : Nat) (os : List UInt8) (vs : List Value) (cap : Nat) (t : Tok) => A6 (IntsAre vs (oints os)) ((∀ c ∈ os, c ∈ OCT)) (os.length = i) (Lm ls "number" = some (.int x t)) (Lm ls "found" = some (.ref fa)) (R' = (fa, lstO vs cap) :: R)) (n := n % 5) (P := fun i v => ∃ k, v = .int (i : Int) k) S (by kernel_rfl!) ?_ ?_ ?_ ?_
  · walk_at "stp"
    with_reducible refine o_mod S (by decide) ?_
    intro s t S
    rw [hm5]
    walk_at "stp"
    exact it_rangeN S rm.h (by lia) ⟨n, [], [], 0, _, .nil, (fun c h => by cases h), rfl, by walk_at "lm", by walk_at "lm", rfl⟩
  · clear S
    intro i v ls R' I o s E' N hN hi hv hJ S
    obtain ⟨k0, rfl⟩ := hv
    obtain ⟨x, os, vs, cap, t, hi2, hok, hlen, m1, m2, rfl⟩ := hJ
    walk_at "stp"
    with_reducible refine o_fdiv S (by decide) (by decide) ?_
    intro s t3 S
    have hd : (x : Int).fdiv 5 = ((x / 5 : Nat) : Int) := by rw [Int.fdiv_eq_ediv_of_nonneg _ (by lia)]; exact (Int.natCast_ediv x 5).symm
    rw [hd]
    walk_at "stp"
    with_reducible refine m_lappend S (List.mem_cons_of_mem _ List.mem_cons_self) ?_
    walk_at "stp"
    with_reducible refine o_mod S (by decide) ?_
    intro s t4 S
    have hm : ((x / 5 : Nat) : Int).fmod 8 = ((x / 5 % 8 : Nat) : Int) := by rw [Int.fmod_eq_emod_of_nonneg _ (by decide)]; exact (Int.natCast_emod (x / 5) 8).symm
    have hl8 := Nat.mod_lt (x / 5) (show 0 < 8 by decide)
    obtain ⟨g1, g2⟩ := OCT_at (x / 5 % 8) hl8
    rw [hm]
    walk_at "stp"
    with_reducible refine o_item_ints S List.mem_cons_self (.cons _ _ (.cons _ _ (.cons _ _ (.cons _ _ (.cons _ _ (.cons _ _ (.cons _ _ (.cons _ _ .nil)))))))) (by lia) (by simp only [List.length_cons, List.length_nil]; lia) (by decide) ?_ ?_
    rotate_left
    · with_unfolding_all rfl
    intro t5
    rw [Int.toNat_natCast, g1]
    walk_at "stp"
    have S := S.drop
    refine o_lappend (pre := [(I, o)]) (fa := fa) (items := vs) (n := cap) (post := R) S (by rw [ints_len hi2, List.length_map]; lia) ?_
    intro s cap' S
    refine ⟨rfl, ?_⟩
    walk_at "stp"
    refine ⟨rfl, hN ⟨_, (fa, lstO (vs ++ _) cap') :: R, ⟨x / 5, os ++ [OCT.getD (x / 5 % 8) 0], _, cap', t3, ?_, ?_, ?_, ?_, ?_, rfl⟩, S⟩⟩
    · rw [oints, List.map_append]
      exact ints_app hi2 (.cons _ _ .nil)
    · intro c hc
      rcases List.mem_append.mp hc with hc | hc
      · exact hok c hc
      · rw [List.mem_singleton.mp hc]; exact g2
    · rw [List.length_append, List.length_singleton, hlen]
    · walk_at "lm"
    · walk_at "lm"
  · clear S
    intro ls R' s hJ S
    obtain ⟨x, os, vs, cap, t, hi2, hok, hlen, m1, m2, rfl⟩ := hJ
    walk_at "stp"
    exact h _ _ _ _ _ S.ef ⟨hok, by lia⟩ hi2
  · exact fun _ => rfl
end
section
variable {w : World} {g : Heap} {L : Addr} {m : Str → Option Value} {R R' pre post : Led} {r s s0 : Shared} {A : Around} {E : Value → Shared → Prop} {Q : Value → Shared → Prop} {k : Nat} {a x dx lim fa : Addr} {t t1 t2 tt tc k1 k2 u : Tok} {text b : List UInt8} {kind value v : Value} {e : Bool} {items vs : List Value} {n cap : Nat} {c d z : Int} {ns : List Int} {os : List UInt8}
theorem ev_pair {ev : Env} {i1 : Int} {b1 : List UInt8} {p1 q1 pos : Pos} {rest : List (Sem Value × Sem Value)} {Q : List (Value × Value) → Shared → Prop} (S : St w g L m R r s)
    (h : ∀ s' t u, St w g L m R r s' → wpAny (model pw w) A (evalPairs rest) (fun vs s₃ => Q ((.int i1 t, .bytes b1.toArray u) :: vs) s₃) E s') :
    wpAny (model pw w) A (evalPairs ((eval (.Constant (.int i1) 0 p1) ev, do let x ← eval (.Constant (.bytes b1) 0 q1) ev; standAt pos; pure x) :: rest)) Q E s :=
  evalPairs_cons (e_int S fun s S' t1 => wpAny_bind (e_bytes S' fun s S' u1 => wpAny_bind (wpAny_standAt (wpAny_pure (h s t1 u1 S')))))
theorem o_dict3 {ev : Env} {i1 i2 i3 : Int} {b1 b2 b3 : List UInt8} {p1 p2 p3 q1 q2 q3 pos : Pos} (S : St w g L m R r s) (hd : i1 ≠ i2 ∧ i1 ≠ i3 ∧ i2 ≠ i3)
    (h : ∀ s' d o v1 v2 v3, St w g L m ((d, o) :: R) r s' → (d == sysModules) = false → o.IsDictOf (intKind pw w) [(i1, .bytes b1.toArray v1), (i2, .bytes b2.toArray v2), (i3, .bytes b3.toArray v3)] → Q (.ref d) s') :
    wpAny (model pw w) A (eval (.Dict [some (.Constant (.int i1) 0 p1), some (.Constant (.int i2) 0 p2), some (.Constant (.int i3) 0 p3)] [.Constant (.bytes b1) 0 q1, .Constant (.bytes b2) 0 q2, .Constant (.bytes b3) 0 q3] pos) ev) Q E s := by
  have S' := S.more (k := s.toks) (o := { cls := .type "dict", data := .dict #[] }) (S.F.push _) (S.N.push S.F _)
  have hlow := S.F.notModules S.low
  refine wpAny_Dict_walk (knd := intKind pw w) rfl rfl (by simp) (by simp only [List.length_cons, List.length_nil]; decide) ?_
  simp only [pairTrees]
  generalize s.heap.objs.size = d at S' hlow
  refine ev_pair S' fun s t1 u1 S' => ev_pair S' fun s t2 u2 S' => ev_pair S' fun s t3 u3 S' => evalPairs_nil ⟨[(i1, .bytes b1.toArray u1), (i2, .bytes b2.toArray u2), (i3, .bytes b3.toArray u3)], ?_, ?_, fun h' hm hs => ?_⟩
  · refine ⟨?_, rfl, ?_, rfl, ?_, rfl, trivial⟩ <;> simp [intKind, Value.isInt]
  · exact ⟨_, #[], 0, (S'.N _ (.head _)).1, ⟨rfl, rfl, rfl⟩, rfl, fun _ he => by simp at he, Pairs.nil, List.nodup_nil⟩
  · obtain ⟨o, ho, hdo⟩ := Heap.dictOf_iff.mp hm
    obtain ⟨h1, h2, h3⟩ := hd
    have e : merged [] [(i1, Value.bytes b1.toArray u1), (i2, .bytes b2.toArray u2), (i3, .bytes b3.toArray u3)] = [(i1, .bytes b1.toArray u1), (i2, .bytes b2.toArray u2), (i3, .bytes b3.toArray u3)] := by
      simp [merged, stored, h1, h2, h3]
    rw [e] at hdo
    refine h _ d o u1 u2 u3 (S'.turn (o' := o) (fun b ob hb q => (hs.2 b hb).trans q) ho) hlow hdo
theorem o_slice_ints {value slice : Expr} (S : St w g L m R r s) (hm : (a, lstO vs n) ∈ R) (hi : IntsAre vs ns) (hz : vs.length ≤ 1000) (h0 : 0 ≤ z) (h : ∀ s' b vs', St w g L m ((b, lstO vs' 0) :: R) r s' → IntsAre vs' (ns.take z.toNat) → Q (.ref b) s')
    (hs : subscripted slice false (.ref a) (.ref s.heap.objs.size) = operate [.ref s.heap.objs.size, .ref a] (getItem (.ref a) (.ref s.heap.objs.size)))
    (ht : ∀ r, letTemporaryGo value (.ref a) r = pure ()) :
    wpAny (model pw w) A (subscriptTail value slice (.ref a) (.ref s.heap.objs.size)) Q E { s with heap := s.heap.push { cls := .type "slice", data := .fields #[.none, .int z t, .none] } } := by
  refine slice_list S.F S.N (S.lst hm) .none (.int z t) (fun h' F' N' => ?_) hs ht (by rw [List.size_toArray, sizeLine_eq]; lia)
  refine h _ _ (slicePick vs.toArray none (some z) none).toList (S.heap s.toks F' N' ?_) (slice_ints_uptoW hi h0)
  refine List.nodup_cons.mpr ⟨fun q => ?_, S.nd⟩
  obtain ⟨p, hp, e⟩ := List.mem_map.mp q
  have := Heap.lt_size (S.N p hp).1
  rw [e] at this
  exact absurd this (by show ¬ (s.heap.objs.size + 1 < s.heap.objs.size); lia)
theorem take1_iff {os : List UInt8} : ((oints os).take 1 = [10]) ↔ os.take 1 = [10] := by
  cases os with
  | nil => simp
  | cons c os =>
    simp only [oints, List.map_cons, List.take_succ_cons, List.take_zero, List.cons.injEq, and_true]
    constructor
    · intro h; exact UInt8.toNat_inj.mp (by have : c.toNat = 10 := by lia
                                            rw [this]; rfl)
    · rintro rfl; rfl
theorem o_eq_ints {b : Addr} {us : List Value} {ms : List Int} {n2 : Nat} (rm : Rm A 9) (S : St w g L m R r s) (h1 : (a, lstO vs n) ∈ R) (hi : IntsAre vs ns) (h2 : (b, lstO us n2) ∈ R) (hi' : IntsAre us ms) (h : Q (.bool (decide (ns = ms))) s) : wpAny (model pw w) A (compareOp .Eq (.ref a) (.ref b)) Q E s :=
  eq_intsK (S.lst h1) hi (S.lst h2) hi' (by have := rm.u; lia) h
theorem oints_back (os : List UInt8) : ((oints os).map fun n => n.toNat.toUInt8) = os := by
  induction os with
  | nil => rfl
  | cons c os ih => simp only [oints, List.map_cons, List.cons.injEq] at ih ⊢; exact ⟨by simp, ih⟩
theorem oints_byte (os : List UInt8) : ∀ n ∈ oints os, 0 ≤ n ∧ n < 256 := fun n hn => by
  obtain ⟨c, _, rfl⟩ := List.mem_map.mp hn
  have := c.toNat_lt
  lia
theorem esc_at (c : UInt8) (v1 v2 v3 t : Tok) : ∃ u, (valueAt [((10 : Int), Value.bytes #[92, 110] v1), (34, .bytes #[92, 34] v2), (0, .bytes #[92, 48, 48, 48] v3)] (c.toNat : Int)).getD (.bytes [c].toArray t) = .bytes (esc c).toArray u := by
  unfold esc valueAt
  by_cases h1 : c = 10
  · subst h1; exact ⟨_, rfl⟩
  by_cases h2 : c = 34
  · subst h2; exact ⟨_, rfl⟩
  by_cases h3 : c = 0
  · subst h3; exact ⟨_, rfl⟩
  have n1 : ¬ (10 : Int) = c.toNat := fun e => h1 (UInt8.toNat_inj.mp (by show c.toNat = 10; lia))
  have n2 : ¬ (34 : Int) = c.toNat := fun e => h2 (UInt8.toNat_inj.mp (by show c.toNat = 34; lia))
  have n3 : ¬ (0 : Int) = c.toNat := fun e => h3 (UInt8.toNat_inj.mp (by show c.toNat = 0; lia))
  refine ⟨t, ?_⟩
  rw [if_neg h1, if_neg h2, if_neg h3]
  simp only [List.find?, n1, n2, n3, decide_false, Option.map_none, Option.getD_none]
theorem esc_len (c : UInt8) : (esc c).length ≤ 4 := by
  unfold esc
  split
  · decide
  split
  · decide
  split
  · decide
  · simp
theorem flat_len (os : List UInt8) : (os.flatMap esc).length ≤ 4 * os.length := by
  induction os with
  | nil => simp
  | cons c os ih => have := esc_len c; simp only [List.flatMap_cons, List.length_append, List.length_cons]; lia
theorem c_law_text1 (rm : Rm A (k + 10)) (H : Hs w R s0) (hm : (fa, lstO vs cap) ∈ R) (ho : Oct os) (hi : IntsAre vs (oints os)) (h : ∀ s' t, Ef R s0 R s' → Q (.bytes (txtL os).toArray t) s') : wpAny (model pw w) A (call (.ref 511) [.ref fa, .bool true]) Q E s0 := by
  refine' enter (binds := [("octets", .ref fa), ("is_long", .bool true)]) (lb := [("is_long", .bool true), ("octets", .ref fa)]) rm H ?ho ?hcd ?hb ?hl ?hc ?h1 ?h2 ?h3 ?hr ?_
  walk_at "fn"
  intro L s E A S rm
  walk_at "stp"
  have hz : vs.length ≤ 1000 := by have e1 := ints_len hi; rw [List.length_map] at e1; have := ho.len; lia
  with_reducible refine o_slice_ints (z := 1) S hm hi hz (by decide) ?_ ?_ ?_
  rotate_left
  · with_unfolding_all rfl
  · intro _; with_unfolding_all rfl
  intro s b vs' S hi2
  walk_at "stp"
  with_reducible refine o_eq_ints (rm.le (by lia)) S (List.mem_cons_of_mem _ List.mem_cons_self) hi2 List.mem_cons_self (.cons _ _ .nil) ?_
  walk_at "stp"
  have hl2 := ho.len
  have hvl : vs.toArray.size = os.length := by rw [List.size_toArray, ints_len hi, List.length_map]
  have hcs : os.take 1 = [10] ∨ (¬ os.take 1 = [10] ∧ os.length < 2) ∨ (¬ os.take 1 = [10] ∧ ¬ os.length < 2) := by
    by_cases h1 : os.take 1 = [10]
    · exact .inl h1
    · by_cases h2 : os.length < 2
      · exact .inr (.inl ⟨h1, h2⟩)
      · exact .inr (.inr ⟨h1, h2⟩)
  rcases hcs with h1 | ⟨h1, h2⟩ | ⟨h1, h2⟩
  all_goals
    first
      | (refine ite_dy (take1_iff.mpr h1) ?_; walk_at "stp")
      | (refine ite_dn (mt take1_iff.mp h1) ?_
         walk_at "stp"
         with_reducible refine o_len_list S (S.lst (List.mem_cons_of_mem _ (List.mem_cons_of_mem _ hm))) (by lia) ?_
         intro s t9 S
         walk_at "stp"
         first
           | (refine ite_dy (by lia) ?_; walk_at "stp")
           | (refine ite_dn (by lia) ?_; walk_at "stp"))
    first
      | with_reducible refine o_addb (b := [91, 61, 61, 61, 61, 91]) (c := [10]) S (by decide) ?_
      | with_reducible refine o_addb (b := [91, 61, 61, 61, 61, 91]) (c := []) S (by decide) ?_
    intro s t3 S
    walk_at "stp"
    with_reducible refine o_bytes_ints S rm.h (List.mem_cons_of_mem _ (List.mem_cons_of_mem _ hm)) hi (oints_byte os) (by lia) ?_
    intro s t4 S
    rw [oints_back]
    walk_at "stp"
    with_reducible refine o_addb S (by simp only [List.length_append, List.length_cons, List.length_nil]; lia) ?_
    intro s t5 S
    walk_at "stp"
    with_reducible refine o_addb (c := [93, 61, 61, 61, 61, 93]) S (by simp only [List.length_append, List.length_cons, List.length_nil]; lia) ?_
    intro s t6 S
    have hh := h _ t6 S.drop.drop.ef
    unfold txtL at hh
    first
      | (have hc : os.take 1 = [10] ∨ os.length < 2 := by first | exact Or.inl h1 | exact Or.inr h2
         rw [if_pos hc] at hh; exact hh)
      | (have hc : ¬ (os.take 1 = [10] ∨ os.length < 2) := by rintro (h | h) <;> contradiction
         rw [if_neg hc] at hh; exact hh)
theorem c_law_text0 (rm : Rm A (k + 10)) (H : Hs w R s0) (hm : (fa, lstO vs cap) ∈ R) (ho : Oct os) (hi : IntsAre vs (oints os)) (h : ∀ s' t, Ef R s0 R s' → Q (.bytes (txtQ os).toArray t) s') : wpAny (model pw w) A (call (.ref 511) [.ref fa, .bool false]) Q E s0 := by
  refine' enter (binds := [("octets", .ref fa), ("is_long", .bool false)]) (lb := [("is_long", .bool false), ("octets", .ref fa)]) rm H ?ho ?hcd ?hb ?hl ?hc ?h1 ?h2 ?h3 ?hr ?_
  walk_at "fn"
  intro L s E A S rm
  walk_at "stp"
  have hl2 := ho.len
  have hvl : vs.length = os.length := by rw [ints_len hi, List.length_map]
  refine x_for1 (J := fun i ls R' => E1 fun t => A2 (Lm ls "found" = some (.bytes ([34] ++ (os.take i).flatMap esc).toArray t)) (R' = R)) (n := vs.length) (P := fun i v => vs[i]? = some v) S (by kernel_rfl!) ?_ ?_ ?_ ?_
  · walk_at "stp"
    exact it_list S rm.h (S.lst hm) ⟨lstO vs cap, .inr fun i ls R' hJ => by obtain ⟨_, _, rfl⟩ := hJ; exact hm⟩ ⟨_, by exact Lm_hit, rfl⟩
  · clear S
    intro i v ls R' I o s E' N hN hi' hv hJ S
    obtain ⟨t0, m1, rfl⟩ := hJ
    have hio : i < os.length := by lia
    obtain ⟨t7, hv'⟩ := hi.get i ((os[i].toNat : Int)) (by simp [oints, hio])
    rw [hv] at hv'; cases hv'
    generalize hc : os[i] = c at *
    walk_at "stp"
    with_reducible refine o_dict3 S (by decide) ?_
    intro s d o2 v1 v2 v3 S hlow hdo
    walk_at "stp"
    refine kdg_method S.N List.mem_cons_self hdo ?_
    walk_at "stp"
    refine mb2 rfl ?_
    walk_at "stp"
    dsimp only [List.cons_append, List.nil_append]
    have hc0 := c.toNat_lt
    with_reducible refine o_bytes_ints S rm.h List.mem_cons_self (.cons _ _ .nil) ?_ ?_ ?_
    · intro x hx; rw [List.mem_singleton.mp hx]; lia
    · simp
    intro s t1 S
    have ec : ([(c.toNat : Int)].map fun n => n.toNat.toUInt8) = [c] := by simp
    rw [ec]
    refine kdg_get2 S.N (List.mem_cons_of_mem _ List.mem_cons_self) hdo hlow (k := (c.toNat : Int)) (by simp [intKind, Value.isInt]) _ rfl ?_
    obtain ⟨u1, eu⟩ := esc_at c v1 v2 v3 t1
    rw [eu]
    have S := (S.tok (s.toks + 1)).drop.drop
    have hfl := flat_len (os.take i)
    have hel := esc_len c
    rw [List.length_take] at hfl
    with_reducible refine o_addb S (by simp only [List.length_append, List.length_cons, List.length_nil]; lia) ?_
    intro s t2 S
    walk_at "stp"
    refine ⟨rfl, hN ⟨_, _, ⟨t2, ?_, rfl⟩, S⟩⟩
    have e2 : [34] ++ (os.take (i + 1)).flatMap esc = 34 :: (os.take i).flatMap esc ++ esc c := by
      rw [List.take_succ, List.getElem?_eq_getElem hio, hc, List.flatMap_append]
      simp
    rw [e2]
    exact Lm_hit
  · clear S
    intro ls R' s hJ S
    obtain ⟨t0, m1, rfl⟩ := hJ
    rw [List.take_of_length_le (by lia)] at m1
    walk_at "stp"
    have hfl := flat_len os
    with_reducible refine o_addb (c := [34]) S (by simp only [List.length_append, List.length_cons, List.length_nil]; lia) ?_
    intro s t2 S
    exact h _ _ S.ef
  · exact fun _ => rfl
end
section
variable {w : World} {g : Heap} {L : Addr} {m : Str → Option Value} {R R' pre post : Led} {r s s0 : Shared} {A : Around} {E : Value → Shared → Prop} {Q : Value → Shared → Prop} {k : Nat} {a x dx lim fa : Addr} {t t1 t2 tt tc k1 k2 u : Tok} {text b : List UInt8} {kind value v : Value} {e : Bool} {items vs : List Value} {n cap : Nat} {c d z : Int} {ns : List Int} {os : List UInt8}
theorem c_law_text (lg : Bool) (rm : Rm A (k + 10)) (H : Hs w R s0) (hm : (fa, lstO vs cap) ∈ R) (ho : Oct os) (hi : IntsAre vs (oints os)) (h : ∀ s' t, Ef R s0 R s' → Q (.bytes (if lg then txtL os else txtQ os).toArray t) s') : wpAny (model pw w) A (call (.ref 511) [.ref fa, .bool lg]) Q E s0 := by
  cases lg with
  | true => exact c_law_text1 rm H hm ho hi h
  | false => exact c_law_text0 rm H hm ho hi h
theorem c_law_digits10 (rm : Rm A (k + 1)) (H : Hs w R s0) (hn : n < 100000000) (h : ∀ s' (ds : List UInt8) t, Ef R s0 R s' → Digs 10 n ds → Q (.bytes ds.toArray t) s') : wpAny (model pw w) A (call (.ref 497) [.int n t1, .int 10 t2]) Q E s0 :=
  c_law_digits (B := 10) rm H (.inl rfl) hn h
theorem c_law_digits16 (rm : Rm A (k + 1)) (H : Hs w R s0) (hn : n < 100000000) (h : ∀ s' (ds : List UInt8) t, Ef R s0 R s' → Digs 16 n ds → Q (.bytes ds.toArray t) s') : wpAny (model pw w) A (call (.ref 497) [.int n t1, .int 16 t2]) Q E s0 :=
  c_law_digits (B := 16) rm H (.inr rfl) hn h
theorem oct_len {os : List UInt8} (h : Oct os) : (oints os).length ≤ 4 := by rw [List.length_map]; exact h.len
theorem o_pow8 (S : St w g L m R r s) (h : ∀ s' t, St w g L m R r s' → Q (.int 100000000 t) s') : wpAny (model pw w) A (binaryOp .Pow (.int 10 t1) (.int 8 t2)) Q E s :=
  PyProof.Rows.pow_int (by decide) (by decide +kernel) (h _ _ (S.tok _))
theorem fmod_nat (n k : Nat) (h : 0 < k) : (n : Int).fmod k = ((n % k : Nat) : Int) := by rw [Int.fmod_eq_emod_of_nonneg _ (by lia)]; exact (Int.natCast_emod n k).symm
theorem fdiv_nat (n k : Nat) (h : 0 < k) : (n : Int).fdiv k = ((n / k : Nat) : Int) := by rw [Int.fdiv_eq_ediv_of_nonneg _ (by lia)]; exact (Int.natCast_ediv n k).symm
theorem c_law_token (rm : Rm A (k + 11)) (H : Hs w R s0) (h : ∀ s' a kd ti lo tv t1 t2 t3 v, Ef R s0 ((a, tupO [.int kd t1, .bytes ti.toArray t2, .bytes lo.toArray t3, v]) :: R) s' → Drawn kd ti lo tv → tv.Is v → Q (.ref a) s') :
    wpAny (model pw w) A (call (.ref 518) [.int n t1]) Q E s0 := by
  refine' enter (binds := [("number", .int n t1)]) (lb := [("number", .int n t1)]) rm H ?ho ?hcd ?hb ?hl ?hc ?h1 ?h2 ?h3 ?hr ?_
  walk_at "fn"
  intro L s E A S rm
  with_reducible refine x_tupS (names := ["form", "rest"]) ?_ rfl (by kernel_rfl!)
  walk_at "stp"
  with_reducible refine o_mod S (by decide) ?_
  intro s t2 S
  walk_at "stp"
  with_reducible refine o_fdiv S (by decide) (by decide) ?_
  intro s t3 S
  walk_at "stp"
  with_reducible refine o_pow8 S ?_
  intro s t4 S
  walk_at "stp"
  with_reducible refine o_mod S (by decide) ?_
  intro s t5 S
  have e1 : (n : Int).fmod 7 = ((n % 7 : Nat) : Int) := fmod_nat n 7 (by decide)
  have e2 : (n : Int).fdiv 7 = ((n / 7 : Nat) : Int) := fdiv_nat n 7 (by decide)
  have e3 : ((n / 7 : Nat) : Int).fmod 100000000 = ((n / 7 % 100000000 : Nat) : Int) := fmod_nat _ 100000000 (by decide)
  rw [e1, e2, e3]
  have hl1 := Nat.mod_lt n (show 0 < 7 by decide)
  have hl2 := Nat.mod_lt (n / 7) (show 0 < 100000000 by decide)
  generalize n % 7 = f at hl1
  generalize n / 7 % 100000000 = q at hl2
  clear e1 e2 e3
  walk_at "stp"
  have S := S.drop
  refine ite_d (fun hc => ?_) (fun hc => ?_)
  · walk_at "stp"
    with_reducible refine c_law_octets (k := k + 9) rm S.hs fun s fa os vs cap e ho hi => ?_
    have S := S.call e
    walk_at "stp"
    with_reducible refine c_law_text _ (k := k) rm S.hs List.mem_cons_self ho hi fun s t6 e => ?_
    have S := S.call e
    walk_at "stp"
    with_reducible refine c_law_text _ (k := k) rm S.hs List.mem_cons_self ho hi fun s t7 e => ?_
    have S := S.call e
    walk_at "stp"
    with_reducible refine o_bytes_ints S rm.h List.mem_cons_self hi (oints_byte os) (by rw [ints_len hi]; have := oct_len ho; lia) ?_
    intro s t8 S
    rw [oints_back]
    walk_at "stp"
    have S := S.sub (R' := (_, tupO _) :: R) (.cons_cons _ (.cons _ (.refl _)))
    refine h _ _ _ _ _ (.bytes os) _ _ _ _ S.ef ?_ ⟨_, rfl⟩
    have hf : f = 0 ∨ f = 1 := by lia
    rcases hf with rfl | rfl
    · exact .text1 ho
    · exact .text2 ho
  · walk_at "stp"
    refine ite_d (fun hc2 => ?_) (fun hc2 => ?_)
    · walk_at "stp"
      with_reducible refine c_law_digits10 (k := k + 9) rm S.hs hl2 fun s ds t6 e hd => ?_
      have S := S.call e
      walk_at "stp"
      with_reducible refine c_law_digits16 (k := k + 9) rm S.hs hl2 fun s hs t7 e hh => ?_
      have S := S.call e
      walk_at "stp"
      with_reducible refine o_addb (b := [48, 120]) S (by have := hh.len; simp only [List.length_cons, List.length_nil]; lia) ?_
      intro s t8 S
      walk_at "stp"
      exact h _ _ _ _ _ (.int q) _ _ _ _ S.ef (.num hl2 hd hh) ⟨_, rfl⟩
    · walk_at "stp"
      refine ite_d (fun hc3 => ?_) (fun hc3 => ?_)
      · walk_at "stp"
        with_reducible refine c_law_digits16 (k := k + 9) rm S.hs hl2 fun s hs t7 e hh => ?_
        have S := S.call e
        walk_at "stp"
        with_reducible refine o_addb (b := [110]) S (by have := hh.len; simp only [List.length_cons, List.length_nil]; lia) ?_
        intro s t8 S
        walk_at "stp"
        exact h _ _ _ _ _ (.bytes (110 :: hs)) _ _ _ _ S.ef (.name hh) ⟨_, rfl⟩
      · walk_at "stp"
        with_reducible refine c_law_signs (k := k + 9) rm S.hs fun s fa vs es n' e hp => ?_
        have S := S.call e
        walk_at "stp"
        with_reducible refine o_mod S (by decide) ?_
        intro s t6 S
        have e1 : (q : Int).fmod 20 = ((q % 20 : Nat) : Int) := fmod_nat q 20 (by decide)
        rw [e1]
        have hl3 := Nat.mod_lt q (show 0 < 20 by decide)
        have hlen : SIGNS.length = 20 := rfl
        obtain ⟨a, u1, u2, hx, hmem⟩ := hp.get (i := q % 20) (p := SIGNS[q % 20]) (List.getElem?_eq_getElem (by lia))
        have hin : (SIGNS[q % 20].1, SIGNS[q % 20].2) ∈ SIGNS := List.getElem_mem _
        generalize SIGNS[q % 20] = p at *
        walk_at "stp"
        refine o_litem S List.mem_cons_self (by lia) (by lia) (by rw [Int.toNat_natCast]; exact hx) ?_ (by with_unfolding_all rfl)
        with_reducible refine a_tup2 S rm.h (List.mem_cons_of_mem _ (List.mem_append_left _ hmem)) ?_
        intro s S
        walk_at "stp"
        have S := S.sub (R' := (_, tupO _) :: R) (.cons_cons _ (.cons _ (List.sublist_append_right es R)))
        exact h _ _ _ _ _ .none _ _ _ _ S.ef (.sign hin) rfl
end
noncomputable def isW (n : Int) : Prop := (48 ≤ n ∧ n ≤ 57) ∨ (65 ≤ n ∧ n ≤ 90) ∨ (97 ≤ n ∧ n ≤ 122)
/-- two signs' texts that may stand side by side -/
structure Near (left right : List UInt8) (last first : Int) : Prop where
  w : ¬ (isW last ∧ isW first)
  d1 : first = 46 → last ≠ 46 ∧ ¬ isW last
  d2 : last = 46 → ¬ (48 ≤ first ∧ first ≤ 57)
  b : first = 61 ∨ first = 91 → left ≠ [91]
  e : first = 61 → left ≠ [61] ∧ left ≠ [60] ∧ left ≠ [62]
  m : ¬ (first = 45 ∧ last = 45)
section
variable {w : World} {g : Heap} {L : Addr} {m : Str → Option Value} {R R' pre post : Led} {r s s0 : Shared} {A : Around} {E : Value → Shared → Prop} {Q : Value → Shared → Prop} {k : Nat} {a x dx lim fa : Addr} {t t1 t2 tt tc k1 k2 u : Tok} {text b : List UInt8} {kind value v : Value} {e : Bool} {items vs : List Value} {n cap : Nat} {c d z : Int} {ns : List Int} {os : List UInt8}
theorem c_is_word (rm : Rm A (k + 1)) (H : Hs w R s0) (h : ∀ s' b, Ef R s0 R s' → (b = true ↔ isW z) → Q (.bool b) s') : wpAny (model pw w) A (call (.ref 525) [.int z t]) Q E s0 := by
  refine' enter (binds := [("sign", .int z t)]) (lb := [("sign", .int z t)]) rm H ?ho ?hcd ?hb ?hl ?hc ?h1 ?h2 ?h3 ?hr ?_
  walk_at "fn"
  intro L s E A S rm
  repeat' (first | walk_at "st" | with_reducible refine ite_d (fun hc => ?_) (fun hc => ?_))
  all_goals (rename St _ _ _ _ _ _ _ => S; exact h _ _ S.ef (by unfold isW; simp only [decide_eq_true_eq]; lia))
theorem bys_any {bs : List (List UInt8)} {cc : List UInt8} (hb : BysAre vs bs) : (vs.any fun y => match y with | .bytes b _ => decide (b.toList = cc) | _ => false) = bs.any (· == cc) := by
  induction hb with
  | nil => rfl
  | cons b t _ ih => rw [List.any_cons, List.any_cons, ih]; rw [Bool.eq_iff_iff]; simp
theorem bys_mem {bs : List (List UInt8)} (hb : BysAre vs bs) : ∀ y ∈ vs, ∃ b t, y = .bytes b t := by
  induction hb with
  | nil => intro y hy; cases hy
  | cons b t _ ih =>
    intro y hy
    rcases List.mem_cons.mp hy with rfl | hy
    · exact ⟨_, _, rfl⟩
    · exact ih y hy
theorem o_inbys {bs : List (List UInt8)} {cc : List UInt8} (S : St w g L m R r s) (hm : (a, tupO vs) ∈ R) (hb : BysAre vs bs) (h : Q (.bool (bs.any (· == cc))) s) : wpAny (model pw w) A (compareOp .In (.bytes cc.toArray t) (.ref a)) Q E s := by
  refine PySem.SeqAt.in_tupleAt (fun y => match y with | .bytes b _ => decide (b.toList = cc) | _ => false) (items := vs.toArray) ⟨_, (S.N _ hm).1, rfl, 0, rfl⟩ (fun y hy => ?_) (by rw [List.any_toArray, bys_any hb]; exact h)
  obtain ⟨b, t', rfl⟩ := bys_mem hb y (by simpa using hy)
  exact fun prog w E Q hq => eqBool_by hq
set_option maxHeartbeats 2000000 in
theorem c_is_apart {l0 r0 : List UInt8} {last first : UInt8} (rm : Rm A (k + 2)) (H : Hs w R s0) (hz1 : l0.length ≤ 1000) (hz2 : r0.length ≤ 1000)
    (h : ∀ s' b, Ef R s0 R s' → (b = false → Near (l0 ++ [last]) (first :: r0) last.toNat first.toNat) → Q (.bool b) s') : wpAny (model pw w) A (call (.ref 532) [.bytes (l0 ++ [last]).toArray t1, .bytes (first :: r0).toArray t2]) Q E s0 := by
  refine' enter (binds := [("left", .bytes (l0 ++ [last]).toArray t1), ("right", .bytes (first :: r0).toArray t2)]) (lb := [("right", .bytes (first :: r0).toArray t2), ("left", .bytes (l0 ++ [last]).toArray t1)]) rm H ?ho ?hcd ?hb ?hl ?hc ?h1 ?h2 ?h3 ?hr ?_
  walk_at "fn"
  intro L s E A S rm
  with_reducible refine x_tupS (names := ["last", "first"]) ?_ rfl (by kernel_rfl!)
  walk_at "stp"
  have hll : (l0 ++ [last]).length = l0.length + 1 := by simp
  with_reducible refine c_len (b := l0 ++ [last]) S (by lia) ?_
  intro s S t3
  walk_at "stp"
  with_reducible refine o_item (b := l0 ++ [last]) S (by lia) (by lia) (by lia) ?_ rfl (fun _ => rfl)
  intro s S t4
  have e1 : (l0 ++ [last]).getD (((l0 ++ [last]).length : Int) - 1).toNat 0 = last := by
    rw [hll, show (((l0.length + 1 : Nat) : Int) - 1).toNat = l0.length by lia]
    simp
  rw [e1]
  walk_at "stp"
  with_reducible refine o_item (b := first :: r0) S (by simp only [List.length_cons]; lia) (by lia) (by simp only [List.length_cons]; lia) ?_ rfl (fun _ => rfl)
  intro s S t5
  rw [show (first :: r0).getD (0 : Int).toNat 0 = first from rfl]
  walk_at "stp"
  have S := S.drop
  with_reducible refine c_is_word rm S.hs fun s b1 e h1 => ?_
  have S := S.call e
  walk_at "stp"
  by_cases hW : isW last.toNat ∧ isW first.toNat
  · refine ite_by (h1.mpr hW.1) ?_
    walk_at "stp"
    with_reducible refine c_is_word rm S.hs fun s b2 e h2 => ?_
    have S := S.call e
    walk_at "stp"
    refine ite_by (h2.mpr hW.2) ?_
    walk_at "stp"
    exact h _ _ S.ef (fun x => by cases x)
  have hbb : b1 = true ∨ b1 = false := by cases b1 <;> simp
  rcases hbb with hb | hb
  all_goals
    first
      | (refine ite_by hb ?_
         walk_at "stp"
         with_reducible refine c_is_word rm S.hs fun s b2 e h2 => ?_
         have S := S.call e
         walk_at "stp"
         refine ite_bn (Bool.eq_false_iff.mpr fun h9 => hW ⟨h1.mp hb, h2.mp h9⟩) ?_
         walk_at "stp")
      | (refine ite_bn hb ?_; walk_at "stp")
    clear e1
    refine ite_d (fun hf => ?_) (fun hf => ?_)
    · walk_at "stp"
      refine ite_d (fun hl => ?_) (fun hl => ?_)
      · exact h _ _ S.ef (fun x => absurd hl (by simpa using x))
      · walk_at "stp"
        with_reducible refine c_is_word rm S.hs fun s b3 e h3 => ?_
        have S := S.call e
        walk_at "stp"
        exact h _ _ S.ef fun x => ⟨hW, fun _ => ⟨hl, fun h9 => by rw [h3.mpr h9] at x; cases x⟩, fun h9 => absurd h9 hl, (fun h9 => by lia), (fun h9 => by lia), fun h9 => by lia⟩
    · walk_at "stp"
      refine ite_d (fun hl => ?_) (fun hl => ?_)
      · walk_at "stp"
        refine ite_d (fun h7 => ?_) (fun h7 => ?_)
        · walk_at "stp"
          exact h _ _ S.ef fun x => ⟨hW, fun h9 => absurd h9 hf, fun _ h9 => absurd h9.2 (by simpa using x), (fun h9 e9 => by
            have e0 : last = 91 := by simpa using congrArg List.getLast? e9
            subst e0; exact absurd hl (by decide)), (fun h9 => ⟨fun e9 => by
            have e0 : last = 61 := by simpa using congrArg List.getLast? e9
            subst e0; exact absurd hl (by decide), fun e9 => by
            have e0 : last = 60 := by simpa using congrArg List.getLast? e9
            subst e0; exact absurd hl (by decide), fun e9 => by
            have e0 : last = 62 := by simpa using congrArg List.getLast? e9
            subst e0; exact absurd hl (by decide)⟩), fun h9 => by lia⟩
        · exact h _ _ S.ef fun x => ⟨hW, fun h9 => absurd h9 hf, fun _ h9 => absurd h9.1 h7, (fun h9 e9 => by
            have e0 : last = 91 := by simpa using congrArg List.getLast? e9
            subst e0; exact absurd hl (by decide)), (fun h9 => ⟨fun e9 => by
            have e0 : last = 61 := by simpa using congrArg List.getLast? e9
            subst e0; exact absurd hl (by decide), fun e9 => by
            have e0 : last = 60 := by simpa using congrArg List.getLast? e9
            subst e0; exact absurd hl (by decide), fun e9 => by
            have e0 : last = 62 := by simpa using congrArg List.getLast? e9
            subst e0; exact absurd hl (by decide)⟩), fun h9 => by lia⟩
      · walk_at "stp"
        refine o_in S List.mem_cons_self (.cons _ _ (.cons _ _ .nil)) ?_
        have S := S.drop
        walk_at "stp"
        have ha : (([61, 91] : List Int).any fun x => x == (first.toNat : Int)) = true ↔ (first.toNat : Int) = 61 ∨ (first.toNat : Int) = 91 := by
          simp only [List.any_cons, List.any_nil, Bool.or_false, Bool.or_eq_true, beq_iff_eq]
          lia
        by_cases hB : ((first.toNat : Int) = 61 ∨ (first.toNat : Int) = 91) ∧ l0 ++ [last] = [91]
        · refine ite_by (ha.mpr hB.1) ?_
          walk_at "stp"
          refine ite_by (beq_iff_eq.mpr hB.2) ?_
          walk_at "stp"
          exact h _ _ S.ef (fun x => by cases x)
        have hcc : ((first.toNat : Int) = 61 ∨ (first.toNat : Int) = 91) ∨ ¬ ((first.toNat : Int) = 61 ∨ (first.toNat : Int) = 91) := by lia
        rcases hcc with hc | hc
        all_goals
          first
            | (refine ite_by (ha.mpr hc) ?_
               walk_at "stp"
               refine ite_bn (beq_eq_false_iff_ne.mpr fun h9 => hB ⟨hc, h9⟩) ?_
               walk_at "stp")
            | (refine ite_bn (Bool.eq_false_iff.mpr (mt ha.mp hc)) ?_; walk_at "stp")
          refine ite_d (fun h6 => ?_) (fun h6 => ?_)
          · walk_at "stp"
            refine o_inbys (bs := [[61], [60], [62]]) S List.mem_cons_self (.cons [61] _ (.cons [60] _ (.cons [62] _ .nil))) ?_
            have S := S.drop
            walk_at "stp"
            refine ite_b (fun h7 => ?_) (fun h7 => ?_)
            · walk_at "stp"
              exact h _ _ S.ef fun x => by rw [h7] at x; cases x
            · walk_at "stp"
              refine ite_dn (by lia) ?_
              walk_at "stp"
              exact h _ _ S.ef fun x => ⟨hW, fun h9 => absurd h9 hf, fun h9 => absurd h9 hl, (fun h9 e9 => hB ⟨h9, e9⟩), (fun _ => by simp at h7; exact ⟨fun e => h7.1 e.symm, fun e => h7.2.1 e.symm, fun e => h7.2.2 e.symm⟩), fun h9 => by lia⟩
          · walk_at "stp"
            refine ite_dn h6 ?_
            walk_at "stp"
            refine ite_d (fun h7 => ?_) (fun h7 => ?_)
            · walk_at "stp"
              exact h _ _ S.ef fun x => ⟨hW, fun h9 => absurd h9 hf, fun h9 => absurd h9 hl, (fun h9 e9 => hB ⟨h9, e9⟩), (fun h9 => absurd h9 h6), fun h9 => absurd h9.2 (by simpa using x)⟩
            · exact h _ _ S.ef fun x => ⟨hW, fun h9 => absurd h9 hf, fun h9 => absurd h9 hl, (fun h9 e9 => hB ⟨h9, e9⟩), (fun h9 => absurd h9 h6), fun h9 => absurd h9.1 h7⟩
end
section
open PySem.Builtin
namespace FBR
theorem slot_repr : Slot "bytes" "__repr__" "bytes.__repr__" :=
  .of (owner := "bytes") (n := "__repr__") (by rw [typeLookup_type, builtinLookup_eq_fast]; kernel_rfl) (by decide +kernel) (by decide +kernel) (by decide +kernel)
    (by first | exact .inl (by decide +kernel) | exact .inr (by decide +kernel)) (by rw [isSubtype_type]; kernel_rfl)
theorem entry_repr : entryFor table "bytes.__repr__" = some Builtin.«bytes.__repr__» := entryFor_of_tree (by kernel_rfl)
theorem args_repr (a : Value) : argsOk "bytes.__repr__" ⟨[a], []⟩ := by
  unfold argsOk; rw [signature?_of (id := "bytes.__repr__") (n := ['_', '_', 'r', 'p', 'e', 'r', '_', '_']) (o := ['s', 'e', 't', 'y', 'b']) (by kernel_rfl) FB.owner_bytes]; kernel_rfl
end FBR
noncomputable def litB (b : List UInt8) : Str := Bytes.literal b.toArray
theorem fold_len (f : UInt8 → Array Nat) (hf : ∀ c, (f c).size ≤ 4) : ∀ (b : List UInt8) (acc : Array Nat), (b.foldl (fun acc c => acc ++ f c) acc).size ≤ acc.size + 4 * b.length
  | [], acc => by simp
  | c :: b, acc => by
    have h1 := fold_len f hf b (acc ++ f c)
    have h2 := hf c
    simp only [List.foldl_cons, List.length_cons, Array.size_append] at h1 ⊢
    lia
theorem lit_len (b : List UInt8) : (litB b).length ≤ 4 * b.length + 3 := by
  unfold litB Bytes.literal
  show Array.size _ ≤ _
  dsimp only
  rw [Array.size_push]
  simp only [List.foldl_toArray]
  refine Nat.le_trans (Nat.succ_le_succ (fold_len _ (fun c => ?_) b _)) ?_
  · repeat' split
    all_goals simp
  · simp only [List.size_toArray, List.length_cons, List.length_nil]; lia
section
variable {prog : Program} {w : World} {A : Around} {E : Value → Shared → Prop} {s : Shared} {b : List UInt8} {t : Tok}
theorem gives_by_repr (hz : b.length ≤ 100000) : Gives (Builtin.«bytes.__repr__» ⟨[.bytes b.toArray t], []⟩) (.str (litB b)) := by
  refine .of_eq ?_
  show (Bytes.literalAsked b.toArray >>= fun l => retStr l) = _
  unfold Bytes.literalAsked
  have e : (Bytes.tooLong (4 * b.toArray.size + 3 + 0) && Bytes.tooLong (Bytes.literalLength b.toArray false + 0)) = false := by
    rw [Bool.and_eq_false_iff]; left
    unfold Bytes.tooLong
    rw [List.size_toArray, sizeLine_eq]
    simp; lia
  rw [e]
  rfl
theorem repr_by (hz : b.length ≤ 100000) : ReprIs prog w (.bytes b.toArray t) (litB b) := fun n hn _ _ _ _ h => by
  have hn' : n ≤ sizeLine := by lia
  rw [pyReprUnder_leaf (v := .bytes b.toArray t) hn' (fun _ e => nomatch e)]
  unfold pyRepr
  exact wpAny_bind (wpAny_pyReprObj_gives (typeIs_bytes _ _ _) FBR.slot_repr FBR.entry_repr (FBR.args_repr _) (gives_by_repr hz) (wpAny_pure (h _)) (hx := by have := lit_len b; rw [sizeLine_eq]; lia))
/-- a token's value, as text -/
noncomputable def tvText : TV → Str
  | .none => "None"
  | .int n => toString n
  | .bytes b => litB b
noncomputable def TV.small : TV → Prop
  | .none => True
  | .int n => n.natAbs < 10 ^ 20
  | .bytes b => b.length ≤ 1000
theorem repr_tv {tv : TV} {v : Value} (h : tv.Is v) (hs : tv.small) : ReprIs prog w v (tvText tv) := by
  cases tv with
  | none => obtain rfl : v = .none := h; exact ReprIs.none
  | int n =>
    obtain ⟨t, rfl⟩ := h
    exact ReprIs.int t (by
      have h1 : n.natAbs < 2 ^ 67 := Nat.lt_trans hs (by decide)
      by_cases h0 : n.natAbs = 0
      · rw [h0]; decide
      · have := (Nat.log2_lt h0).mpr h1; lia)
  | bytes b => obtain ⟨t, rfl⟩ := h; exact repr_by (Nat.le_trans hs (by decide))
theorem tvText_len {tv : TV} (hs : tv.small) : (tvText tv).length ≤ 5000 := by
  cases tv with
  | none => decide
  | int n =>
    have := int_text_length_le10 (k := 20) (by decide) hs
    show (Str.ofString (toString n)).length ≤ _
    rw [PySem.ofString_length]; lia
  | bytes b => have h1 := lit_len b; have h2 : b.length ≤ 1000 := hs; show (litB b).length ≤ _; lia
noncomputable def pairText (p : Int × TV) : Str := tupleText [toString p.1, tvText p.2]
noncomputable def tokText (ts : List (Int × TV)) : Str := if ts = [] then "[]" else listText (ts.map pairText)
theorem pairText_len {p : Int × TV} (h1 : p.1.natAbs < 10 ^ 4) (h2 : p.2.small) : (pairText p).length ≤ 6000 := by
  have e1 := tupleText_len_le [Str.ofString (toString p.1), tvText p.2]
  have e2 := tvText_len h2
  have e3 := int_text_length_le10 (k := 4) (by decide) h1
  rw [← PySem.ofString_length] at e3
  simp only [List.map_cons, List.map_nil, List.sum_cons, List.sum_nil, List.length_cons, List.length_nil] at e1
  show (tupleText [Str.ofString (toString p.1), tvText p.2]).length ≤ _
  lia
theorem sum_len : ∀ ts : List (Int × TV), (∀ p ∈ ts, p.1.natAbs < 10 ^ 4 ∧ p.2.small) → ((ts.map pairText).map (·.length)).sum ≤ 6000 * ts.length
  | [], _ => by simp
  | p :: ts, h => by
    have h1 := sum_len ts fun q hq => h q (.tail _ hq)
    have h2 := pairText_len (h p (.head _)).1 (h p (.head _)).2
    simp only [List.map_cons, List.sum_cons, List.length_cons] at h1 ⊢
    lia
theorem tokText_len {ts : List (Int × TV)} (h : ∀ p ∈ ts, p.1.natAbs < 10 ^ 4 ∧ p.2.small) (hz : ts.length ≤ 100) : (tokText ts).length ≤ 1000000 := by
  unfold tokText
  split
  · decide
  have e1 := listText_len_le (ts.map pairText)
  have e2 := sum_len ts h
  rw [List.length_map] at e1
  lia
/-- a pair (kind, value) stands at T -/
noncomputable def PairAt (h : Heap) (p : Int × TV) (y : Value) : Prop := ∃ T o n t v, y = .ref T ∧ h.get? T = some o ∧ o.cls = .type "tuple" ∧ o.data = .seq #[.int p.1 t, v] n ∧ p.2.Is v
noncomputable def refsOf (vs : List Value) : List Addr := vs.filterMap fun y => match y with | .ref T => some T | _ => none
theorem reprK_pair {h : Heap} {p : Int × TV} {y : Value} (hp : PairAt h p y) (h1 : p.1.natAbs < 10 ^ 4) (h2 : p.2.small) : ∃ T, y = .ref T ∧ ReprK prog w [T] h 1 y (pairText p) := by
  obtain ⟨T, o, n, t, v, rfl, ho, hc, hd, hv⟩ := hp
  have hi : ReprIs prog w (.int p.1 t) (toString p.1) := ReprIs.int t (by
    have h1 : p.1.natAbs < 2 ^ 14 := Nat.lt_trans h1 (by decide)
    by_cases h0 : p.1.natAbs = 0
    · rw [h0]; decide
    · have := (Nat.log2_lt h0).mpr h1; lia)
  exact ⟨T, rfl, ReprK.tuple (as := []) ho hc hd (by simp) (.cons (ReprK.of_is hi [] h 0) (.cons (ReprK.of_is (repr_tv hv h2) [] h 0) .nil))⟩
end
section
variable {w : World} {A : Around} {E : Value → Shared → Prop} {s : Shared} {Q : Value → Shared → Prop}
theorem call_repr_toks {a : Addr} {oa : Obj} {na : Nat} {vs : List Value} {ts : List (Int × TV)} (ha : s.heap.get? a = some oa) (hc : oa.cls = .type "list") (hd : oa.data = .seq vs.toArray na) (hlen : vs.length = ts.length)
    (hel : ∀ (i : Nat) (y : Value), vs[i]? = some y → ∃ p, ts[i]? = some p ∧ PairAt s.heap p y ∧ p.1.natAbs < 10 ^ 4 ∧ p.2.small) (hz : ts.length ≤ 100) (hg : A.guards = some []) (hu : A.units + 10 < cLine)
    (hQ : ∀ h' u tk, (∀ b o, s.heap.get? b = some o → h'.get? b = some o) → Q (.str (tokText ts) u) { s with heap := h', toks := tk }) :
    wpAny (model pw w) A (call (.builtin "repr") [.ref a]) Q E s := by
  have hT : s.TypeIs (.ref a) "list" := ⟨_, ha, hc⟩
  have hall : ∀ p ∈ ts, p.1.natAbs < 10 ^ 4 ∧ p.2.small := fun p hp => by
    obtain ⟨i, hi, e⟩ := List.mem_iff_getElem.mp hp
    obtain ⟨q, e2, _, e3, e4⟩ := hel i vs[i] (List.getElem?_eq_getElem (by lia))
    rw [List.getElem?_eq_getElem hi, e] at e2; cases e2
    exact ⟨e3, e4⟩
  have hfit := tokText_len hall hz
  cases vs with
  | nil =>
    have hts : ts = [] := by cases ts with | nil => rfl | cons p l => simp at hlen
    subst hts
    exact call_repr_slot (by lia) hT F.slot_list_repr.toG (call_list_repr_empty hT ha hd ⟨_, _, rfl, hQ s.heap _ _ fun _ _ e => e⟩)
  | cons x l =>
    have hne : ts ≠ [] := by rintro rfl; simp at hlen
    have htx : tokText ts = listText (ts.map pairText) := if_neg hne
    rw [htx] at hQ hfit
    have hna : a ∉ refsOf (x :: l) := fun q => by
      obtain ⟨y, hy, e⟩ := List.mem_filterMap.mp q
      obtain ⟨i, hi, e'⟩ := List.mem_iff_getElem.mp hy
      obtain ⟨p, _, ⟨T, o, n, t, v, rfl, ho, hcc, _⟩, _⟩ := hel i y (by rw [List.getElem?_eq_getElem hi, e'])
      cases e
      rw [ha] at ho; cases ho; rw [hc] at hcc; injection hcc with hcc; exact absurd hcc (by decide)
    refine call_repr_slot (by lia) hT F.slot_list_repr.toG (call_list_reprK (d := 1) (as := refsOf (x :: l)) (ts := ts.map pairText) ha hc hd hna (by simp [← hlen]) (fun i y hy => ?_) hg (fun b _ => Clear.nil b) (by show A.units + 1 + 2 < cLine; lia) (fun _ _ e => e) (fun h' u tk hk => ?_) (by rw [sizeLine_eq]; lia))
    · have hy' : (x :: l)[i]? = some y := by simpa using hy
      obtain ⟨p, hp, hpa, h1, h2⟩ := hel i y hy'
      obtain ⟨T, rfl, hk⟩ := reprK_pair (prog := pw) (w := w) hpa h1 h2
      refine ⟨pairText p, by rw [List.getElem?_map, hp]; rfl, hk.more fun b hb => ?_⟩
      rw [List.mem_singleton.mp hb]
      exact List.mem_filterMap.mpr ⟨_, List.mem_of_getElem? hy', rfl⟩
    · exact ⟨_, _, rfl, hQ h' u tk hk⟩
end
section
variable {w : World} {g : Heap} {L : Addr} {m : Str → Option Value} {R : Led} {r s : Shared} {A : Around} {E : Value → Shared → Prop} {Q : Value → Shared → Prop}
theorem St.grown {h' : Heap} {tk : Nat} (S : St w g L m R r s) (hk : ∀ b o, s.heap.get? b = some o → h'.get? b = some o) : St w g L m R r { s with heap := h', toks := tk } :=
  S.of_ef (fun b o _ e => hk b o e) (fun p hp => ⟨hk _ _ (S.N p hp).1, .inl (List.mem_map_of_mem hp)⟩) S.nd
theorem o_repr {a : Addr} {oa : Obj} {na : Nat} {vs : List Value} {ts : List (Int × TV)} (rm : Rm A 9) (S : St w g L m R r s) (ha : s.heap.get? a = some oa) (hc : oa.cls = .type "list") (hd : oa.data = .seq vs.toArray na) (hlen : vs.length = ts.length)
    (hel : ∀ (i : Nat) (y : Value), vs[i]? = some y → ∃ p, ts[i]? = some p ∧ PairAt s.heap p y ∧ p.1.natAbs < 10 ^ 4 ∧ p.2.small) (hz : ts.length ≤ 100) (hg : A.guards = some [])
    (hQ : ∀ s' u, St w g L m R r s' → Q (.str (tokText ts) u) s') :
    wpAny (model pw w) A (call (.builtin "repr") [.ref a]) Q E s :=
  call_repr_toks ha hc hd hlen hel hz hg (by have := rm.u; lia) fun h' u tk hk => hQ _ u (S.grown hk)
end

end
section
variable {prog : Program} {w : World} {A : Around} {E : Value → Shared → Prop} {s : Shared} {env : Env}
theorem asg_comp {elt iter : Expr} {x y : Str} {px py : Pos} {scope : Scope} {pos spos : Pos} {Q : Flow → Shared → Prop} (G : Value → Array Value → Prop) (hh : A.handled = none)
    (hsw : swapsWith (.ListComp elt [⟨.Name x px, iter, [], 0⟩] scope pos) (some (.Name y py)) spos.line env = pure true)
    (hfree : ∀ z ∈ scope.names, z.2 ≠ .free) (hcell : ∀ z ∈ scope.names, z.2 ≠ .cell) (hkind : scope.kind = .function)
    (hnames : ∀ z ∈ scope.names, z.2 = .local → scope.names.lookup z.1 = some .local) (hx : scope.names.lookup x = some .local)
    (hy : env.kindOf y = some .local) (hp : (env.scope.kind == .class || (env.scope.kind == .module && env.locals != env.globals)) = false)
    (h : wpAny (model prog w) A (eval iter env) (fun xv s₁ => ∃ ax items m, xv = .ref ax ∧ s₁.heap.IsList ax items ∧ items.size ≤ sizeLine ∧ s₁.heap.Ns env.locals m ∧
      (∀ C v s₂ m₂ E', v ∈ items → s₂.heap.Ns C m₂ → m₂ x = some v → (∀ b o, s₁.heap.get? b = some o → s₂.heap.get? b = some o) →
        wpAny (model prog w) A (eval elt (compEnv scope C env)) (fun y s₃ => (∃ T vs, y = .ref T ∧ s₂.heap.get? T = none ∧ s₃.heap.IsTuple T vs ∧ G v vs) ∧ Keeps s₂ s₃) E' s₂) ∧
      (∀ D h' tk ys, s₁.heap.get? D = none → h'.IsList D ys → Paired (TupIs G h') items.toList ys.toList → h'.Ns env.locals (fun z => if z = y then some (.ref D) else m z) → (∀ b o, b ≠ env.locals → s₁.heap.get? b = some o → h'.get? b = some o) →
        Q .next { s₁ with heap := h', toks := tk })) E s)
    (hs : ∀ x, foldedSetIterable iter env x = pure x := by intro _; rfl) :
    wpAny (model prog w) A (exec (.Assign [.Name y py] (.ListComp elt [⟨.Name x px, iter, [], 0⟩] scope pos) spos) env) Q E s := by
  rw [exec_Assign_Name_used _ _ _ _ hsw]
  refine wpAny_bind (wpAny_standAt (wpAny_bind ?_))
  show wpAny _ A (do let _ ← comprehension (.ListComp elt [⟨.Name x px, iter, [], 0⟩] scope pos) scope env _ (newList []) false (eval iter env) (some (assign (.Name y py) env))) _ _ s
  refine wpAny_bind (wpAny_mono (wpAny_comprehension_use (Q := fun _ s' => Q .next s') rfl hs hfree hkind hnames (wpAny_mono h (fun xv s₁ h₁ => ?_) fun _ _ e => e))
    (fun _ s' hq => wpAny_pure (wpAny_pure hq)) fun _ _ e => e)
  obtain ⟨ax, items, m, rfl, hl, hsz, hn, helt, hQ⟩ := h₁
  refine wpAny_pyIter_list hl (wpAny_newObj_type (hd := by size_fits) (wpAny_newFunctionEnv hcell (by intro y hy; simp at hy) (fun h₁ hns₁ hsb₁ => ?_) hkind))
  dsimp only at hns₁ hsb₁ ⊢
  obtain ⟨ol, hol, hol'⟩ := id hl
  have hax : ax < s₁.heap.objs.size := Heap.lt_size hol
  generalize hH1 : s₁.heap.push { cls := .type "list_iterator", data := .fields #[.ref ax, .int 0 0] } = H1 at hns₁ hsb₁ ⊢
  have hD : H1.objs.size = s₁.heap.objs.size + 1 := by rw [← hH1, Heap.size_push]
  generalize hH2 : H1.push { cls := .type "list", dict := none, data := .seq ([] : List Value).toArray } = H2 at hns₁ hsb₁ ⊢
  have hC : H2.objs.size = s₁.heap.objs.size + 2 := by rw [← hH2, Heap.size_push, hD]
  have hDI : H1.objs.size ≠ s₁.heap.objs.size := by rw [hD]; exact Nat.succ_ne_self _
  have hDC : H1.objs.size ≠ H2.objs.size := by rw [hD, hC]; exact Nat.ne_of_lt (Nat.lt_succ_self _)
  have hIC : s₁.heap.objs.size ≠ H2.objs.size := by rw [hC]; exact Nat.ne_of_lt (Nat.lt_succ_of_lt (Nat.lt_succ_self _))
  have below : ∀ b, b < s₁.heap.objs.size → b ≠ H2.objs.size ∧ b ≠ s₁.heap.objs.size ∧ b ≠ H1.objs.size := fun b hb =>
    ⟨by rw [hC]; exact Nat.ne_of_lt (Nat.lt_succ_of_lt (Nat.lt_succ_of_lt hb)), Nat.ne_of_lt hb, by rw [hD]; exact Nat.ne_of_lt (Nat.lt_succ_of_lt hb)⟩
  have old : ∀ b o, s₁.heap.get? b = some o → h₁.get? b = some o := fun b o e =>
    hsb₁.extBut b o (below b (Heap.lt_size e)).1 (Heap.get?_push_of_some _ (hH2 ▸ Heap.get?_push_of_some _ (hH1 ▸ Heap.get?_push_of_some _ e)))
  have hit : h₁.IsListIter s₁.heap.objs.size ax 0 :=
    ⟨_, hsb₁.extBut _ _ hIC (Heap.get?_push_of_some _ (hH2 ▸ Heap.get?_push_of_some _ (hH1 ▸ Heap.get?_push_size _ rfl))), rfl, rfl⟩
  have hacc : h₁.IsList H1.objs.size #[] := ⟨_, hsb₁.extBut _ _ hDC (Heap.get?_push_of_some _ (hH2 ▸ Heap.get?_push_size _ rfl)), rfl, _, rfl⟩
  have hl₁ : h₁.IsList ax items := ⟨ol, old _ _ hol, hol'⟩
  have hnew : s₁.heap.get? H1.objs.size = none := by
    cases e : s₁.heap.get? H1.objs.size with
    | none => rfl
    | some o' => have := Heap.lt_size e; rw [hD] at this; exact absurd this (Nat.not_lt.mpr (Nat.le_succ _))
  have hL : env.locals < s₁.heap.objs.size := hn.lt
  have hLne := below env.locals hL
  have loop : ∀ s₂ : Shared, s₂ = { s₁ with heap := h₁, toks := s₁.toks + ([] : List (Str × Value)).length } →
      codeAny (model prog w) A (.compLoop (.ListComp elt [⟨.Name x px, iter, [], 0⟩] scope pos) 0 (.ref s₁.heap.objs.size) (.ref H1.objs.size) (compEnv scope H2.objs.size env))
        (fun r s' => match r with
      | .ok _ => wpAny (model prog w) A (assign (.Name y py) env (.ref H1.objs.size)) (fun _ s'' => ∃ m, s''.heap.Ns H2.objs.size m ∧ ∀ h', Heap.SameBut H2.objs.size s''.heap h' → Q .next { s'' with heap := h' }) E s'
      | .error x => ∃ m, s'.heap.Ns H2.objs.size m ∧ ∀ h', Heap.SameBut H2.objs.size s'.heap h' → wpAny (α := Value) (model prog w) A (passOn "comprehension.variables-let-go" x (compEnv scope H2.objs.size env)) (fun _ s' => Q .next s') E { s' with heap := h' }) s₂ := by
    rintro s₂ rfl
    refine codeAny_compLoop_tup (hsz := hsz) (cenv := compEnv scope H2.objs.size env) (fun _ => true) G hh hx (by simp [compEnv, hkind]) hDI hDC hIC (below ax hax).2.1 (below ax hax).1 (below ax hax).2.2 hit hl₁ hacc hns₁
      (fun v s₂ m₂ hv hn hm hk => wpAny_pure ⟨rfl, s₂.heap, s₂.toks, rfl, fun _ _ e => e⟩)
      (fun v s₂ m₂ hv hpv hn hm hk => helt _ v s₂ m₂ _ hv hn hm fun b o e => hk b o (below b (Heap.lt_size e)).1 (below b (Heap.lt_size e)).2.1 (below b (Heap.lt_size e)).2.2 (old b o e)) fun h' tk m' ys hnC ha hF hk => ?_
    have hn' := hn.at' fun o e => hk _ o hLne.1 hLne.2.1 hLne.2.2 (old _ o e)
    refine wpAny_assign_Name (wpAny_storeName_local hy hn' (fun h₂ hn₂ hs₂ => ?_) hp)
    refine ⟨m', hnC.sameBut hs₂ (Ne.symm hLne.1), fun h₃ hs₃ => ?_⟩
    refine hQ _ h₃ _ ys hnew ((ha.extBut hs₂.extBut (Ne.symm hLne.2.2)).extBut hs₃.extBut hDC) ?_ (hn₂.sameBut hs₃ hLne.1) fun b o hbL e =>
      hs₃.extBut b o (below b (Heap.lt_size e)).1 (hs₂.extBut b o hbL (hk b o (below b (Heap.lt_size e)).1 (below b (Heap.lt_size e)).2.1 (below b (Heap.lt_size e)).2.2 (old b o e)))
    rw [show items.toList.filter (fun _ => true) = items.toList from List.filter_eq_self.mpr fun _ _ => rfl] at hF
    refine hF.mono fun v z hz => ?_
    obtain ⟨T, vs, rfl, h1, h2, h3, ⟨o, ho, hr⟩, hG⟩ := hz
    have hTL : T ≠ env.locals := by
      rintro rfl
      obtain ⟨o', es, ep, e1, e2, _⟩ := hn'
      rw [ho] at e1; cases e1
      obtain ⟨_, n, e3⟩ := hr
      rw [e2] at e3; cases e3
    exact ⟨T, vs, rfl, ⟨o, hs₃.extBut T o h1 (hs₂.extBut T o hTL ho), hr⟩, hG⟩
  exact codeAny_compStart_list (loop _ rfl) (wpAny_pyIter_listiter hit (loop _ rfl))
end
/-- a thing that a frame knows: of its ledger, or of its ground -/
noncomputable def Known (g : Heap) (R : Led) (T : Addr) (o : Obj) : Prop := (T, o) ∈ R ∨ g.get? T = some o
theorem Known.mono {g : Heap} {R R' : Led} {T : Addr} {o : Obj} (k : Known g R T o) (h : ∀ p ∈ R, p ∈ R') : Known g R' T o := k.imp (h _) id
structure Tk where
  kd : Int
  ti : List UInt8
  lo : List UInt8
  tv : TV
/-- a drawn token's tuple -/
noncomputable def TokAt (g : Heap) (R : Led) (d : Tk) (y : Value) : Prop := ∃ T o n t1 t2 t3 v, y = .ref T ∧ Known g R T o ∧ o.cls = .type "tuple" ∧ o.data = .seq #[.int d.kd t1, .bytes d.ti.toArray t2, .bytes d.lo.toArray t3, v] n ∧ d.tv.Is v
/-- the list of the drawn tokens -/
noncomputable def SomeL (g : Heap) (R : Led) (D : Addr) (ds : List Tk) : Prop := ∃ o n ys, (D, o) ∈ R ∧ o.cls = .type "list" ∧ o.data = .seq ys n ∧ Paired (TokAt g R) ds ys.toList
section
variable {w : World} {g : Heap} {L : Addr} {m : Str → Option Value} {R R' pre post : Led} {r s s0 : Shared} {A : Around} {E : Value → Shared → Prop} {Q : Value → Shared → Prop} {k : Nat} {a x dx lim fa T D : Addr} {t t1 t2 tt tc k1 k2 u : Tok} {text b : List UInt8} {kind value v : Value} {e : Bool} {items vs : List Value} {n cap : Nat} {c d z : Int} {ns : List Int} {os : List UInt8} {o : Obj} {ds : List Tk}
theorem St.known (S : St w g L m R r s) (k : Known g R T o) : s.heap.get? T = some o := k.elim (fun h => (S.N _ h).1) (S.F.keep _ _)
theorem TokAt.mono {d : Tk} {y : Value} (h : TokAt g R d y) (hR : ∀ p ∈ R, p ∈ R') : TokAt g R' d y := by
  obtain ⟨T, o, n, t1, t2, t3, v, h0, h1, h2⟩ := h; exact ⟨T, o, n, t1, t2, t3, v, h0, h1.mono hR, h2⟩
theorem none_L (S : St w g L m R r s) : g.get? L = none := none_base S fun _ _ e => e
theorem St.learn (S : St w g L m R r s) (ho : s.heap.get? T = some o) (hT : T ≠ L) : ∃ es : Led, St w g L m (es ++ R) r s ∧ Known g (es ++ R) T o := by
  by_cases h1 : T ∈ R.map (·.1)
  · obtain ⟨p, hp, rfl⟩ := List.mem_map.mp h1
    have := (S.N _ hp).1
    rw [ho] at this; cases this
    exact ⟨[], S, .inl hp⟩
  cases h2 : g.get? T with
  | some o' =>
    have := S.F.keep _ _ h2
    rw [ho] at this; cases this
    exact ⟨[], S, .inr h2⟩
  | none =>
    refine ⟨[(T, o)], ⟨S.base, S.F, fun p hp => ?_, List.nodup_cons.mpr ⟨h1, S.nd⟩, S.rest⟩, .inl (.head _)⟩
    rcases List.mem_cons.mp hp with rfl | hp
    · exact ⟨ho, hT, h2⟩
    · exact S.N p hp
theorem St.learnL {α : Type} {F : α → Value → Prop} {P : α → Obj → Prop} : ∀ {l : List α} {ys : List Value} {R : Led}, St w g L m R r s → Paired F l ys → (∀ a y, F a y → ∃ T o, y = .ref T ∧ s.heap.get? T = some o ∧ T ≠ L ∧ P a o) →
    ∃ es : Led, St w g L m (es ++ R) r s ∧ Paired (fun a y => ∃ T o, y = .ref T ∧ Known g (es ++ R) T o ∧ P a o) l ys
  | _, _, R, S, .nil, _ => ⟨[], S, .nil⟩
  | _, _, R, S, .cons h t, hF => by
    obtain ⟨es, S1, hp⟩ := St.learnL S t hF
    obtain ⟨T, o, rfl, ho, hT, hP⟩ := hF _ _ h
    obtain ⟨es2, S2, k2⟩ := S1.learn ho hT
    refine ⟨es2 ++ es, by rw [List.append_assoc]; exact S2, .cons ⟨T, o, rfl, by rw [List.append_assoc]; exact k2, hP⟩ (hp.mono fun a y ⟨T', o', e1, e2, e3⟩ => ⟨T', o', e1, ?_, e3⟩)⟩
    rw [List.append_assoc]
    exact e2.mono fun p hp => List.mem_append_right _ hp
/-- a comprehension's end -/
theorem St.comp {ls : List (Str × Value)} {y : Str} {h' : Heap} {tk : Nat} (S : St w g L (Lm ls) R r s) (hn : h'.Ns L (fun z => if z = y then some v else Lm ls z)) (hk : ∀ b o, b ≠ L → s.heap.get? b = some o → h'.get? b = some o) :
    St w g L (Lm ((y, v) :: ls)) R r { s with heap := h', toks := tk } := by
  refine ⟨S.base, ⟨Lm_store ▸ hn, fun b o q => hk b o (fun e => ?_) (S.F.keep b o q), S.F.above⟩, fun p hp => ⟨hk _ _ (S.N p hp).2.1 (S.N p hp).1, (S.N p hp).2⟩, S.nd, S.rest⟩
  rw [e, none_L S] at q; cases q
theorem ns_ne {h : Heap} {m : Str → Option Value} (hn : h.Ns L m) (ho : h.get? T = some o) {xs : Array Value} (hd : o.data = .seq xs n) : T ≠ L := by
  rintro rfl
  obtain ⟨o', es, ep, e1, e2, _⟩ := hn
  rw [ho] at e1; cases e1
  rw [hd] at e2; cases e2
theorem c_glb {env : Env} {scope : Scope} {C : Addr} {px : Pos} {xx : Str} {mg : Str → Option Value} (hg : s.heap.Ns env.globals mg) (hk : scope.kind = .function) (hx : scope.names.lookup xx = some .globalImplicit) (hv : mg xx = some v) (hd : (xx == ("__debug__" : Str)) = false) (h : Q v s) :
    wpAny (model pw w) A (eval (.Name xx px) (compEnv scope C env)) Q E s :=
  Name_function_global (env := compEnv scope C env) hk hx (loadGlobal_global hg hv h) hd
theorem c_blt {env : Env} {scope : Scope} {C : Addr} {px : Pos} {xx : Str} {mg mb : Str → Option Value} (hg : s.heap.Ns env.globals mg) (hm : mg xx = none) (hb : s.heap.Ns env.builtins mb) (hk : scope.kind = .function) (hx : scope.names.lookup xx = some .globalImplicit) (hv : mb xx = some v) (hd : (xx == ("__debug__" : Str)) = false) (h : Q v s) :
    wpAny (model pw w) A (eval (.Name xx px) (compEnv scope C env)) Q E s :=
  Name_function_global (env := compEnv scope C env) hk hx (loadGlobal_builtin hg hm hb hv h) hd
theorem c_loc {env : Env} {scope : Scope} {C : Addr} {px : Pos} {xx : Str} (hn : s.heap.Ns C m) (hm : m xx = some v) (hk : scope.kind = .function) (hx : scope.names.lookup xx = some .local) (hd : (xx == ("__debug__" : Str)) = false) (h : Q v s) :
    wpAny (model pw w) A (eval (.Name xx px) (compEnv scope C env)) Q E s :=
  wpAny_Name (wpAny_loadName_local (env := compEnv scope C env) hk hx hn hm h) hd
end
noncomputable def pairs (ds : List Tk) : List (Int × TV) := ds.map fun d => (d.kd, d.tv)
noncomputable def NearR (p d : List UInt8) : Prop := ∃ (l0 : List UInt8) (last first : UInt8) (r0 : List UInt8), p = l0 ++ [last] ∧ d = first :: r0 ∧ Near p d last.toNat first.toNat
/-- written as tight as may be -/
inductive TightR : List Tk → List UInt8 → Prop
  | nil : TightR [] []
  | first {d} : TightR [d] d.ti
  | apart {ds d t} : TightR ds t → ds ≠ [] → TightR (ds ++ [d]) (t ++ [32] ++ d.ti)
  | near {ds p d t} : TightR (ds ++ [p]) t → NearR p.ti d.ti → TightR (ds ++ [p] ++ [d]) (t ++ d.ti)
/-- written loosely -/
inductive LooseR : List Tk → List UInt8 → Prop
  | nil : LooseR [] []
  | snoc {ds d t g1 g2} : LooseR ds t → g1 ∈ GAPS → g2 ∈ GAPS → LooseR (ds ++ [d]) (t ++ g1 ++ g2 ++ d.lo)
noncomputable def Drawns (ds : List Tk) : Prop := ∀ d ∈ ds, Drawn d.kd d.ti d.lo d.tv
noncomputable def NOEND : List UInt8 := [32, 45, 45, 110, 111, 32, 101, 110, 100]
noncomputable def AHEAD : List UInt8 := [45, 45, 91, 91, 32, 97, 10, 93, 93, 32, 45, 45, 32, 98, 10, 13, 45, 45, 91, 61, 61, 91, 93, 93, 93, 61, 61, 93, 10]
noncomputable def OPENC : List UInt8 := [32, 45, 45, 91, 61, 91, 32, 93, 93, 32, 93, 61, 61, 93]
/-- what the two writings have -/
structure Plain : Prop where
  tight : ∀ {ds t}, Drawns ds → TightR ds t → Toks t (pairs ds)
  loose : ∀ {ds t g}, Drawns ds → LooseR ds t → g ∈ GAPS → Toks (t ++ g) (pairs ds)
  ahead : ∀ {ds t}, Drawns ds → TightR ds t → Toks (AHEAD ++ t ++ NOEND) (pairs ds)
  bad : ∀ {ds t}, Drawns ds → TightR ds t → Bad (t ++ OPENC) (pairs ds)
section
variable {w : World} {g base : Heap} {L : Addr} {m : Str → Option Value} {R R' pre post : Led} {r s s0 : Shared} {A : Around} {E : Value → Shared → Prop} {Q : Value → Shared → Prop} {k : Nat} {a x dx lim fa T D : Addr} {t t1 t2 tt tc k1 k2 u : Tok} {text b : List UInt8} {kind value v : Value} {e : Bool} {items vs : List Value} {n cap : Nat} {c d z : Int} {ns : List Int} {os : List UInt8} {o : Obj} {ds : List Tk} {l : List Env}
theorem o_slice_intsL {value slice : Expr} (S : St w g L m R r s) (hm : s.heap.IsList a vs.toArray) (hi : IntsAre vs ns) (hz : vs.length ≤ 1000) (h0 : 0 ≤ z) (h : ∀ s' b vs', St w g L m ((b, lstO vs' 0) :: R) r s' → IntsAre vs' (ns.take z.toNat) → Q (.ref b) s')
    (hs : subscripted slice false (.ref a) (.ref s.heap.objs.size) = operate [.ref s.heap.objs.size, .ref a] (getItem (.ref a) (.ref s.heap.objs.size)))
    (ht : ∀ r, letTemporaryGo value (.ref a) r = pure ()) :
    wpAny (model pw w) A (subscriptTail value slice (.ref a) (.ref s.heap.objs.size)) Q E { s with heap := s.heap.push { cls := .type "slice", data := .fields #[.none, .int z t, .none] } } := by
  refine slice_list S.F S.N hm .none (.int z t) (fun h' F' N' => ?_) hs ht (by rw [List.size_toArray, sizeLine_eq]; lia)
  refine h _ _ (slicePick vs.toArray none (some z) none).toList (S.heap s.toks F' N' ?_) (slice_ints_uptoW hi h0)
  refine List.nodup_cons.mpr ⟨fun q => ?_, S.nd⟩
  obtain ⟨p, hp, e⟩ := List.mem_map.mp q
  have := Heap.lt_size (S.N p hp).1
  rw [e] at this
  exact absurd this (by show ¬ (s.heap.objs.size + 1 < s.heap.objs.size); lia)
noncomputable def GTok (_v : Value) (vs : Array Value) : Prop := ∃ d : Tk, Drawn d.kd d.ti d.lo d.tv ∧ ∃ t1 t2 t3 x, vs = #[.int d.kd t1, .bytes d.ti.toArray t2, .bytes d.lo.toArray t3, x] ∧ d.tv.Is x
/-- the drawn tokens, out of their tuples -/
theorem drawn_of {h : Heap} : ∀ {items ys : List Value}, Paired (TupIs GTok h) items ys → ∃ ds : List Tk, ds.length = items.length ∧ Drawns ds ∧ Paired (fun d y => ∃ T vs, y = .ref T ∧ h.IsTuple T vs ∧ ∃ t1 t2 t3 x, vs = #[.int d.kd t1, .bytes d.ti.toArray t2, .bytes d.lo.toArray t3, x] ∧ d.tv.Is x) ds ys
  | _, _, .nil => ⟨[], rfl, (fun _ h => by cases h), .nil⟩
  | _, _, .cons hy ht => by
    obtain ⟨ds, h1, h2, h3⟩ := drawn_of ht
    obtain ⟨T, vs, rfl, hT, d, hd, hvs⟩ := hy
    exact ⟨d :: ds, by simp [h1], fun d' hd' => by
      rcases List.mem_cons.mp hd' with rfl | hd'
      · exact hd
      · exact h2 _ hd', .cons ⟨T, vs, rfl, hT, hvs⟩ h3⟩
theorem law_some {env : Env} {scope : Scope} {px py p1 p2 p3 p4 p5 pos spos : Pos} {iter : Expr} {ls : List (Str × Value)} {cn : Str} {cs : Scope} {ccd : Value} {Q : Flow → Shared → Prop} (rm : Rm A (k + 12)) (henv : env = envOf cn cs L a ccd)
    (hsw : swapsWith (.ListComp (.Call (.Name "_law_token" p1) [.Call (.Name "abs" p2) [.Name "one" p3] [] p4] [] p5) [⟨.Name "one" px, iter, [], 0⟩] scope pos) (some (.Name "some" py)) spos.line env = pure true)
    (hfree : ∀ z ∈ scope.names, z.2 ≠ .free) (hcell : ∀ z ∈ scope.names, z.2 ≠ .cell) (hkind : scope.kind = .function)
    (hnames : ∀ z ∈ scope.names, z.2 = .local → scope.names.lookup z.1 = some .local) (hx : scope.names.lookup ("one" : Str) = some .local) (hx2 : scope.names.lookup ("_law_token" : Str) = some .globalImplicit) (hx3 : scope.names.lookup ("abs" : Str) = some .globalImplicit)
    (hcs : cs.kind = .function) (hy : env.kindOf "some" = some .local)
    (hs : ∀ x, foldedSetIterable iter env x = pure x)
    (h : wpAny (model pw w) A (eval iter env) (fun xv s₁ => ∃ ax vs ns R', xv = .ref ax ∧ s₁.heap.IsList ax vs.toArray ∧ IntsAre vs ns ∧ vs.length ≤ 12 ∧ St w g L (Lm ls) R' r s₁ ∧
      (∀ s' es D ds, St w g L (Lm (("some", .ref D) :: ls)) (es ++ R') r s' → SomeL g (es ++ R') D ds → Drawns ds → ds.length = vs.length → Q .next s')) E s) :
    wpAny (model pw w) A (exec (.Assign [.Name "some" py] (.ListComp (.Call (.Name "_law_token" p1) [.Call (.Name "abs" p2) [.Name "one" p3] [] p4] [] p5) [⟨.Name "one" px, iter, [], 0⟩] scope pos) spos) env) Q E s := by
  subst henv
  refine asg_comp GTok rm.h hsw hfree hcell hkind hnames hx hy (by show (cs.kind == .class || (cs.kind == .module && _)) = false; rw [hcs]; rfl) (wpAny_mono h (fun xv s₁ h₁ => ?_) fun _ _ x => x) hs
  obtain ⟨ax, vs, ns, R', rfl, hl, hi, hz, S1, hQ⟩ := h₁
  refine ⟨ax, vs.toArray, Lm ls, rfl, hl, by rw [List.size_toArray, sizeLine_eq]; lia, S1.F.ns, fun C v s₂ m₂ E' hv hn hm hk => ?_, fun D h' tk ys hD hDl hP hn' hk => ?_⟩
  · have B2 : Bs w s₂.heap := S1.base.keeps fun b o q => hk b o (S1.F.keep b o q)
    obtain ⟨p, loose, mg, mb, T⟩ := B2.T
    obtain ⟨z, tz, rfl⟩ : ∃ z tz, v = .int z tz := by
      clear hl hQ hn hm hk S1 hz B2 T
      have hv' : v ∈ vs := by simpa using hv
      clear hv
      induction hi with
      | nil => cases hv'
      | cons n t _ ih =>
        rcases List.mem_cons.mp hv' with rfl | hv'
        · exact ⟨_, _, rfl⟩
        · exact ih hv'
    refine Call_Name1 (c_glb T.g hkind hx2 (mg_of B2.X T.g G__law_token) rfl (cw_f1 (by k_is) (Call_Name1 (c_blt T.g (mg_none_of B2.X T.g B_abs) T.b hkind hx3 ((T.builtins _ (by decide)).trans BB_abs) rfl (cw_b1 (c_loc hn hm hkind hx rfl ?_))) rfl))) rfl
    refine PyProof.Rows.call_abs_int (fun u tk => ⟨B2.X, ?_⟩)
    have e1 : (if z < 0 then -z else z) = (z.natAbs : Int) := by split <;> lia
    rw [e1]
    have H2 : Hs w [] { s₂ with toks := tk } := ⟨B2.keeps fun b o q => hideAll_get _ q (by simp), (fun p hp => by cases hp), List.nodup_nil⟩
    refine c_law_token (k := k) (rm.le (by lia)) H2 fun s' a kd ti lo tv t1 t2 t3 v e hd hv => ⟨⟨a, #[.int kd t1, .bytes ti.toArray t2, .bytes lo.toArray t3, v], rfl, ?_, ?_, ⟨kd, ti, lo, tv⟩, hd, t1, t2, t3, v, rfl, hv⟩, s'.heap, s'.toks, ?_, fun b o q => e.keeps b o q (by simp)⟩
    · rcases (e.led _ (.head _)).2 with q | q
      · cases q
      · exact q
    · exact ⟨_, (e.led _ (.head _)).1, rfl, 0, rfl⟩
    · obtain ⟨q1, q2, q3⟩ := e.rest
      obtain ⟨a1, a2, a3, a4, a5⟩ := s'
      dsimp only at q1 q2 q3
      subst q1 q2 q3
      rfl
  · have S2 := St.comp (tk := tk) S1 hn' hk
    obtain ⟨oD, hoD, hcD, nD, hdD⟩ := hDl
    obtain ⟨es1, S3, kD⟩ := S2.learn hoD (ns_ne S2.F.ns hoD hdD)
    have kD : (D, oD) ∈ es1 ++ R' := kD.elim id fun q => by rw [S1.F.keep _ _ q] at hD; cases hD
    obtain ⟨ds, e1, e2, e3⟩ := drawn_of hP
    obtain ⟨es2, S4, e4⟩ := St.learnL (P := fun (d : Tk) (o : Obj) => o.cls = .type "tuple" ∧ ∃ n t1 t2 t3 x, o.data = .seq #[.int d.kd t1, .bytes d.ti.toArray t2, .bytes d.lo.toArray t3, x] n ∧ d.tv.Is x) S3 e3 fun d y hy => by
      obtain ⟨T, vs, rfl, ⟨o, ho, hc, n, hd⟩, t1, t2, t3, x, rfl, hx⟩ := hy
      exact ⟨T, o, rfl, ho, ns_ne S2.F.ns ho hd, hc, n, t1, t2, t3, x, hd, hx⟩
    rw [← List.append_assoc] at S4 e4
    refine hQ _ (es2 ++ es1) D ds S4 ⟨oD, nD, ys, by rw [List.append_assoc]; exact List.mem_append_right _ kD, hcD, hdD, e4.mono fun d y hy => ?_⟩ e2 (by rw [e1])
    · obtain ⟨T, o, rfl, hk, hc, n, t1, t2, t3, x, hd, hx⟩ := hy
      exact ⟨T, o, n, t1, t2, t3, x, rfl, hk, hc, hd, hx⟩
theorem o_titem {value slice : Expr} {xs : List Value} {j : Nat} (_S : St w g L m R r s) (hT : IsTup s.heap T xs.toArray) (hj : z = j) (hj2 : j < 1000) (hx : xs[j]? = some v) (h : Q v s)
    (hs : subscripted slice false (.ref T) (.int z u) = operate [.ref T, .int z u] (getItem (.ref T) (.int z u))) :
    wpAny (model pw w) A (subscriptTail value slice (.ref T) (.int z u)) Q E s := by
  subst hj
  have hlt : j < xs.length := by
    rcases Nat.lt_or_ge j xs.length with h | h
    · exact h
    · rw [List.getElem?_eq_none h] at hx; cases hx
  exact sub_any hT.typeIs slot_tuple_getitem.lookup (getItem_tuple hT (by lia) (by lia) (by rw [List.size_toArray, seqIndex_of (by lia) (by lia)]) (by simpa using hx) h) hs
theorem o_litemL {value slice : Expr} {j : Nat} (_S : St w g L m R r s) (hl : s.heap.IsList a items.toArray) (hj : z = j) (hj2 : j < 1000) (hx : items[j]? = some v) (h : Q v s)
    (hs : subscripted slice false (.ref a) (.int z u) = operate [.ref a, .int z u] (getItem (.ref a) (.int z u))) :
    wpAny (model pw w) A (subscriptTail value slice (.ref a) (.int z u)) Q E s := by
  subst hj
  exact sub_any hl.typeIs slot_list_getitem.lookup (wpAny_getItem_list hl (by lia) (by lia) (by rw [Int.toNat_natCast]; simpa using hx) h) hs
theorem paired_get {α β : Type} {F : α → β → Prop} : ∀ {l : List α} {ys : List β}, Paired F l ys → ∀ {i : Nat} {d : α}, l[i]? = some d → ∃ y, ys[i]? = some y ∧ F d y
  | _, _, .nil, i, d, h => by simp at h
  | _, _, .cons h t, 0, d, hd => by simp at hd; subst hd; exact ⟨_, rfl, h⟩
  | _, _, .cons h t, i + 1, d, hd => by simpa using paired_get t (by simpa using hd)
theorem txtL_len (os : List UInt8) : (txtL os).length ≤ 13 + os.length := by
  unfold txtL
  simp only [List.length_append, List.length_cons, List.length_nil]
  split <;> simp <;> lia
theorem txtQ_len {os : List UInt8} : (txtQ os).length ≤ 2 + 4 * os.length := by
  have := flat_len os
  unfold txtQ
  simp only [List.length_append, List.length_cons, List.length_nil]
  lia
theorem signs_len : ∀ p ∈ SIGNS, p.1 ≠ [] ∧ p.1.length ≤ 5 ∧ p.2.natAbs ≤ 300 := by decide
theorem drawn_ne {kd : Int} {ti lo : List UInt8} {tv : TV} (h : Drawn kd ti lo tv) : ti ≠ [] ∧ ti.length ≤ 40 ∧ lo.length ≤ 40 := by
  cases h with
  | text1 ho => have := txtL_len ‹List UInt8›; have h2 := @txtQ_len ‹List UInt8›; have := ho.len; exact ⟨by unfold txtQ; simp, by lia, by lia⟩
  | text2 ho => have := txtL_len ‹List UInt8›; have h2 := @txtQ_len ‹List UInt8›; have := ho.len; exact ⟨by unfold txtL; simp, by lia, by lia⟩
  | num _ h1 h2 => have := h1.len; have := h2.len; exact ⟨h1.ne, by lia, by simp only [List.length_cons]; lia⟩
  | name h1 => have := h1.len; exact ⟨by simp, by simp only [List.length_cons]; lia, by simp only [List.length_cons]; lia⟩
  | sign hp => obtain ⟨h1, h2, -⟩ := signs_len _ hp; exact ⟨h1, Nat.le_trans h2 (by decide), Nat.le_trans h2 (by decide)⟩
theorem tight_nil {ds : List Tk} {t : List UInt8} (h : TightR ds t) (e : ds = []) : t = [] := by
  cases h with
  | nil => rfl
  | first => cases e
  | apart _ _ => simp at e
  | near _ _ => simp at e
theorem gap_at (q : Nat) : GAPS[q % 11]? = some (GAPS.getD (q % 11) []) ∧ GAPS.getD (q % 11) [] ∈ GAPS ∧ (GAPS.getD (q % 11) []).length ≤ 30 := by
  have h := Nat.mod_lt q (show 0 < 11 by decide)
  generalize q % 11 = j at h
  revert j
  decide
theorem tight_ne {ds : List Tk} {t : List UInt8} (h : TightR ds t) (hd : Drawns ds) (hne : ds ≠ []) : t ≠ [] := by
  cases h with
  | nil => exact absurd rfl hne
  | @first d => exact (drawn_ne (hd d (by simp))).1
  | @apart ds d t _ _ => intro e; have := (drawn_ne (hd d (by simp))).1; simp [this] at e
  | @near ds p d t _ _ => intro e; have := (drawn_ne (hd d (by simp))).1; simp [this] at e
theorem tight_len {ds : List Tk} {t : List UInt8} (h : TightR ds t) (hd : Drawns ds) : t.length ≤ 100 * ds.length := by
  induction h with
  | nil => simp
  | @first d => have := (drawn_ne (hd d (by simp))).2.1; simp only [List.length_cons, List.length_nil]; lia
  | @apart ds d t _ _ ih =>
    have h1 := ih fun d' hd' => hd d' (List.mem_append_left _ hd')
    have := (drawn_ne (hd d (by simp))).2.1
    simp only [List.length_append, List.length_cons, List.length_nil]; lia
  | @near ds p d t _ _ ih =>
    have h1 := ih fun d' hd' => hd d' (List.mem_append_left _ hd')
    have := (drawn_ne (hd d (by simp))).2.1
    simp only [List.length_append, List.length_cons, List.length_nil] at h1 ⊢; lia
theorem gaps_len : ∀ g ∈ GAPS, g.length ≤ 30 := by decide
theorem loose_len {ds : List Tk} {t : List UInt8} (h : LooseR ds t) (hd : Drawns ds) : t.length ≤ 200 * ds.length := by
  induction h with
  | nil => simp
  | @snoc ds d t g1 g2 _ h1 h2 ih =>
    have h3 := ih fun d' hd' => hd d' (List.mem_append_left _ hd')
    have := (drawn_ne (hd d (by simp))).2.2
    have := gaps_len _ h1
    have := gaps_len _ h2
    simp only [List.length_append, List.length_cons, List.length_nil]; lia
end
section
variable {w : World} {g base : Heap} {L : Addr} {m : Str → Option Value} {R R' pre post : Led} {r s s0 : Shared} {A : Around} {E : Value → Shared → Prop} {Q : Value → Shared → Prop} {k : Nat} {a x dx lim fa T D : Addr} {t t1 t2 tt tc k1 k2 u : Tok} {text b : List UInt8} {kind value v : Value} {e : Bool} {items vs : List Value} {n cap : Nat} {c d z : Int} {ns : List Int} {os : List UInt8} {o : Obj} {ds : List Tk} {l : List Env}
theorem out_get {ts : List (Int × TV)} {vs : List Value} {es : Led} (h : OutL ts vs es) : vs.length = ts.length ∧ ∀ (i : Nat) (y : Value), vs[i]? = some y → ∃ p, ts[i]? = some p ∧ ∃ a t v, y = .ref a ∧ (a, tupO [.int p.1 t, v]) ∈ es ∧ p.2.Is v := by
  induction h with
  | nil => exact ⟨rfl, fun i y h => by simp at h⟩
  | @snoc ts vs es kd tv t v a h hv ih =>
    obtain ⟨e1, e2⟩ := ih
    refine ⟨by simp [e1], fun i y hy => ?_⟩
    by_cases hi : i < vs.length
    · rw [List.getElem?_append_left hi] at hy
      obtain ⟨p, hp, a, t, v, h1, h2, h3⟩ := e2 i y hy
      exact ⟨p, by rw [List.getElem?_append_left (by lia)]; exact hp, a, t, v, h1, .tail _ h2, h3⟩
    · rw [List.getElem?_append_right (by lia)] at hy
      cases hz : i - vs.length with
      | zero =>
        rw [hz] at hy
        simp at hy
        subst hy
        exact ⟨(kd, tv), by rw [List.getElem?_append_right (by lia), ← e1, hz]; rfl, a, t, v, rfl, .head _, hv⟩
      | succ j => rw [hz] at hy; simp at hy
theorem drawn_small {kd : Int} {ti lo : List UInt8} {tv : TV} (h : Drawn kd ti lo tv) : kd.natAbs < 10 ^ 4 ∧ tv.small := by
  cases h with
  | text1 ho => exact ⟨by decide, Nat.le_trans ho.len (by decide)⟩
  | text2 ho => exact ⟨by decide, Nat.le_trans ho.len (by decide)⟩
  | @num n _ _ h0 h1 h2 => exact ⟨by decide, show (n : Int).natAbs < 10 ^ 20 by lia⟩
  | @name n hs h1 => exact ⟨by decide, show (110 :: hs).length ≤ 1000 by have := h1.len; simp only [List.length_cons]; lia⟩
  | sign hp => obtain ⟨-, -, h3⟩ := signs_len _ hp; exact ⟨Nat.lt_of_le_of_lt h3 (by decide), trivial⟩
theorem pairs_small {ds : List Tk} (h : Drawns ds) : ∀ p ∈ pairs ds, p.1.natAbs < 10 ^ 4 ∧ p.2.small := fun p hp => by
  obtain ⟨d, hd, rfl⟩ := List.mem_map.mp hp
  exact drawn_small (h d hd)
theorem o_repr_out {ts : List (Int × TV)} {es : Led} (rm : Rm A 9) (S : St w g L m R r s) (hf : (fa, lstO vs n) ∈ R) (ho : OutL ts vs es) (hsub : ∀ p ∈ es, p ∈ R) (hsm : ∀ p ∈ ts, p.1.natAbs < 10 ^ 4 ∧ p.2.small) (hz : ts.length ≤ 100) (hg : A.guards = some [])
    (hQ : ∀ s' u, St w g L m R r s' → Q (.str (tokText ts) u) s') : wpAny (model pw w) A (call (.builtin "repr") [.ref fa]) Q E s := by
  obtain ⟨e1, e2⟩ := out_get ho
  refine o_repr rm S (S.N _ hf).1 rfl rfl e1 (fun i y hy => ?_) hz hg hQ
  obtain ⟨p, hp, a, t, v, rfl, h2, h3⟩ := e2 i y hy
  exact ⟨p, hp, ⟨a, _, 0, t, v, rfl, (S.N _ (hsub _ h2)).1, rfl, rfl, h3⟩, hsm p (List.mem_of_getElem? hp)⟩
noncomputable def GPair (h₁ : Heap) (v : Value) (vs : Array Value) : Prop := ∃ T o n kd t a b x, v = .ref T ∧ h₁.get? T = some o ∧ o.data = .seq #[.int kd t, a, b, x] n ∧ vs = #[.int kd t, x]
theorem pairs_of {h₁ h : Heap} {R : Led} (hk : ∀ T o, Known g R T o → h₁.get? T = some o) : ∀ {ds : List Tk} {ys ys2 : List Value}, Paired (TokAt g R) ds ys → Paired (TupIs (GPair h₁) h) ys ys2 →
    ys2.length = ds.length ∧ ∀ (i : Nat) (y : Value), ys2[i]? = some y → ∃ p, (pairs ds)[i]? = some p ∧ PairAt h p y
  | _, _, _, .nil, .nil => ⟨rfl, fun i y h => by simp at h⟩
  | _, _, _, .cons h t, .cons h2 t2 => by
    obtain ⟨e1, e2⟩ := pairs_of hk t t2
    refine ⟨by simp [e1], fun i y hy => ?_⟩
    cases i with
    | zero =>
      simp at hy; subst hy
      obtain ⟨T, o, n, t1, t2, t3, v, rfl, k1, c1, d1, i1⟩ := h
      obtain ⟨T2, vs, rfl, ⟨o2, g2, c2, n2, d2⟩, T', o', n', kd', t', a', b', x', hT', g', dd, rfl⟩ := h2
      cases hT'
      rw [hk _ _ k1] at g'; cases g'
      rw [d1] at dd
      simp only [Data.seq.injEq, Array.mk.injEq, List.cons.injEq, Value.int.injEq, and_true] at dd
      obtain ⟨⟨⟨rfl, rfl⟩, -, -, rfl⟩, -⟩ := dd
      exact ⟨_, rfl, T2, o2, n2, _, _, rfl, g2, c2, d2, i1⟩
    | succ i => simpa [pairs] using e2 i y (by simpa using hy)
theorem e_pairs {scope : Scope} {px ps a1 a2 a3 b1 b2 b3 tp pos : Pos} {tk1 tk2 tk3 : Nat} {ls : List (Str × Value)} {cn : Str} {cs : Scope} {ccd : Value} {ac : Addr} {ys : List Value} (rm : Rm A 9) (S : St w g L (Lm ls) R r s)
    (hcs : isLoc cs "some" = true) (hm : Lm ls "some" = some (.ref D)) (hDl : s.heap.IsList D ys.toArray) (hDp : Paired (TokAt g R) ds ys) (hz : ys.length ≤ 1000)
    (hfree : ∀ z ∈ scope.names, z.2 ≠ .free) (hcell : ∀ z ∈ scope.names, z.2 ≠ .cell) (hkind : scope.kind = .function)
    (hnames : ∀ z ∈ scope.names, z.2 = .local → scope.names.lookup z.1 = some .local) (hx : scope.names.lookup ("one" : Str) = some .local)
    (hs1 : ∀ {T : Addr} {u}, subscripted (.Constant (.int 0) tk1 a2) false (.ref T) (.int 0 u) = operate [.ref T, .int 0 u] (getItem (.ref T) (.int 0 u)))
    (hs2 : ∀ {T : Addr} {u}, subscripted (.Constant (.int 3) tk2 b2) false (.ref T) (.int 3 u) = operate [.ref T, .int 3 u] (getItem (.ref T) (.int 3 u)))
    (h : ∀ s' D2 o2 n2 ys2, St w g L (Lm ls) R r s' → s'.heap.get? D2 = some o2 → o2.cls = .type "list" → o2.data = .seq ys2 n2 → ys2.toList.length = ds.length →
      (∀ (i : Nat) (y : Value), ys2.toList[i]? = some y → ∃ p, (pairs ds)[i]? = some p ∧ PairAt s'.heap p y) → Q (.ref D2) s') :
    wpAny (model pw w) A (eval (.ListComp (.Tuple [.Subscript (.Name "one" a1) (.Constant (.int 0) tk1 a2) a3, .Subscript (.Name "one" b1) (.Constant (.int 3) tk2 b2) b3] tk3 tp) [⟨.Name "one" px, .Name "some" ps, [], 0⟩] scope pos) (envOf cn cs L ac ccd)) Q E s := by
  refine wpAny_ListComp_tup (fun _ => true) (GPair s.heap) rm.h hfree hcell hkind hnames hx (n_loc S hcs hm ?_) (fun _ => rfl)
  refine ⟨D, ys.toArray, rfl, hDl, by rw [List.size_toArray, sizeLine_eq]; lia, fun C v s₂ m₂ E' _ _ _ _ => wpAny_pure ⟨rfl, s₂.heap, s₂.toks, rfl, fun _ _ e => e⟩, fun C v s₂ m₂ E' hv _ hn hm2 hk => ?_, fun D2 h' tk ys2 hD2 hl2 hp2 hk => ?_⟩
  · obtain ⟨d, hTv⟩ : ∃ d, TokAt g R d v := by
      have hv' : v ∈ ys := by simpa using hv
      clear h hDl hv hz
      induction hDp with
      | nil => cases hv'
      | cons h t ih =>
        rcases List.mem_cons.mp hv' with rfl | hv'
        · exact ⟨_, h⟩
        · exact ih hv'
    obtain ⟨T, o, n, t1, t2, t3, x, rfl, k1, c1, d1, i1⟩ := hTv
    have hT1 := S.known k1
    have hTup : ∀ {s₃ : Shared}, (∀ b o, s.heap.get? b = some o → s₃.heap.get? b = some o) → IsTup s₃.heap T [.int d.kd t1, .bytes d.ti.toArray t2, .bytes d.lo.toArray t3, x].toArray := fun hk => ⟨o, hk _ _ hT1, c1, n, d1⟩
    refine Tuple_ (spliced_more (Subscript_ (c_loc hn hm2 hkind hx rfl (wpAny_Constant_int ?_))) rfl)
    refine sub_any (hTup (s₃ := { s₂ with toks := s₂.toks + 1 }) hk).typeIs slot_tuple_getitem.lookup (getItem_tuple (hTup (s₃ := { s₂ with toks := s₂.toks + 1 }) hk) (by decide) (by decide) (j := 0) rfl rfl ?_) hs1
    refine spliced_more (Subscript_ (c_loc hn hm2 hkind hx rfl (wpAny_Constant_int ?_))) rfl
    refine sub_any (hTup (s₃ := { s₂ with toks := s₂.toks + 1 + 1 }) hk).typeIs slot_tuple_getitem.lookup (getItem_tuple (hTup (s₃ := { s₂ with toks := s₂.toks + 1 + 1 }) hk) (by decide) (by decide) (j := 3) rfl rfl ?_) hs2
    refine spliced_none (wpAny_newTuple ?_ (by simp only [List.length_cons, List.length_nil, sizeLine_eq]; lia))
    refine ⟨⟨_, _, rfl, Heap.get?_none_of_le (Nat.le_refl _), ⟨_, Heap.get?_push_size _ rfl, rfl, 0, rfl⟩, T, o, n, d.kd, t1, _, _, x, rfl, hT1, d1, rfl⟩, _, _, rfl, fun b o e => Heap.get?_push_of_some _ e⟩
  · rw [show ys.toArray.toList.filter (fun _ => true) = ys from List.filter_eq_self.mpr fun _ _ => rfl] at hp2
    obtain ⟨e1, e2⟩ := pairs_of (fun T o k => S.known k) hDp hp2
    obtain ⟨o2, ho2, hc2, n2, hd2⟩ := hl2
    exact h _ D2 o2 n2 ys2 (S.grown hk) ho2 hc2 hd2 e1 e2
end
section
variable {w : World} {g base : Heap} {L : Addr} {m : Str → Option Value} {R R' pre post : Led} {r s s0 : Shared} {A : Around} {E : Value → Shared → Prop} {Q : Value → Shared → Prop} {k : Nat} {a x dx lim fa T D : Addr} {t t1 t2 tt tc k1 k2 u : Tok} {text b : List UInt8} {kind value v : Value} {e : Bool} {items vs : List Value} {n cap : Nat} {c d z : Int} {ns : List Int} {os : List UInt8} {o : Obj} {ds : List Tk} {l : List Env}
set_option maxHeartbeats 2000000 in
theorem c_law (P : Plain) (rm : Rm A (k + 18)) (H : Hs w [] s0) (Z : Rb w base l A [] s0) (hS : s0.heap.IsList a vs.toArray) (hi : IntsAre vs ns) (hz : vs.length ≤ 63) (h : ∀ s', base.StaysIn s'.heap → SameG s0 s' → Q (.bool true) s') :
    wpC (model pw w) A (call (.ref 544) [.ref a]) Q E s0 := by
  refine' enterCB (binds := [("script", .ref a)]) (lb := [("script", .ref a)]) rm H Z ?ho ?hcd ?hb ?hl ?hc ?h1 ?h2 ?h3 ?hr ?_
  walk_at "fn"
  intro L s E A S rm X
  have hSg : (hideAll s0.heap (([] : Led).map (·.1))).IsList a vs.toArray := by
    obtain ⟨o, ho, hr⟩ := hS
    exact ⟨o, hideAll_get _ ho (by simp), hr⟩
  have hSs : ∀ {m : Str → Option Value} {R : Led} {s : Shared}, St w (hideAll s0.heap (([] : Led).map (·.1))) L m R s0 s → s.heap.IsList a vs.toArray := fun S => let ⟨o, ho, hr⟩ := hSg; ⟨o, S.F.keep _ _ ho, hr⟩
  refine y_cons (wpC_of (law_some (g := hideAll s0.heap (([] : Led).map (·.1))) (r := s0) (ls := [("script", .ref a)]) (k := k) (rm.le (by lia)) rfl (by kernel_rfl!) (by decide) (by decide) rfl (by decide) rfl rfl rfl rfl rfl (fun _ => rfl) ?_))
  walk_at "stp"
  with_reducible refine o_slice_intsL (z := 12) S (hSs S) hi (by lia) (by decide) ?_ ?_ ?_
  rotate_left
  · with_unfolding_all rfl
  · intro _; with_unfolding_all rfl
  intro s b vs' S hi2
  have hlen' : vs'.length ≤ 12 := by rw [ints_len hi2]; exact List.length_take_le _ _
  have hlv : vs'.length ≤ ns.length := by rw [ints_len hi2]; exact List.length_take_le' _ _
  refine ⟨b, vs', _, _, rfl, S.lst List.mem_cons_self, hi2, hlen', S, fun s es D ds S hD hdr hdl => ?_⟩
  clear hi2
  generalize (es ++ (b, lstO vs' 0) :: [] : Led) = R1 at S hD
  show wpC _ _ (execs _ _) _ _ _
  with_reducible refine y_tup ?_ rfl (by kernel_rfl!)
  with_reducible refine y_Tuple2 ?_ rfl
  walk_at "stp"
  replace S := S.drop
  obtain ⟨oD, nD, ysA, hDm, hDc, hDd, hDp⟩ := hD
  obtain ⟨ys⟩ := ysA
  have hDl : ∀ {m : Str → Option Value} {R : Led} {s : Shared}, St w (hideAll s0.heap (([] : Led).map (·.1))) L m R s0 s → (∀ p ∈ R1, p ∈ R) → s.heap.IsList D ys.toArray := fun S hR => ⟨oD, (S.N _ (hR _ hDm)).1, hDc, nD, hDd⟩
  have hys : ys.length = ds.length := hDp.length.symm
  have hds : ds.length ≤ 12 := by lia
  with_reducible refine y_join (fun s => E5 fun (tight loose : List UInt8) (t1 t2 : Tok) (ls : List (Str × Value)) => A7 (TightR ds tight) (LooseR ds loose) (Lm ls "tight" = some (.bytes tight.toArray t1)) (Lm ls "loose" = some (.bytes loose.toArray t2)) (Lm ls "some" = some (.ref D)) (Lm ls "script" = some (.ref a)) (St w (hideAll s0.heap (([] : Led).map (·.1))) L (Lm ls) R1 s0 s)) (fun N hN => wpC_of ?_) ?_
  · refine x_forE (J := fun i ls R' => E4 fun (tight loose : List UInt8) (t1 t2 : Tok) => A7 (R1 = R') (TightR (ds.take i) tight) (LooseR (ds.take i) loose) (Lm ls "tight" = some (.bytes tight.toArray t1)) (Lm ls "loose" = some (.bytes loose.toArray t2)) (Lm ls "some" = some (.ref D)) (Lm ls "script" = some (.ref a))) (n := ys.length) (P := fun i v => ys[i]? = some v) S rm.h (by kernel_rfl!) (by kernel_rfl!) ?_ ?_ ?_ (fun _ => rfl)
    · walk_at "stp"
      refine o_enum S rm.h (hDl S (fun _ h => h)) ⟨oD, .inr fun i ls R' hJ => ?_⟩ ⟨[], [], _, _, rfl, .nil, .nil, by walk_at "lm", by walk_at "lm", by walk_at "lm", by walk_at "lm"⟩
      obtain ⟨_, _, _, _, rfl, _⟩ := hJ
      exact hDm
    · clear S
      intro i v tk ls R' I it o o2 s E' N hN hi' hv hJ S
      obtain ⟨tight, loose, t1, t2, rfl, h1, h2, m1, m2, m3, m4⟩ := hJ
      have hid : i < ds.length := by lia
      obtain ⟨y, hy, hyT⟩ := paired_get hDp (List.getElem?_eq_getElem hid)
      rw [show ({ toList := ys } : Array Value).toList = ys from rfl, hv] at hy
      cases hy
      have hsub : ∀ p ∈ R1, p ∈ (I, o) :: (it, o2) :: R1 := fun p h => .tail _ (.tail _ h)
      have hdd := hdr ds[i] (List.getElem_mem hid)
      obtain ⟨T, oT, nT, u1, u2, u3, xv, rfl, hkT, hcT, hdT, hxT⟩ := hyT
      have hTT : ∀ {m : Str → Option Value} {R : Led} {s : Shared}, St w (hideAll s0.heap (([] : Led).map (·.1))) L m R s0 s → (∀ p ∈ R1, p ∈ R) → IsTup s.heap T [.int ds[i].kd u1, .bytes ds[i].ti.toArray u2, .bytes ds[i].lo.toArray u3, xv].toArray := fun S hR => ⟨oT, S.known (hkT.mono hR), hcT, nT, hdT⟩
      have htk : ds.take (i + 1) = ds.take i ++ [ds[i]] := by rw [List.take_add_one, List.getElem?_eq_getElem hid]; rfl
      have hdt : Drawns (ds.take i) := fun d hd => hdr d (List.mem_of_mem_take hd)
      have hl1 := tight_len h1 hdt
      have hl2 := loose_len h2 hdt
      rw [List.length_take] at hl1 hl2
      have hin : i < ns.length := by lia
      obtain ⟨tz, hvz⟩ := hi.get i ns[i] (List.getElem?_eq_getElem hin)
      walk_at "stp"
      with_reducible refine o_litemL S (hSs S) rfl (by lia) hvz ?_ ?_
      rotate_left
      · with_unfolding_all rfl
      with_reducible refine o_abs S ?_
      intro s t3 S
      walk_at "stp"
      with_reducible refine o_fdiv S (by decide) (by decide) ?_
      intro s t4 S
      have e3 : ((ns[i].natAbs : Int)).fdiv 3 = ((ns[i].natAbs / 3 : Nat) : Int) := fdiv_nat _ 3 (by decide)
      rw [e3]
      generalize ns[i].natAbs / 3 = q
      clear e3
      walk_at "stb"
      obtain ⟨dne, dl1, dl2⟩ := drawn_ne hdd
      with_reducible refine x_join (fun s => E3 fun (sep : List UInt8) (t5 : Tok) (ls2 : List (Str × Value)) => A9 (TightR (ds.take (i + 1)) (tight ++ sep ++ ds[i].ti)) (sep.length ≤ 1) (Lm ls2 "tight" = some (.bytes (tight ++ sep).toArray t5)) (Lm ls2 "loose" = some (.bytes loose.toArray t2)) (Lm ls2 "some" = some (.ref D)) (Lm ls2 "script" = some (.ref a)) (Lm ls2 "one" = some (.ref T)) (Lm ls2 "number" = some (.int q t4)) (St w (hideAll s0.heap (([] : Led).map (·.1))) L (Lm ls2) ((I, o) :: (it, o2) :: R1) s0 s)) ?_ ?_
      · intro N hN
        walk_at "stp"
        cases i with
        | zero =>
          have ht0 : tight = [] := tight_nil h1 rfl
          refine ite_bn (by rw [ht0]; rfl) ?_
          walk_at "stp"
          refine ⟨rfl, hN ⟨[], _, _, ?_, Nat.zero_le _, by rw [List.append_nil]; walk_at "lm", by walk_at "lm", by walk_at "lm", by walk_at "lm", by walk_at "lm", by walk_at "lm", S⟩⟩
          rw [ht0, htk]
          exact .first
        | succ i =>
          have hne : ds.take (i + 1) ≠ [] := by intro e; have := congrArg List.length e; rw [List.length_take, List.length_nil] at this; lia
          have htn := tight_ne h1 hdt hne
          refine ite_by (by simpa using htn) ?_
          walk_at "stp"
          have hip : i < ds.length := by lia
          obtain ⟨yp, hyp, T', oT', nT', v1, v2, v3, xv', rfl, hkT', hcT', hdT', -⟩ := paired_get hDp (List.getElem?_eq_getElem hip)
          have hTT' : ∀ {m : Str → Option Value} {R : Led} {s : Shared}, St w (hideAll s0.heap (([] : Led).map (·.1))) L m R s0 s → (∀ p ∈ R1, p ∈ R) → IsTup s.heap T' [.int ds[i].kd v1, .bytes ds[i].ti.toArray v2, .bytes ds[i].lo.toArray v3, xv'].toArray := fun S hR => ⟨oT', S.known (hkT'.mono hR), hcT', nT', hdT'⟩
          have hdp := hdr ds[i] (List.getElem_mem hip)
          obtain ⟨pne, pl1, pl2⟩ := drawn_ne hdp
          with_reducible refine o_litemL S (hDl S hsub) (j := i) (by lia) (by lia) hyp ?_ ?_
          rotate_left
          · with_unfolding_all rfl
          walk_at "stp"
          with_reducible refine o_titem S (hTT' S hsub) (j := 1) rfl (by decide) rfl ?_ ?_
          rotate_left
          · with_unfolding_all rfl
          walk_at "stp"
          with_reducible refine o_titem S (hTT S hsub) (j := 1) rfl (by decide) rfl ?_ ?_
          rotate_left
          · with_unfolding_all rfl
          walk_at "stp"
          obtain ⟨l0, last, ep⟩ : ∃ l0 last, ds[i].ti = l0 ++ [last] := ⟨_, _, (List.dropLast_concat_getLast pne).symm⟩
          obtain ⟨first, r0, ed⟩ := List.exists_cons_of_ne_nil dne
          rw [ep, List.length_append, List.length_singleton] at pl1
          have dl1' := dl1
          rw [ed, List.length_cons] at dl1'
          have hap : ∀ {Q E s}, wpAny (model pw w) A (call (.ref 532) [.bytes (l0 ++ [last]).toArray v2, .bytes (first :: r0).toArray u2]) Q E s → wpAny (model pw w) A (call (.ref 532) [.bytes ds[i].ti.toArray v2, .bytes ds[i + 1].ti.toArray u2]) Q E s := fun h => by rw [ep, ed]; exact h
          refine hap (c_is_apart (k := k) (rm.le (by lia)) S.hs (by lia) (by lia) fun s b e hb => ?_)
          have S := S.call e
          walk_at "stp"
          refine ite_b (fun hbt => ?_) (fun hbf => ?_)
          · walk_at "stp"
            with_reducible refine o_addb (c := [32]) S (by simp only [List.length_cons, List.length_nil]; lia) ?_
            intro s t9 S
            walk_at "stp"
            refine ⟨rfl, hN ⟨[32], _, _, ?_, Nat.le_refl _, by walk_at "lm", by walk_at "lm", by walk_at "lm", by walk_at "lm", by walk_at "lm", by walk_at "lm", S⟩⟩
            rw [htk]
            exact .apart h1 hne
          · walk_at "stp"
            refine ⟨rfl, hN ⟨[], _, _, ?_, Nat.zero_le _, by rw [List.append_nil]; walk_at "lm", by walk_at "lm", by walk_at "lm", by walk_at "lm", by walk_at "lm", by walk_at "lm", S⟩⟩
            have htk0 : ds.take (i + 1) = ds.take i ++ [ds[i]] := by rw [List.take_add_one, List.getElem?_eq_getElem hip]; rfl
            rw [List.append_nil, htk, htk0]
            rw [htk0] at h1
            exact .near h1 ⟨l0, last, first, r0, ep, ed, ep ▸ ed ▸ hb hbf⟩
      · clear S
        intro s hP
        obtain ⟨sep, t5, ls2, hT, hsl, n1, n2, n3, n4, n5, n6, S⟩ := hP
        walk_at "stp"
        with_reducible refine o_titem S (hTT S hsub) (j := 1) rfl (by decide) rfl ?_ ?_
        rotate_left
        · with_unfolding_all rfl
        with_reducible refine o_addb S (by simp only [List.length_append]; lia) ?_
        intro s t6 S
        walk_at "stp"
        with_reducible refine c_law_gaps (k := k + 16) rm S.hs fun s fa vsG e hG => ?_
        have S := S.call e
        walk_at "stp"
        with_reducible refine c_law_gaps (k := k + 16) rm S.hs fun s fb vsH e hH => ?_
        have S := S.call e
        walk_at "stp"
        have hz1 : vsH.toArray.size = 11 := by rw [List.size_toArray, hH.length]; rfl
        with_reducible refine o_len_list S (S.lst List.mem_cons_self) (by lia) ?_
        intro s t7 S
        rw [hz1]
        walk_at "stp"
        with_reducible refine o_mod S (by decide) ?_
        intro s t8 S
        have em1 : ((q : Nat) : Int).fmod ((11 : Nat) : Int) = ((q % 11 : Nat) : Int) := fmod_nat _ 11 (by decide)
        rw [em1]
        walk_at "stp"
        obtain ⟨g11, g21, g31⟩ := gap_at (q)
        obtain ⟨tg1, hx1⟩ := hG.get g11
        have hlt1 := Nat.mod_lt (q) (show 0 < 11 by decide)
        refine o_litem S (List.mem_cons_of_mem _ List.mem_cons_self) (by lia) (by lia) (by rw [Int.toNat_natCast]; exact hx1) ?_ ?_
        rotate_left
        · with_unfolding_all rfl
        with_reducible refine o_addb S (by first | lia | (simp only [List.length_append]; lia)) ?_
        intro s t9 S
        walk_at "stp"
        with_reducible refine c_law_gaps (k := k + 16) rm S.hs fun s fc vsG2 e hG2 => ?_
        have S := S.call e
        walk_at "stp"
        with_reducible refine o_fdiv S (by decide) (by decide) ?_
        intro s t10 S
        have e11 : (q : Int).fdiv 11 = ((q / 11 : Nat) : Int) := fdiv_nat _ 11 (by decide)
        rw [e11]
        walk_at "stp"
        with_reducible refine c_law_gaps (k := k + 16) rm S.hs fun s fd vsH2 e hH2 => ?_
        have S := S.call e
        walk_at "stp"
        have hz2 : vsH2.toArray.size = 11 := by rw [List.size_toArray, hH2.length]; rfl
        with_reducible refine o_len_list S (S.lst List.mem_cons_self) (by lia) ?_
        intro s t7 S
        rw [hz2]
        walk_at "stp"
        with_reducible refine o_mod S (by decide) ?_
        intro s t8 S
        have em2 : ((q / 11 : Nat) : Int).fmod ((11 : Nat) : Int) = ((q / 11 % 11 : Nat) : Int) := fmod_nat _ 11 (by decide)
        rw [em2]
        walk_at "stp"
        obtain ⟨g12, g22, g32⟩ := gap_at (q / 11)
        obtain ⟨tg2, hx2⟩ := hG2.get g12
        have hlt2 := Nat.mod_lt (q / 11) (show 0 < 11 by decide)
        refine o_litem S (List.mem_cons_of_mem _ List.mem_cons_self) (by lia) (by lia) (by rw [Int.toNat_natCast]; exact hx2) ?_ ?_
        rotate_left
        · with_unfolding_all rfl
        with_reducible refine o_addb S (by first | lia | (simp only [List.length_append]; lia)) ?_
        intro s t9 S
        walk_at "stp"
        have S := S.drop.drop.drop.drop
        with_reducible refine o_titem S (hTT S hsub) (j := 2) rfl (by decide) rfl ?_ ?_
        rotate_left
        · with_unfolding_all rfl
        with_reducible refine o_addb S (by simp only [List.length_append]; lia) ?_
        intro s t12 S
        walk_at "stp"
        refine ⟨rfl, hN ⟨_, R1, ⟨_, _, t6, t12, rfl, hT, ?_, by walk_at "lm", by walk_at "lm", by walk_at "lm", by walk_at "lm"⟩, S⟩⟩
        rw [htk]
        exact .snoc h2 g21 g22
    · clear S
      intro ls R' s hJ S
      obtain ⟨tight, loose, t1, t2, rfl, h1, h2, h3, h4, h5, h6⟩ := hJ
      rw [List.take_of_length_le (by lia)] at h1 h2
      refine x_nil ?_
      exact ⟨rfl, hN ⟨tight, loose, t1, t2, ls, h1, h2, h3, h4, h5, h6, S⟩⟩
  · clear S
    intro s hP
    obtain ⟨tight, loose, t1, t2, ls, hti, hlo, m1, m2, m3, m4, S⟩ := hP
    have htl := tight_len hti hdr
    have hll := loose_len hlo hdr
    have hpl : (pairs ds).length ≤ 12 := by rw [pairs, List.length_map]; lia
    walk_at "stp"
    with_reducible refine wpC_of (o_limits (k := k + 15) rm S ?_)
    intro x dx kt s S
    walk_at "stp"
    refine c_all_tokens (k := k + 2) rm S.hs ⟨dx, 10, kt, List.mem_cons_self, List.mem_cons_of_mem _ List.mem_cons_self⟩ (by lia) (P.tight hdr hti) (by lia) fun s fa vs1 es1 n1 e hout => ?_
    have S := S.call e
    walk_at "stp"
    have hfa : (fa, lstO vs1 n1) ∈ (fa, lstO vs1 n1) :: (es1 ++ (x, instObj 53 dx) :: (dx, dictOf (limEs w.params kt) 10) :: R1) := List.mem_cons_self
    have hes : ∀ p ∈ es1, p ∈ (fa, lstO vs1 n1) :: (es1 ++ (x, instObj 53 dx) :: (dx, dictOf (limEs w.params kt) 10) :: R1) := fun p hp => .tail _ (List.mem_append_left _ hp)
    have hR1 : ∀ p ∈ R1, p ∈ (fa, lstO vs1 n1) :: (es1 ++ (x, instObj 53 dx) :: (dx, dictOf (limEs w.params kt) 10) :: R1) := fun p hp => .tail _ (List.mem_append_right _ (.tail _ (.tail _ hp)))
    generalize hR2 : (fa, lstO vs1 n1) :: (es1 ++ (x, instObj 53 dx) :: (dx, dictOf (limEs w.params kt) 10) :: R1) = R2 at S hfa hes hR1
    have hps := pairs_small hdr
    with_reducible refine wpC_of (o_repr_out (rm.le (by lia)) S hfa hout hes hps (by lia) X.gd fun s u1 S => ?_)
    walk_at "stp"
    with_reducible refine e_pairs (rm.le (by lia)) S (by kernel_rfl!) (by walk_at "lm") (hDl S hR1) (hDp.mono fun _ _ h => h.mono hR1) (by lia) (by decide) (by decide) rfl (by decide) rfl (by intro T u; with_unfolding_all rfl) (by intro T u; with_unfolding_all rfl) ?_
    intro s D2 oD2 nD2 ys2 S g1 g2 g3 g4 g5
    obtain ⟨ysl2⟩ := ys2
    have g4' : ysl2.length = (pairs ds).length := by rw [pairs, List.length_map]; exact g4
    have g5' : ∀ (i : Nat) (y : Value), ysl2[i]? = some y → ∃ p, (pairs ds)[i]? = some p ∧ PairAt s.heap p y ∧ p.1.natAbs < 10 ^ 4 ∧ p.2.small := fun i y hy => by
      obtain ⟨p, hp, hpa⟩ := g5 i y hy
      exact ⟨p, hp, hpa, hps p (List.mem_of_getElem? hp)⟩
    with_reducible refine wpC_of (o_repr (rm.le (by lia)) S g1 g2 g3 g4' g5' (by lia) X.gd fun s u2 S => ?_)
    clear g1 g2 g3 g4 g5 g4' g5'
    with_reducible refine wpC_of (PyProof.Rows.ne_str ?_)
    rw [bne_self_eq_false]
    walk_at "stp"
    with_reducible refine c_law_gaps (k := k + 16) rm S.hs fun s fb vsG e hG => ?_
    have S := S.call e
    walk_at "stp"
    with_reducible refine o_len_list S (hDl S (fun p h => List.mem_cons_of_mem _ (hR1 p h))) (by rw [List.size_toArray]; lia) ?_
    intro s t3 S
    have hysz : ys.toArray.size = ds.length := by rw [List.size_toArray]; exact hys
    rw [hysz]
    walk_at "stp"
    with_reducible refine c_law_gaps (k := k + 16) rm S.hs fun s fc vsH e hH => ?_
    have S := S.call e
    walk_at "stp"
    have hz1 : vsH.toArray.size = 11 := by rw [List.size_toArray, hH.length]; rfl
    with_reducible refine o_len_list S (S.lst List.mem_cons_self) (by lia) ?_
    intro s t7 S
    rw [hz1]
    walk_at "stp"
    with_reducible refine o_mod S (by decide) ?_
    intro s t8 S
    have em1 : ((ds.length : Nat) : Int).fmod ((11 : Nat) : Int) = ((ds.length % 11 : Nat) : Int) := fmod_nat _ 11 (by decide)
    rw [em1]
    walk_at "stp"
    obtain ⟨q1, q2, q3⟩ := gap_at ds.length
    obtain ⟨tg1, hx1⟩ := hG.get q1
    have hlt1 := Nat.mod_lt ds.length (show 0 < 11 by decide)
    refine o_litem S (List.mem_cons_of_mem _ List.mem_cons_self) (by lia) (by lia) (by rw [Int.toNat_natCast]; exact hx1) ?_ ?_
    rotate_left
    · with_unfolding_all rfl
    generalize GAPS.getD (ds.length % 11) [] = gg at q2 q3
    with_reducible refine o_addb S (by lia) ?_
    intro s t9 S
    have S := S.drop.drop
    walk_at "stp"
    with_reducible refine wpC_of (o_limits (k := k + 15) rm S ?_)
    intro x2 dx2 kt2 s S
    walk_at "stp"
    refine c_all_tokens (k := k + 2) rm S.hs ⟨dx2, 10, kt2, List.mem_cons_self, List.mem_cons_of_mem _ List.mem_cons_self⟩ (by rw [List.length_append]; lia) (P.loose hdr hlo q2) (by lia) fun s fa2 vs2 es2 n2 e hout2 => ?_
    have S := S.call e
    walk_at "stp"
    with_reducible refine wpC_of (o_repr_out (rm.le (by lia)) S List.mem_cons_self hout2 (fun p hp => List.mem_cons_of_mem _ (List.mem_append_left _ hp)) hps (by lia) X.gd fun s u3 S => ?_)
    walk_at "stp"
    have S := S.sub (R' := R2) (.cons _ (.trans (.cons _ (.cons _ (.refl _))) (List.sublist_append_right es2 _)))
    with_reducible refine wpC_of (o_repr_out (rm.le (by lia)) S hfa hout hes hps (by lia) X.gd fun s u4 S => ?_)
    with_reducible refine wpC_of (PyProof.Rows.ne_str ?_)
    rw [bne_self_eq_false]
    walk_at "stp"
    have hah : AHEAD.length = 29 := rfl
    have hne : NOEND.length = 9 := rfl
    have hoc : OPENC.length = 14 := rfl
    with_reducible refine o_addb (b := [45, 45, 91, 91, 32, 97, 10, 93, 93, 32, 45, 45, 32, 98, 10, 13, 45, 45, 91, 61, 61, 91, 93, 93, 93, 61, 61, 93, 10]) S (by simp only [List.length_cons, List.length_nil]; lia) ?_
    intro s t10 S
    walk_at "stp"
    with_reducible refine o_addb (c := [32, 45, 45, 110, 111, 32, 101, 110, 100]) S (by simp only [List.length_append, List.length_cons, List.length_nil]; lia) ?_
    intro s t11 S
    walk_at "stp"
    with_reducible refine wpC_of (o_limits (k := k + 15) rm S ?_)
    intro x3 dx3 kt3 s S
    walk_at "stp"
    refine c_all_tokens (k := k + 2) rm S.hs ⟨dx3, 10, kt3, List.mem_cons_self, List.mem_cons_of_mem _ List.mem_cons_self⟩ (by simp only [List.length_append, List.length_cons, List.length_nil]; lia) (P.ahead hdr hti) (by lia) fun s fa3 vs3 es3 n3 e hout3 => ?_
    have S := S.call e
    walk_at "stp"
    with_reducible refine wpC_of (o_repr_out (rm.le (by lia)) S List.mem_cons_self hout3 (fun p hp => List.mem_cons_of_mem _ (List.mem_append_left _ hp)) hps (by lia) X.gd fun s u5 S => ?_)
    walk_at "stp"
    have S := S.sub (R' := R2) (.cons _ (.trans (.cons _ (.cons _ (.refl _))) (List.sublist_append_right es3 _)))
    with_reducible refine wpC_of (o_repr_out (rm.le (by lia)) S hfa hout hes hps (by lia) X.gd fun s u6 S => ?_)
    with_reducible refine wpC_of (PyProof.Rows.ne_str ?_)
    rw [bne_self_eq_false]
    walk_at "stp"
    with_reducible refine o_addb (c := [32, 45, 45, 91, 61, 91, 32, 93, 93, 32, 93, 61, 61, 93]) S (by simp only [List.length_cons, List.length_nil]; lia) ?_
    intro s t12 S
    walk_at "stp"
    refine c_is_refused (k := k + 1) rm S.hs (X.rb S) (by simp only [List.length_append, List.length_cons, List.length_nil]; lia) (P.bad hdr hti) (by lia) fun s' hst hsg => ?_
    exact h s' hst ⟨hsg.1.trans S.rest.1, hsg.2.trans S.rest.2.2⟩
end
theorem walk_all (P : Plain) : LX.hdC.1 := by
  unfold LX.hdC
  dsimp only
  intro w s₀ s₁ mg mb HG HY a o pm cd doc dV kV ha ho hcd hdf hmg hgens args vals as hpre hlay hrd hwell hmod
  clear hcd hdf ho ha
  have KX := kIn_of HY
  have hT := HG.T
  have hmg2 := mg_of KX hT.g G_law
  rw [hmg] at hmg2
  cases hmg2
  clear HG HY
  wrow_args hpre hlay hrd hwell hmod
  rename Heap.IsList _ _ _ => hL
  rename IntsAre _ _ => hI
  rename (¬ _ < _) => hc
  have B : Bs w s₁.heap := ⟨KX, _, _, _, _, topRead_of hT⟩
  have Bh : Bs w (hideAll s₁.heap (([] : Led).map (·.1))) := B.keeps fun b o q => hideAll_get _ q (by simp)
  have hln := ints_len hI
  refine c_law P (k := 0) (base := hideAll s₁.heap (([] : Led).map (·.1))) (l := []) ⟨by decide +kernel, by decide +kernel, rfl⟩ ⟨Bh, (fun p hp => by cases hp), List.nodup_nil⟩ ⟨below_caller _, Bh, by rw [hideAll_size]; exact Nat.le_refl _, rfl⟩ hL hI (by lia) fun s' hst hsg => ?_
  refine ⟨.inl ⟨.bool true, .bool true, [], rfl, ?_, .bool true, ?_, fun _ => ⟨List.nodup_nil, fun a ha => by cases ha⟩⟩, .of_keep fun b o e => hst b o (hideAll_get _ e (by simp)), hsg.2, .of_eq (hsg.1.trans hgens)⟩
  · intro cls; rfl
  · wrow_post
theorem cw (P : Plain) : PySem.Challenge.rw_nt0646_01.Holds := LX.hdC.2 (walk_all P)
theorem eqs_app : ∀ {p l : List UInt8}, past p ≠ [] → eqs (p ++ l) = eqs p ∧ past (p ++ l) = past p ++ l
  | [], l, h => absurd rfl h
  | c :: p, l, h => by
    by_cases hc : c = 61
    · subst hc
      rw [past_eq] at h
      obtain ⟨h1, h2⟩ := eqs_app (p := p) (l := l) h
      exact ⟨by rw [List.cons_append, eqs_eq, eqs_eq, h1], by rw [List.cons_append, past_eq, past_eq, h2]⟩
    · exact ⟨by rw [List.cons_append, eqs_ne hc, eqs_ne hc], by rw [List.cons_append, past_ne hc, past_ne hc, List.cons_append]⟩
theorem eol_app {c d : UInt8} {q l : List UInt8} : eol c (d :: q ++ l) = eol c (d :: q) ++ l := by
  simp only [List.cons_append, eol]
  split <;> rfl
theorem eol1_app {d : UInt8} {q l : List UInt8} (h : q ≠ []) : eol1 (d :: q ++ l) = eol1 (d :: q) ++ l := by
  obtain ⟨e, q', rfl⟩ := List.exists_cons_of_ne_nil h
  simp only [List.cons_append, eol1]
  split
  · exact eol_app
  · rfl
theorem toNl_app : ∀ {p l : List UInt8}, toNl p ≠ [] → toNl (p ++ l) = toNl p ++ l
  | [], l, h => absurd rfl h
  | c :: p, l, h => by
    by_cases hc : c = 10 ∨ c = 13
    · rw [List.cons_append, toNl_stop hc, toNl_stop hc]; rfl
    · rw [toNl_go hc] at h
      rw [List.cons_append, toNl_go hc, toNl_go hc]
      exact toNl_app h
theorem lev_of {b d : UInt8} {p q l : List UInt8} (h : past p = d :: q) : lev b (p ++ l) = if (d.toNat : Int) = b.toNat then (eqs p : Int) else -(eqs p) - 1 := by
  obtain ⟨h1, h2⟩ := eqs_app (p := p) (l := l) (by rw [h]; simp)
  unfold lev
  rw [h1, h2, h]
  rfl
/-- where a long bracket ends -/
noncomputable def lEnd (lv : Nat) : Nat → List UInt8 → Option (List UInt8)
  | 0, _ => none
  | _ + 1, [] => none
  | n + 1, c :: p =>
    if c = 93 then match past p with
      | [] => none
      | d :: q => if d = 93 ∧ eqs p = lv then some q else lEnd lv n (d :: q)
    else if c = 91 then match past p with
      | [] => none
      | d :: q => if d = 91 ∧ eqs p = lv then none else lEnd lv n (d :: q)
    else if c = 10 ∨ c = 13 then match p with
      | [] => none
      | d :: q => lEnd lv n (eol c (d :: q))
    else lEnd lv n p
theorem lEnd_ok {lv : Nat} : ∀ {n : Nat} {p q : List UInt8}, lEnd lv n p = some q → ∀ l, ∃ c, Long lv (p ++ l) c (q ++ l)
  | 0, _, _, h => by cases h
  | n + 1, [], _, h => by cases h
  | n + 1, c :: p, q, h => fun l => by
    rw [List.cons_append]
    unfold lEnd at h
    by_cases h93 : c = 93
    · subst h93
      rw [if_pos rfl] at h
      cases hp : past p with
      | nil => rw [hp] at h; cases h
      | cons d q' =>
        rw [hp] at h
        dsimp only at h
        obtain ⟨e1, e2⟩ := eqs_app (p := p) (l := l) (by rw [hp]; simp)
        have hlev := lev_of (b := 93) (l := l) hp
        by_cases hd : d = 93 ∧ eqs p = lv
        · rw [if_pos hd] at h; cases h
          obtain ⟨rfl, rfl⟩ := hd
          exact ⟨[], .close (by rw [hlev, if_pos rfl]) (by rw [e2, hp]; rfl)⟩
        · rw [if_neg hd] at h
          obtain ⟨c', hc'⟩ := lEnd_ok h l
          refine ⟨_, .shut (c := c') ?_ (by rw [e2, hp]; exact hc')⟩
          rw [hlev]
          split
          · rename_i hq
            intro hq2
            exact hd ⟨UInt8.toNat_inj.mp (by lia), by lia⟩
          · lia
    rw [if_neg h93] at h
    by_cases h91 : c = 91
    · subst h91
      rw [if_pos rfl] at h
      cases hp : past p with
      | nil => rw [hp] at h; cases h
      | cons d q' =>
        rw [hp] at h
        dsimp only at h
        obtain ⟨e1, e2⟩ := eqs_app (p := p) (l := l) (by rw [hp]; simp)
        have hlev := lev_of (b := 91) (l := l) hp
        by_cases hd : d = 91 ∧ eqs p = lv
        · rw [if_pos hd] at h; cases h
        · rw [if_neg hd] at h
          obtain ⟨c', hc'⟩ := lEnd_ok h l
          refine ⟨_, .open1 (c := c') ?_ (by rw [e2, hp]; exact hc')⟩
          rw [hlev]
          split
          · rename_i hq
            intro hq2
            exact hd ⟨UInt8.toNat_inj.mp (by lia), by lia⟩
          · lia
    rw [if_neg h91] at h
    by_cases hn : c = 10 ∨ c = 13
    · rw [if_pos hn] at h
      cases p with
      | nil => cases h
      | cons d q' =>
        dsimp only at h
        obtain ⟨c', hc'⟩ := lEnd_ok h l
        exact ⟨_, .line hn (by rw [eol_app]; exact hc')⟩
    · rw [if_neg hn] at h
      obtain ⟨c', hc'⟩ := lEnd_ok h l
      exact ⟨_, .other (fun e => hn (.inl e)) (fun e => hn (.inr e)) h91 h93 hc'⟩
/-- blanks, up to a sign that is none -/
theorem B_eol {l' : List UInt8} (nb : NoBlank l') : ∀ (n : Nat) (l : List UInt8), l.length ≤ n → Blanks l l' → ∀ c, Blanks (eol c l) l' := by
  intro n
  induction n with
  | zero => intro l hl h c; cases l with | nil => exact h | cons d l => simp at hl
  | succ n ih =>
    intro l hl h c
    cases l with
    | nil => exact h
    | cons d l =>
      show Blanks (if (d = 10 ∨ d = 13) ∧ d ≠ c then l else d :: l) l'
      split
      · rename_i hd
        obtain ⟨hd, -⟩ := hd
        simp only [List.length_cons] at hl
        cases h with
        | nil =>
          exfalso
          obtain ⟨-, h2, -⟩ := nb
          apply h2
          simp only [sgn]
          rcases hd with rfl | rfl <;> decide
        | cons h1 h2 =>
          cases h1 with
          | line _ =>
            cases l with
            | nil => exact h2
            | cons e l =>
              replace h2 : Blanks (if (e = 10 ∨ e = 13) ∧ e ≠ d then l else e :: l) l' := h2
              split at h2
              · rename_i he
                simp only [List.length_cons] at hl
                exact .cons (.line he.1) (ih l (by lia) h2 e)
              · exact h2
          | gap hg => exfalso; rcases hd with rfl | rfl <;> simp at hg
          | short _ => exfalso; simp at hd
          | long _ _ _ => exfalso; simp at hd
      · exact h
theorem B_line {c : UInt8} {l l' : List UInt8} (nb : NoBlank l') (hc : c = 10 ∨ c = 13) (h : Blanks l l') : Blanks (c :: l) l' := .cons (.line hc) (B_eol nb _ l (Nat.le_refl _) h c)
/-- a text of blanks alone -/
noncomputable def blk : Nat → List UInt8 → Bool
  | 0, _ => false
  | _ + 1, [] => true
  | n + 1, c :: p =>
    if c = 32 ∨ c = 9 ∨ c = 11 ∨ c = 12 ∨ c = 10 ∨ c = 13 then blk n p
    else if c = 45 then match p with
      | [] => false
      | c2 :: q => if c2 = 45 then match q with
        | [] => false
        | d :: q' => if d = 91 then match past q' with
            | [] => false
            | e :: q3 => if e = 91 then match q3 with
                | [] => false
                | [_] => false
                | f :: f2 :: q4 => match lEnd (eqs q') n (eol1 (f :: f2 :: q4)) with
                  | some r => blk n r
                  | none => false
              else if toNl (d :: q') = [] then false else blk n (toNl (d :: q'))
          else if toNl (d :: q') = [] then false else blk n (toNl (d :: q'))
        else false
    else false
theorem blk_ok {l l' : List UInt8} (nb : NoBlank l') (h : Blanks l l') : ∀ {n : Nat} {p : List UInt8}, blk n p = true → Blanks (p ++ l) l'
  | 0, _, hp => by cases hp
  | n + 1, [], _ => h
  | n + 1, c :: p, hp => by
    rw [List.cons_append]
    unfold blk at hp
    by_cases hc : c = 32 ∨ c = 9 ∨ c = 11 ∨ c = 12 ∨ c = 10 ∨ c = 13
    · rw [if_pos hc] at hp
      have ih := blk_ok nb h hp
      have hcc : (c = 32 ∨ c = 9 ∨ c = 11 ∨ c = 12) ∨ (c = 10 ∨ c = 13) := by
        rcases hc with h | h | h | h | h | h
        · exact .inl (.inl h)
        · exact .inl (.inr (.inl h))
        · exact .inl (.inr (.inr (.inl h)))
        · exact .inl (.inr (.inr (.inr h)))
        · exact .inr (.inl h)
        · exact .inr (.inr h)
      rcases hcc with hc | hc
      · exact .cons (.gap hc) ih
      · exact B_line nb hc ih
    rw [if_neg hc] at hp
    by_cases h45 : c = 45
    · subst h45
      rw [if_pos rfl] at hp
      cases p with
      | nil => cases hp
      | cons c2 q =>
        dsimp only at hp
        by_cases h452 : c2 = 45
        · subst h452
          rw [if_pos rfl] at hp
          cases q with
          | nil => cases hp
          | cons d q' =>
            dsimp only at hp
            have short : (∀ l2, d :: q' ++ l = 91 :: l2 → lev 91 l2 < 0) → (if toNl (d :: q') = [] then false else blk n (toNl (d :: q'))) = true → Blanks (45 :: (45 :: d :: q' ++ l)) l' := fun hs hq => by
              by_cases ht : toNl (d :: q') = []
              · rw [if_pos ht] at hq; cases hq
              · rw [if_neg ht] at hq
                have ih := blk_ok nb h hq
                rw [← toNl_app ht] at ih
                exact .cons (.short hs) ih
            by_cases hd : d = 91
            · subst hd
              rw [if_pos rfl] at hp
              cases hpq : past q' with
              | nil => rw [hpq] at hp; cases hp
              | cons e q3 =>
                rw [hpq] at hp
                dsimp only at hp
                have hlev := lev_of (b := 91) (l := l) hpq
                obtain ⟨e1, e2⟩ := eqs_app (p := q') (l := l) (by rw [hpq]; simp)
                by_cases he : e = 91
                · subst he
                  rw [if_pos rfl] at hp
                  rw [if_pos rfl] at hlev
                  cases q3 with
                  | nil => cases hp
                  | cons f q3 =>
                    cases q3 with
                    | nil => cases hp
                    | cons f2 q4 =>
                      dsimp only at hp
                      cases hle : lEnd (eqs q') n (eol1 (f :: f2 :: q4)) with
                      | none => rw [hle] at hp; cases hp
                      | some r =>
                        rw [hle] at hp
                        dsimp only at hp
                        have ih := blk_ok nb h hp
                        obtain ⟨c', hc'⟩ := lEnd_ok hle l
                        rw [← eol1_app (by simp)] at hc'
                        have hpast : past (q' ++ l) = 91 :: (f :: f2 :: q4 ++ l) := by rw [e2, hpq]; rfl
                        exact .cons (.long hlev hpast hc') ih
                · rw [if_neg he] at hp
                  refine short (fun l2 h2 => ?_) hp
                  simp only [List.cons_append, List.cons.injEq, true_and] at h2
                  subst h2
                  rw [hlev, if_neg (fun h9 => he (UInt8.toNat_inj.mp (by lia)))]
                  lia
            · rw [if_neg hd] at hp
              refine short (fun l2 h2 => ?_) hp
              simp only [List.cons_append, List.cons.injEq] at h2
              exact absurd h2.1 hd
        · rw [if_neg h452] at hp; cases hp
    · rw [if_neg h45] at hp; cases hp
theorem gaps_blk : ∀ g ∈ GAPS, blk 100 g = true := by decide +kernel
theorem ahead_blk : blk 100 AHEAD = true := by decide +kernel
/-- what may stand behind a written token -/
structure Fits (p : List UInt8) (c : Int) : Prop where
  w : ∀ l0 last, p = l0 ++ [last] → isW last.toNat → ¬ isNm c ∧ c ≠ 46
  d : ∀ l0 last, p = l0 ++ [last] → last = 46 → c ≠ 46 ∧ ¬ (48 ≤ c ∧ c ≤ 57)
  b : p = [91] → c ≠ 61 ∧ c ≠ 91
  e : p = [61] ∨ p = [60] ∨ p = [62] → c ≠ 61
  m : ∀ l0 last, p = l0 ++ [last] → last = 45 → c ≠ 45
theorem Fits.far (p : List UInt8) {c : Int} (h : c = 32 ∨ c = 10 ∨ c = 13 ∨ c = 9 ∨ c = -1) : Fits p c := by
  have h1 : ¬ isNm c := by unfold isNm; lia
  exact ⟨fun _ _ _ _ => ⟨h1, by lia⟩, fun _ _ _ _ => ⟨by lia, by lia⟩, fun _ => ⟨by lia, by lia⟩, fun _ => by lia, fun _ _ _ _ => by lia⟩
/-- a token as it is written -/
inductive Written : Int → List UInt8 → TV → Prop
  | quo {os} : Oct os → Written 286 (txtQ os) (.bytes os)
  | lng {os} : Oct os → Written 286 (txtL os) (.bytes os)
  | dec {n ds} : n < 100000000 → Digs 10 n ds → Written 284 ds (.int n)
  | hex {n hs} : n < 100000000 → Digs 16 n hs → Written 284 (48 :: 120 :: hs) (.int n)
  | name {n hs} : Digs 16 n hs → Written 285 (110 :: hs) (.bytes (110 :: hs))
  | sign {p k} : (p, k) ∈ SIGNS → Written k p .none
theorem Drawn.written {kd : Int} {ti lo : List UInt8} {tv : TV} (h : Drawn kd ti lo tv) : Written kd ti tv ∧ Written kd lo tv := by
  cases h with
  | text1 h => exact ⟨.quo h, .lng h⟩
  | text2 h => exact ⟨.lng h, .quo h⟩
  | num h0 h1 h2 => exact ⟨.dec h0 h1, .hex h0 h2⟩
  | name h => exact ⟨.name h, .name h⟩
  | sign h => exact ⟨.sign h, .sign h⟩
theorem quoted_ok (r : List UInt8) : ∀ os : List UInt8, (∀ c ∈ os, c ∈ OCT) → Quoted (os.flatMap esc ++ [34] ++ r) os r
  | [], _ => .close
  | c :: os, h => by
    have ih := quoted_ok r os fun d hd => h d (.tail _ hd)
    have hc := h c (.head _)
    rw [List.flatMap_cons, List.append_assoc, List.append_assoc, ← List.append_assoc (os.flatMap esc)]
    unfold esc
    by_cases h1 : c = 10
    · subst h1; exact .esc .nl ih
    by_cases h2 : c = 34
    · subst h2; exact .esc .quo ih
    by_cases h3 : c = 0
    · subst h3; exact .esc .nul ih
    rw [if_neg h1, if_neg h2, if_neg h3]
    refine .plain h2 h1 ?_ ?_ ih
    · rintro rfl; revert hc; decide
    · rintro rfl; revert hc; decide
noncomputable def CLS : List UInt8 := [93, 61, 61, 61, 61, 93]
theorem past_run : ∀ (os l : List UInt8), (∃ e os', os = List.replicate e 61 ++ os' ∧ e = eqs (os ++ 93 :: l) ∧ past (os ++ 93 :: l) = os' ++ 93 :: l)
  | [], l => ⟨0, [], rfl, rfl, rfl⟩
  | c :: os, l => by
    by_cases hc : c = 61
    · subst hc
      obtain ⟨e, os', h1, h2, h3⟩ := past_run os l
      exact ⟨e + 1, os', by rw [List.replicate_succ, List.cons_append, ← h1], by rw [List.cons_append, eqs_eq, h2], by rw [List.cons_append, past_eq, h3]⟩
    · exact ⟨0, c :: os, rfl, by rw [List.cons_append, eqs_ne hc], by rw [List.cons_append, past_ne hc]⟩
theorem long_ok (r : List UInt8) : ∀ (n : Nat) (os : List UInt8), os.length ≤ n → n ≤ 4 → (∀ c ∈ os, c ∈ OCT) → Long 4 (os ++ (CLS ++ r)) os r := by
  intro n
  induction n with
  | zero =>
    intro os h _ _
    cases os with
    | nil => exact .close rfl rfl
    | cons c os => simp at h
  | succ n ih =>
    intro os h hn ho
    cases os with
    | nil => exact .close rfl rfl
    | cons c os =>
      simp only [List.length_cons] at h
      have hc := ho c (.head _)
      have ho' : ∀ d ∈ os, d ∈ OCT := fun d hd => ho d (.tail _ hd)
      rw [List.cons_append]
      obtain ⟨e, os', h1, h2, h3⟩ := past_run os (61 :: 61 :: 61 :: 61 :: 93 :: r)
      have h2 : e = eqs (os ++ (CLS ++ r)) := h2
      have h3 : past (os ++ (CLS ++ r)) = os' ++ (CLS ++ r) := h3
      have hel : e + os'.length = os.length := by rw [h1]; simp
      have hos' : ∀ d ∈ os', d ∈ OCT := fun d hd => ho' d (by rw [h1]; exact List.mem_append_right _ hd)
      have ih' := ih os' (by lia) (by lia) hos'
      have hlev : ∀ b, lev b (os ++ (CLS ++ r)) ≠ ((4 : Nat) : Int) := fun b => by
        unfold lev
        rw [← h2]
        split <;> lia
      have hrep : os = List.replicate (eqs (os ++ (CLS ++ r))) 61 ++ os' := by rw [← h2]; exact h1
      have key : ∀ b, b :: os = b :: List.replicate (eqs (os ++ (CLS ++ r))) 61 ++ os' := fun b => by rw [List.cons_append, ← hrep]
      by_cases c93 : c = 93
      · subst c93
        rw [show (93 :: os : List UInt8) = _ from key 93]
        have := Long.shut (lv := 4) (l := os ++ (CLS ++ r)) (c := os') (r := r) (hlev 93) (by rw [h3]; exact ih')
        rw [← key 93] at this
        rw [← key 93]
        exact this
      by_cases c91 : c = 91
      · subst c91
        have := Long.open1 (lv := 4) (l := os ++ (CLS ++ r)) (c := os') (r := r) (hlev 91) (by rw [h3]; exact ih')
        rw [← key 91] at this
        exact this
      by_cases c10 : c = 10
      · subst c10
        refine .line (.inl rfl) ?_
        have e0 : eol 10 (os ++ (CLS ++ r)) = os ++ (CLS ++ r) := by
          cases os with
          | nil => rfl
          | cons d os =>
            show (if (d = 10 ∨ d = 13) ∧ d ≠ 10 then _ else _) = _
            have hd := ho' d (.head _)
            rw [if_neg]
            · rfl
            · rintro ⟨h9 | h9, h8⟩
              · exact h8 h9
              · subst h9; revert hd; decide
        rw [e0]
        exact ih os (by lia) (by lia) ho'
      · refine .other c10 ?_ c91 c93 (ih os (by lia) (by lia) ho')
        rintro rfl; revert hc; decide
theorem decV_eq : ∀ (l : List UInt8) (a : Nat), (∀ c ∈ l, isDec c) → decV a l = vB 10 a l
  | [], _, _ => rfl
  | c :: l, a, h => by
    have hc := (h c (.head _)).2
    show decV (10 * a + (c.toNat - 48)) l = vB 10 (10 * a + hexD c) l
    rw [decV_eq l _ fun d hd => h d (.tail _ hd)]
    unfold hexD
    rw [if_pos hc]
theorem hexV_eq : ∀ (l : List UInt8) (a : Nat), hexV a l = vB 16 a l
  | [], _ => rfl
  | _ :: l, _ => hexV_eq l _
theorem isHex_isW {c : UInt8} (h : isHex c) : isW c.toNat := by unfold isHex isDec at h; unfold isW; lia
theorem last_of {p : List UInt8} (h : p ≠ []) : ∃ l0 last, p = l0 ++ [last] ∧ last ∈ p := ⟨_, _, (List.dropLast_concat_getLast h).symm, List.getLast_mem h⟩
theorem last_app {q p : List UInt8} (h : p ≠ []) : ∃ l0 last, q ++ p = l0 ++ [last] ∧ last ∈ p := by
  obtain ⟨l0, last, h1, h2⟩ := last_of h
  exact ⟨q ++ l0, last, by rw [List.append_assoc, ← h1], h2⟩
theorem nb_of {c : UInt8} {l : List UInt8} (h : c ≠ 32 ∧ ¬ (9 ≤ c.toNat ∧ c.toNat ≤ 13)) (h2 : c = 45 → sgn l ≠ 45) : NoBlank (c :: l) := by
  refine ⟨fun e => h.1 (UInt8.toNat_inj.mp (by show c.toNat = 32; simp only [sgn] at e; lia)), fun e => h.2 (by simp only [sgn] at e; lia), fun l' e => ?_⟩
  cases e
  exact h2 rfl
theorem hex_nb {c : UInt8} (h : isHex c) : c ≠ 32 ∧ ¬ (9 ≤ c.toNat ∧ c.toNat ≤ 13) ∧ c ≠ 45 := by
  unfold isHex isDec at h
  refine ⟨?_, by lia, ?_⟩ <;> rintro rfl <;> revert h <;> decide
theorem signs_ok {p : List UInt8} {k : Int} (hp : (p, k) ∈ SIGNS) {r : List UInt8} (hf : Fits p (sgn r)) : One (p ++ r) k .none r ∧ NoBlank (p ++ r) := by
  unfold SIGNS at hp
  simp only [List.mem_cons, Prod.mk.injEq, List.not_mem_nil, or_false] at hp
  have hd := hf.d
  have hw := hf.w
  have hm := hf.m
  rcases hp with ⟨rfl, rfl⟩ | ⟨rfl, rfl⟩ | ⟨rfl, rfl⟩ | ⟨rfl, rfl⟩ | ⟨rfl, rfl⟩ | ⟨rfl, rfl⟩ | ⟨rfl, rfl⟩ | ⟨rfl, rfl⟩ | ⟨rfl, rfl⟩ | ⟨rfl, rfl⟩ | ⟨rfl, rfl⟩ | ⟨rfl, rfl⟩ | ⟨rfl, rfl⟩ | ⟨rfl, rfl⟩ | ⟨rfl, rfl⟩ | ⟨rfl, rfl⟩ | ⟨rfl, rfl⟩ | ⟨rfl, rfl⟩ | ⟨rfl, rfl⟩ | ⟨rfl, rfl⟩
  · exact ⟨.dots2 (hd [46] 46 rfl rfl).1, nb_of (by decide) (fun e => absurd e (by decide))⟩
  · exact ⟨.dots3, nb_of (by decide) (fun e => absurd e (by decide))⟩
  · exact ⟨.eq, nb_of (by decide) (fun e => absurd e (by decide))⟩
  · exact ⟨.ge, nb_of (by decide) (fun e => absurd e (by decide))⟩
  · exact ⟨.le, nb_of (by decide) (fun e => absurd e (by decide))⟩
  · exact ⟨.ne, nb_of (by decide) (fun e => absurd e (by decide))⟩
  · exact ⟨.minus (hm [] 45 rfl rfl), nb_of (by decide) fun _ => hm [] 45 rfl rfl⟩
  · exact ⟨.open_ (hf.b rfl).1 (hf.b rfl).2, nb_of (by decide) (fun e => absurd e (by decide))⟩
  · exact ⟨.other (by decide), nb_of (by decide) (fun e => absurd e (by decide))⟩
  · exact ⟨.cmp (by decide) (hf.e (by decide)), nb_of (by decide) (fun e => absurd e (by decide))⟩
  · exact ⟨.cmp (by decide) (hf.e (by decide)), nb_of (by decide) (fun e => absurd e (by decide))⟩
  · exact ⟨.cmp (by decide) (hf.e (by decide)), nb_of (by decide) (fun e => absurd e (by decide))⟩
  · exact ⟨.dot (hd [] 46 rfl rfl).1 (hd [] 46 rfl rfl).2, nb_of (by decide) (fun e => absurd e (by decide))⟩
  · exact ⟨.other (by decide), nb_of (by decide) (fun e => absurd e (by decide))⟩
  · exact ⟨.other (by decide), nb_of (by decide) (fun e => absurd e (by decide))⟩
  · exact ⟨.other (by decide), nb_of (by decide) (fun e => absurd e (by decide))⟩
  · exact ⟨.other (by decide), nb_of (by decide) (fun e => absurd e (by decide))⟩
  · exact ⟨.other (by decide), nb_of (by decide) (fun e => absurd e (by decide))⟩
  · exact ⟨.nil (hw [110, 105] 108 rfl (by unfold isW; decide)).1, nb_of (by decide) (fun e => absurd e (by decide))⟩
  · exact ⟨.while (hw [119, 104, 105, 108] 101 rfl (by unfold isW; decide)).1, nb_of (by decide) (fun e => absurd e (by decide))⟩
theorem one_written {kd : Int} {p : List UInt8} {tv : TV} (h : Written kd p tv) {r : List UInt8} (hf : Fits p (sgn r)) : One (p ++ r) kd tv r ∧ NoBlank (p ++ r) := by
  cases h with
  | @quo os ho =>
    have := quoted_ok r os ho.ok
    exact ⟨.text this, nb_of (by decide) (fun e => absurd e (by decide))⟩
  | @lng os ho =>
    have hl := long_ok r 4 os ho.len (Nat.le_refl _) ho.ok
    have e : txtL os ++ r = 91 :: 61 :: 61 :: 61 :: 61 :: 91 :: ((if os.take 1 = [10] ∨ os.length < 2 then [10] else []) ++ (os ++ (CLS ++ r))) := by
      unfold txtL CLS
      simp only [List.append_assoc, List.cons_append, List.nil_append]
    rw [e]
    refine ⟨.long (lv := 4) rfl rfl ?_, nb_of (by decide) (fun e => absurd e (by decide))⟩
    split
    · rename_i hc
      have e0 : eol 10 (os ++ (CLS ++ r)) = os ++ (CLS ++ r) := by
        cases os with
        | nil => rfl
        | cons d os =>
          show (if (d = 10 ∨ d = 13) ∧ d ≠ 10 then _ else _) = _
          have hd := ho.ok d (.head _)
          rw [if_neg]
          · rfl
          · rintro ⟨h9 | h9, h8⟩
            · exact h8 h9
            · subst h9; revert hd; decide
      show Long 4 (if (10 : UInt8) = 10 ∨ (10 : UInt8) = 13 then eol 10 (os ++ (CLS ++ r)) else 10 :: (os ++ (CLS ++ r))) os r
      rw [if_pos (.inl rfl), e0]
      exact hl
    · rename_i hc
      cases os with
      | nil => exact absurd (.inr (by decide)) hc
      | cons d os =>
        have hd := ho.ok d (.head _)
        have hn : ¬ (d = 10 ∨ d = 13) := by
          rintro (h9 | h9)
          · exact hc (.inl (by rw [h9]; rfl))
          · subst h9; revert hd; decide
        show Long 4 (if d = 10 ∨ d = 13 then _ else d :: (os ++ (CLS ++ r))) (d :: os) r
        rw [if_neg hn]
        exact hl
  | @dec n _ h0 hd =>
    obtain ⟨l0, last, e1, e2⟩ := last_of hd.ne
    have hdec : ∀ c ∈ p, isDec c := fun c hc => (hd.ok c hc).2 rfl
    have hv : decV 0 p = n := by rw [decV_eq p 0 hdec]; exact hd.val
    obtain ⟨w1, w2⟩ := hf.w l0 last e1 (isHex_isW (hd.ok last e2).1)
    refine ⟨?_, ?_⟩
    · have := One.dec (ds := p) (l := r) hd.ne hdec (by rw [hv]; lia) w1 w2
      rw [hv] at this; exact this
    · obtain ⟨c, l, rfl⟩ := List.exists_cons_of_ne_nil hd.ne
      obtain ⟨x1, x2, x3⟩ := hex_nb (hd.ok c (.head _)).1
      exact nb_of ⟨x1, x2⟩ fun e => absurd e x3
  | @hex n hs h0 hd =>
    obtain ⟨l0, last, e1, e2⟩ := last_app (q := [48, 120]) hd.ne
    have hhex : ∀ c ∈ hs, isHex c := fun c hc => (hd.ok c hc).1
    have hv : hexV 0 hs = n := by rw [hexV_eq hs 0]; exact hd.val
    obtain ⟨w1, w2⟩ := hf.w l0 last e1 (isHex_isW (hhex last e2))
    refine ⟨?_, nb_of (by decide) (fun e => absurd e (by decide))⟩
    have := One.hex (hs := hs) (l := r) hd.ne hhex (by rw [hv]; lia) w1
    rw [hv] at this; exact this
  | @name n hs hd =>
    obtain ⟨l0, last, e1, e2⟩ := last_app (q := [110]) hd.ne
    have hhex : ∀ c ∈ hs, isHex c := fun c hc => (hd.ok c hc).1
    obtain ⟨w1, w2⟩ := hf.w l0 last e1 (isHex_isW (hhex last e2))
    exact ⟨.name hhex w1, nb_of (by decide) (fun e => absurd e (by decide))⟩
  | sign hp => exact signs_ok hp hf
/-- what both lists of tokens have -/
structure Grows (X : List UInt8 → List (Int × TV) → Prop) : Prop where
  cons : ∀ {l l' k v r ts}, Blanks l l' → One l' k v r → NoBlank l' → l' ≠ [] → X r ts → X l ((k, v) :: ts)
theorem grows_toks : Grows Toks := ⟨fun a b c d e => .cons a b c d e⟩
theorem grows_bad : Grows Bad := ⟨fun a b c d e => .cons a b c d e⟩
theorem signs_first : ∀ q ∈ SIGNS, q.1.head? ≠ some 95 := by decide
theorem first_ok {kd : Int} {p : List UInt8} {tv : TV} (h : Written kd p tv) {first : UInt8} {r0 : List UInt8} (e : p = first :: r0) : first ≠ 95 := by
  cases h with
  | quo ho => unfold txtQ at e; cases e; decide
  | lng ho => unfold txtL at e; simp only [List.cons_append] at e; cases e; decide
  | dec h0 hd =>
    have := (hd.ok first (by rw [e]; exact .head _)).2 rfl
    rintro rfl; revert this; unfold isDec; decide
  | hex h0 hd => cases e; decide
  | name hd => cases e; decide
  | sign hp =>
    subst e
    have : ∀ q ∈ SIGNS, ∀ f r, q.1 = f :: r → f ≠ 95 := by
      intro q hq f r hqe
      have h2 := signs_first q hq
      rw [hqe] at h2
      simpa using h2
    exact this _ hp _ _ rfl
theorem near_fits {kd : Int} {p d : List UInt8} {tv : TV} (hd : Written kd d tv) (h : NearR p d) (r : List UInt8) : Fits p (sgn (d ++ r)) := by
  obtain ⟨l0, last, first, r0, rfl, rfl, n⟩ := h
  have hf := first_ok hd rfl
  have hf' : (first.toNat : Int) ≠ 95 := fun e => hf (UInt8.toNat_inj.mp (by show first.toNat = 95; lia))
  show Fits (l0 ++ [last]) (first.toNat : Int)
  have hl : ∀ {l1 x}, l0 ++ [last] = l1 ++ [x] → x = last := fun e => by
    have := congrArg List.getLast? e
    simp at this
    exact this.symm
  refine ⟨fun l1 x e hx => ?_, fun l1 x e hx => ?_, fun e => ?_, fun e => ?_, fun l1 x e hx => ?_⟩
  · have := hl e; subst this
    refine ⟨fun hn => n.w ⟨hx, ?_⟩, fun h46 => (n.d1 h46).2 hx⟩
    unfold isNm at hn; unfold isW; lia
  · have := hl e; subst this; subst hx
    exact ⟨fun h46 => (n.d1 h46).1 rfl, n.d2 rfl⟩
  · exact ⟨fun h => n.b (.inl h) e, fun h => n.b (.inr h) e⟩
  · intro h
    obtain ⟨x1, x2, x3⟩ := n.e h
    rcases e with e | e | e
    · exact x1 e
    · exact x2 e
    · exact x3 e
  · have := hl e; subst this; subst hx
    exact fun h => n.m ⟨h, rfl⟩
theorem writ_ne {kd : Int} {p : List UInt8} {tv : TV} (h : Written kd p tv) : p ≠ [] := by
  cases h with
  | quo ho => unfold txtQ; simp
  | lng ho => unfold txtL; simp
  | dec h0 hd => exact hd.ne
  | hex h0 hd => simp
  | name hd => simp
  | sign hp => exact (signs_len _ hp).1
theorem app_ne {p r : List UInt8} (h : p ≠ []) : p ++ r ≠ [] := by
  intro e; exact h (List.append_eq_nil_iff.mp e).1
section
variable {X : List UInt8 → List (Int × TV) → Prop}
theorem tight_all (G : Grows X) {ds : List Tk} {t : List UInt8} (h : TightR ds t) : Drawns ds → ∀ z ts, X z ts → (∀ ds' d, ds = ds' ++ [d] → Fits d.ti (sgn z)) → X (t ++ z) (pairs ds ++ ts) := by
  induction h with
  | nil => intro _ z ts hx _; exact hx
  | @first d =>
    intro hd z ts hx hf
    have hw := (hd d (by simp)).written.1
    obtain ⟨o1, o2⟩ := one_written hw (hf [] d rfl)
    exact G.cons .nil o1 o2 (app_ne (writ_ne hw)) hx
  | @apart ds d t _ _ ih =>
    intro hd z ts hx hf
    have hw := (hd d (by simp)).written.1
    obtain ⟨o1, o2⟩ := one_written hw (hf ds d rfl)
    have := ih (fun d' hd' => hd d' (List.mem_append_left _ hd')) (32 :: (d.ti ++ z)) ((d.kd, d.tv) :: ts) (G.cons (.cons (.gap (.inl rfl)) .nil) o1 o2 (app_ne (writ_ne hw)) hx) (fun _ d' _ => Fits.far _ (.inl rfl))
    simpa [pairs] using this
  | @near ds p d t _ hn ih =>
    intro hd z ts hx hf
    have hw := (hd d (by simp)).written.1
    obtain ⟨o1, o2⟩ := one_written hw (hf (ds ++ [p]) d rfl)
    have := ih (fun d' hd' => hd d' (List.mem_append_left _ hd')) (d.ti ++ z) ((d.kd, d.tv) :: ts) (G.cons .nil o1 o2 (app_ne (writ_ne hw)) hx) (fun ds' d' e => by
      have : d' = p := by
        have := congrArg List.getLast? e
        simp at this
        exact this.symm
      subst this
      exact near_fits hw hn z)
    simpa [pairs] using this
theorem gaps_first : ∀ g ∈ GAPS, g.head? = some 32 ∨ g.head? = some 10 ∨ g.head? = some 13 ∨ g.head? = some 9 := by decide
theorem gap_sgn {g r : List UInt8} (h : g ∈ GAPS) : sgn (g ++ r) = 32 ∨ sgn (g ++ r) = 10 ∨ sgn (g ++ r) = 13 ∨ sgn (g ++ r) = 9 ∨ sgn (g ++ r) = -1 := by
  have := gaps_first g h
  cases g with
  | nil => simp at this
  | cons c g =>
    simp only [List.head?_cons, Option.some.injEq] at this
    show (c.toNat : Int) = 32 ∨ (c.toNat : Int) = 10 ∨ (c.toNat : Int) = 13 ∨ (c.toNat : Int) = 9 ∨ (c.toNat : Int) = -1
    rcases this with rfl | rfl | rfl | rfl
    · exact .inl rfl
    · exact .inr (.inl rfl)
    · exact .inr (.inr (.inl rfl))
    · exact .inr (.inr (.inr (.inl rfl)))
theorem loose_all (G : Grows X) {ds : List Tk} {t : List UInt8} (h : LooseR ds t) : Drawns ds → ∀ z ts, X z ts → (sgn z = 32 ∨ sgn z = 10 ∨ sgn z = 13 ∨ sgn z = 9 ∨ sgn z = -1) → X (t ++ z) (pairs ds ++ ts) := by
  induction h with
  | nil => intro _ z ts hx _; exact hx
  | @snoc ds d t g1 g2 _ h1 h2 ih =>
    intro hd z ts hx hf
    have hw := (hd d (by simp)).written.2
    obtain ⟨o1, o2⟩ := one_written hw (Fits.far d.lo hf)
    have b1 := blk_ok o2 .nil (gaps_blk g2 h2)
    have b2 := blk_ok o2 b1 (gaps_blk g1 h1)
    have := ih (fun d' hd' => hd d' (List.mem_append_left _ hd')) (g1 ++ (g2 ++ (d.lo ++ z))) ((d.kd, d.tv) :: ts) (G.cons b2 o1 o2 (app_ne (writ_ne hw)) hx) (gap_sgn h1)
    simpa [pairs] using this
end
theorem toks_ahead {p l : List UInt8} {ts : List (Int × TV)} {n : Nat} (hp : blk n p = true) (h : Toks l ts) : Toks (p ++ l) ts := by
  cases h with
  | nil hb => exact .nil (blk_ok noBlank_nil hb hp)
  | cons hb ho nb hne ht => exact .cons (blk_ok nb hb hp) ho nb hne ht
theorem far_all {ds : List Tk} {z : List UInt8} (h : sgn z = 32 ∨ sgn z = 10 ∨ sgn z = 13 ∨ sgn z = 9 ∨ sgn z = -1) : ∀ ds' d, ds = ds' ++ [d] → Fits d.ti (sgn z) := fun _ d _ => Fits.far d.ti h
theorem noend_ok : Toks NOEND [] := .nil (.cons (.gap (.inl rfl)) (.cons (.short fun l2 e => by cases e) .nil))
theorem openc_ok : Bad OPENC [] := by
  refine .nil ⟨.cons (.gap (.inl rfl)) .nil, (rfl : lev 91 [61, 91, 32, 93, 93, 32, 93, 61, 61, 93] = ((1 : Nat) : Int)), rfl, ?_⟩
  show Open 1 [32, 93, 93, 32, 93, 61, 61, 93]
  refine .other (by decide) (by decide) (by decide) (by decide) ?_
  refine .shut (by decide) ?_
  show Open 1 [93, 32, 93, 61, 61, 93]
  refine .shut (by decide) ?_
  show Open 1 [32, 93, 61, 61, 93]
  refine .other (by decide) (by decide) (by decide) (by decide) ?_
  refine .shut (by decide) ?_
  show Open 1 [93]
  refine .shut (by decide) ?_
  exact .eot
theorem plain : Plain where
  tight := fun hd ht => by
    have := tight_all grows_toks ht hd [] [] (.nil .nil) (far_all (by right; right; right; right; rfl))
    simpa using this
  loose := fun hd ht hg => by
    have := loose_all grows_toks ht hd _ [] (.nil (by have := blk_ok noBlank_nil .nil (gaps_blk _ hg); rw [List.append_nil] at this; exact this)) (by have := gap_sgn (r := []) hg; rw [List.append_nil] at this; exact this)
    simpa using this
  ahead := fun hd ht => by
    have := tight_all grows_toks ht hd NOEND [] noend_ok (far_all (.inl rfl))
    rw [List.append_assoc]
    exact toks_ahead ahead_blk (by simpa using this)
  bad := fun hd ht => by
    have := tight_all grows_bad ht hd OPENC [] openc_ok (far_all (.inl rfl))
    simpa using this
end LX
theorem PySem.Challenge.cw_nt0646_01_holds : PySem.Challenge.rw_nt0646_01.Holds :=
  LX.cw LX.plain
