import PyProof.Rows.All
import Wide.All
import OpenK.AllK
import Wide.FinOn
import PyProof.ExcArgsOwn
import PyProof.ExcAttrAll.Exception
import PyProof.ExcInit
import PyProof.InstLoad
import PyProof.InstStoreFacts
import Flt.Ops
import KE.KAssignIn
import KE.LcSums
import KE.KBytesCut
import KE.KTryDeep
import Lean
import PySem.Challenge.RW_nz0355_01
open PySem PySem.W PySem.Calls PyProof.Rows
set_option Elab.async false
set_option linter.unusedVariables false
set_option maxRecDepth 100000
set_option maxHeartbeats 0
namespace Mine
section
noncomputable def insAll : List Obj → Nat → BT → BT
  | [], _, t => t
  | o :: r, n, t => insAll r (n + 1) (t.ins n o)
noncomputable def s0 (P : Params) (os : OsState) : SharedT := ⟨insAll (boot_heap P).objs.toList 0 .nil, 11, (boot_heap P).life, #[], boot_drawn, boot_toks, os⟩
theorem s0_abs (P : Params) (os : OsState) : (s0 P os).abs = ⟨boot_heap P, #[], boot_drawn, boot_toks, os⟩ := by kernel_rfl!
noncomputable def runQ (p : Program) (w : World) (n₀ : Nat) (ann : Option Value) : Nat → SharedT → Thread → Option SharedT
  | 0, _, _ => none
  | n + 1, s, t => match through t with
    | true => some s
    | false => match stepOk n₀ ann t with
      | false => none
      | true => match PySem.W.Fast.tw10156331382660048174 (PySem.W.Fast.tw11892475500146522536 PySem.W.Fast.tw14364793385576792824) p w s t with
        | some (s', t') => runQ p w n₀ ann n s' t'
        | none => none
theorem step_twin : PySem.W.Fast.tw10156331382660048174 (PySem.W.Fast.tw11892475500146522536 PySem.W.Fast.tw14364793385576792824) = stepT (denote treeTable) := by
  rw [← PySem.W.Fast.te10156331382660048174, ← PySem.W.Fast.te11892475500146522536, ← PySem.W.Fast.te14364793385576792824]
theorem runQ_spec {p : Program} {w : World} {n₀ : Nat} {ann : Option Value} : ∀ {n : Nat} {s s' : SharedT} {t : Thread}, runQ p w n₀ ann n s t = some s' → topRun treeTable p w n₀ ann n s.abs t = some s'.abs
  | 0, _, _, _, h => by cases h
  | n + 1, s, s', t, h => by
    unfold runQ at h
    unfold topRun
    cases ht : through t with
    | true => rw [ht] at h; cases h; rfl
    | false =>
      rw [ht] at h
      cases hk : stepOk n₀ ann t with
      | false => rw [hk] at h; cases h
      | true =>
        rw [hk] at h
        rw [step_twin] at h
        cases hs : stepT (denote treeTable) p w s t with
        | none => rw [hs] at h; cases h
        | some r => obtain ⟨s₂, t₂⟩ := r; rw [hs] at h; rw [stepT_spec hs]; exact runQ_spec h
theorem left_of {p q : Program} {loose : List Str} {Xt : Shared → Bool} {α : Type} {Yf : Shared → α} {Ya : World → α} {N : Nat} {g0 : Bool} {H₀ : Params → Heap} {gs₀ : Array GenState} {d₀ : Drawn} {k₀ : Nat} {m₀ : Nat} {ann : Option Value}
    (open_ : ∀ w : World, (fencedOpening treeTable p w N).map (fun s => (s.heap, s.gens, s.drawn, s.toks)) = some (H₀ w.params, gs₀, d₀, k₀))
    (size : ∀ w : World, ((H₀ w.params).isNs mainGlobals && gs₀.size == 0, (H₀ w.params).objs.size, (H₀ w.params).nsMap mainGlobals "__annotations__") = (true, m₀, ann))
    (run : ∀ (w : World) (os : OsState), ∃ s₁, topRun treeTable p w m₀ ann N ⟨H₀ w.params, gs₀, d₀, k₀, os⟩ (topStub p) = some s₁ ∧
      (staticsOk (importedModules p.main.body) (H₀ w.params) s₁.heap && namesBound p s₁.heap && gensDone s₁ && laidKept (H₀ w.params) s₁.heap) = true ∧
      openSeen q loose (importedModules p.main.body) Xt g0 s₁ = openGood q loose ∧ Yf s₁ = Ya w) : LeftO p q loose Xt Yf Ya N g0 := fun w => by
  obtain ⟨⟨h, gs, d, k, os⟩, e, e'⟩ := Option.map_eq_some_iff.mp (open_ w)
  obtain ⟨rfl, rfl, rfl, rfl⟩ : h = H₀ w.params ∧ gs = gs₀ ∧ d = d₀ ∧ k = k₀ := by simpa using e'
  obtain ⟨z1, z2, z3⟩ : _ ∧ _ ∧ _ := by simpa only [Prod.mk.injEq] using size w
  obtain ⟨s₁, r, l1, l2, l3⟩ := run w os
  have t : topFrom treeTable p w N ⟨H₀ w.params, gs, d, k, os⟩ = some s₁ := by
    unfold topFrom
    dsimp only
    rw [z1, z2, z3, r]
    show (match staticsOk (importedModules p.main.body) (H₀ w.params) s₁.heap && namesBound p s₁.heap && gensDone s₁ && laidKept (H₀ w.params) s₁.heap with | true => _ | false => _) = _
    rw [l1]
  unfold openEnds
  rw [e]
  show (topFrom treeTable p w N _).map _ = _
  rw [t]
  exact congrArg some (Prod.ext l2 l3)
theorem open0 : ∀ w : World, (fencedOpening treeTable Challenge.pw_nz0355_01 w 4200).map (fun s => (s.heap, s.gens, s.drawn, s.toks)) = some (boot_heap w.params, Array.mk [], boot_drawn, boot_toks) :=
  boot_open (by kernel_rfl!) (by kernel_rfl!) (fun s => by kernel_rfl!)
theorem size0 : ∀ w : World, ((boot_heap w.params).isNs mainGlobals && (Array.mk [] : Array GenState).size == 0, (boot_heap w.params).objs.size, (boot_heap w.params).nsMap mainGlobals "__annotations__") = (true, 11, some (.ref 6)) := fun w => by kernel_rfl!
abbrev lawP : Program := Challenge.pw_nz0355_01
noncomputable def lq : Program := view lawP [109]
noncomputable def ll : List Str := (lawP.main.scope.names.map (·.1)).filter fun x => x != ("law" : Str)
end
section
noncomputable def xt : Shared → Bool := fun s => xlAt lq [] s && recOk (RowW.records Challenge.rw_nz0355_01.row.toRowW) s
noncomputable def tops (w : World) (os : OsState) : Option SharedT := runQ lawP w 11 (some (.ref 6)) 4200 (s0 w.params os) (topStub lawP)
abbrev Good : Type := Seen × (Option Str × List (Str × Value)) × Bool × Bool × (List (Option FnShape) × Bool) × List (Option PlainShape) × List (Option (PlainShape × Bool)) × (List (Option FnShape) × Bool) × List (Option (List (Option FnShape) × Bool) × Option (PlainShape × Bool))
noncomputable def chk {α : Type} (Yf : Shared → α) (w : World) (s : Shared) : Bool × (Good × α) :=
  (staticsOk (importedModules lawP.main.body) (boot_heap w.params) s.heap && namesBound lawP s.heap && gensDone s && laidKept (boot_heap w.params) s.heap,
   PySem.W.Fast.tw4187177175401517315 lq ll (importedModules lawP.main.body) xt true s, Yf s)
abbrev Chk {α : Type} (Yf : Shared → α) (Ya : World → α) (b : Bool) : Prop :=
  ∀ (w : World) (os : OsState), (tops (w.withFollow "special-get-raises" b) os).map (fun s => chk Yf (w.withFollow "special-get-raises" b) s.abs) = some (true, openGood lq ll, Ya (w.withFollow "special-get-raises" b))
theorem lft {α : Type} {Yf : Shared → α} {Ya : World → α} (h0 : Chk Yf Ya false) (h1 : Chk Yf Ya true) : LeftO lawP lq ll xt Yf Ya 4200 := by
  have key : ∀ (b : Bool), Chk Yf Ya b → ∀ (w : World) (os : OsState), ∃ s₁, topRun treeTable lawP (w.withFollow "special-get-raises" b) 11 (some (.ref 6)) 4200 ⟨boot_heap (w.withFollow "special-get-raises" b).params, Array.mk [], boot_drawn, boot_toks, os⟩ (topStub lawP) = some s₁ ∧
      (staticsOk (importedModules lawP.main.body) (boot_heap (w.withFollow "special-get-raises" b).params) s₁.heap && namesBound lawP s₁.heap && gensDone s₁ && laidKept (boot_heap (w.withFollow "special-get-raises" b).params) s₁.heap) = true ∧
      openSeen lq ll (importedModules lawP.main.body) xt true s₁ = openGood lq ll ∧ Yf s₁ = Ya (w.withFollow "special-get-raises" b) := by
    intro b h w os
    obtain ⟨s, hs, e⟩ := Option.map_eq_some_iff.mp (h w os)
    have r := runQ_spec hs
    rw [s0_abs] at r
    unfold chk at e
    rw [← PySem.W.Fast.te4187177175401517315] at e
    obtain ⟨e1, e2⟩ := Prod.mk.inj e
    obtain ⟨e2, e3⟩ := Prod.mk.inj e2
    exact ⟨_, r, e1, e2, e3⟩
  exact left_of open0 size0 (fun w os => byRow2 "special-get-raises" (P := fun w => ∃ s₁, topRun treeTable lawP w 11 (some (.ref 6)) 4200 ⟨boot_heap w.params, Array.mk [], boot_drawn, boot_toks, os⟩ (topStub lawP) = some s₁ ∧
      (staticsOk (importedModules lawP.main.body) (boot_heap w.params) s₁.heap && namesBound lawP s₁.heap && gensDone s₁ && laidKept (boot_heap w.params) s₁.heap) = true ∧
      openSeen lq ll (importedModules lawP.main.body) xt true s₁ = openGood lq ll ∧ Yf s₁ = Ya w) (fun w => key false h0 w os) (fun w => key true h1 w os) w)
theorem said0 : OpenLaw.wellSaid Challenge.rw_nz0355_01 = true := by
  rw [PySem.W.Fast.te9446332074065402090]; kernel_rfl
end
section
def badIds : List String := ["bytearray.__contains__", "bytearray.__mod__", "bytearray.__rmod__", "_struct.pack_into.held", "bytearray.find.held"] ++ Builtin.Bytes.decodersThatHold
def okC : Code → Bool
  | .builtin id _ => !badIds.contains id
  | _ => true
def GS (l : List (Code × Pos)) : Prop := ∀ x ∈ l, okC x.1 = true
def wpG {α : Type} (M : Model) (A : Around) (t : Sem α) (Q : α → Shared → Prop) (E : Value → Shared → Prop) (s : Shared) : Prop :=
  ∀ Γ p, Γ.In A → okC Γ.code = true → GS Γ.below → Sem.wp M Γ t (fun a _ s' => Q a s') (fun e _ s' => E e s') p s
theorem wpG.of {α : Type} {M : Model} {A : Around} {E : Value → Shared → Prop} {s : Shared} {t : Sem α} {Q : α → Shared → Prop} (h : wpAny M A t Q E s) : wpG M A t Q E s := fun Γ p i _ _ => h Γ p i
theorem wpG.mono {α : Type} {M : Model} {A : Around} {E : Value → Shared → Prop} {s : Shared} {t : Sem α} {Q Q' : α → Shared → Prop} {E' : Value → Shared → Prop} (h : wpG M A t Q E s) (hQ : ∀ a s, Q a s → Q' a s) (hE : ∀ e s, E e s → E' e s) : wpG M A t Q' E' s :=
  fun Γ p a b c => Sem.wp_mono M Γ t (fun a _ s => hQ a s) (fun e _ s => hE e s) p s (h Γ p a b c)
theorem wpG_bind {α β : Type} {M : Model} {A : Around} {E : Value → Shared → Prop} {s : Shared} {m : Sem α} {f : α → Sem β} {Q : β → Shared → Prop} (h : wpG M A m (fun a s' => wpG M A (f a) Q E s') E s) : wpG M A (m >>= f) Q E s := fun Γ p a b c => by
  rw [Sem.wp_bind']
  exact Sem.wp_mono M Γ m (fun x p' s' h' => h' Γ p' a b c) (fun _ _ _ h' => h') p s (h Γ p a b c)
theorem ends_G {prog : Program} {w : World} {t : Sem Fin} {s : Shared} {R : Result → Shared → Prop} (hreg : s.asleep)
    (h : wpG (model prog w) callerA t (fun fin s' => ∃ f, fin = .done f ∧ R (.ok f) s' ∧ leftWithCleanup s'.gens = false) (fun e s' => R (.error e) s' ∧ leftWithCleanup s'.gens = false) s) :
    ∃ n r s' s'', runN (denote table) prog w n s ⟨t, .builtin "claim.caller" {}, default, []⟩ = .halted (outcomeOf r) s' ∧
      schedN (denote table) prog w n (.single s ⟨t, .builtin "claim.caller" {}, default, []⟩) = .halted (outcomeOf r) s' ∧ s'.forget = s''.forget ∧ R r s'' := by
  have h' : Sem.wp (model prog w) ⟨.builtin "claim.caller" {}, none, none, [], none⟩ t (Sem.finPost (model prog w) ⟨.builtin "claim.caller" {}, none, none, [], none⟩ fun r s' => R r s' ∧ leftWithCleanup s'.gens = false)
      (fun e _ s' => R (.error e) s' ∧ leftWithCleanup s'.gens = false) default s :=
    Sem.wp_mono _ _ t (fun fin p' s' ⟨f, e, q⟩ => by subst e; exact q) (fun _ _ _ q => q) default s (h _ default caller_in (by decide) (fun x m => by cases m))
  obtain ⟨n, r, s₁, s₂, a, b, c, d⟩ := wp_halts_full (M := model prog w) (R := R) hreg h'
  exact ⟨n, r, s₂, s₁, b, a, c, d⟩
abbrev lawR : OpenRow := Challenge.rw_nz0355_01.row
abbrev WalkG (YP : World → Heap → Prop) (d : DefRec) (kwd : List (Str × Expr)) : Prop :=
  ∀ (w : World) (s₀ s₁ : Shared) (mg mb : Str → Option Value), Ground lq ll [] (XL lq []) w s₀ mg mb s₁.heap → YP w s₁.heap → ∀ (a : Addr) (o : Obj) (pm cd doc dV kV : Value), s₁.heap.get? a = some o →
    o.data = .func { docDef d.name d.params d.body d.scope pm cd doc with defaults := dV, kwdefaults := kV } → s₁.heap.CodeRec cd d.name → Dflts mg s₁.heap d.params kwd dV kV → mg d.name = some (.ref a) → s₁.gens = #[] →
    ∀ (args : List WData) (vals : List Value) (as : List Addr), lawR.claim.pre args = true → WData.layableAll args = true → ReadsAllW [] (classAt s₀.heap) s₁.heap vals args as → WellAll w.params s₁.heap vals args → (∀ a ∈ as, (a == sysModules) = false) →
      wpG (model lawP w) callerA (PySem.call (.ref a) vals) (fun v s' => GoodWG lawR.claim (classAt s₀.heap) (ExcName.means s₀.heap) args s₁ (.ok (.ret v)) s')
        (fun e s' => GoodWG lawR.claim (classAt s₀.heap) (ExcName.means s₀.heap) args s₁ (.error e) s') s₁
theorem holdsG {α : Type} {Yf : Shared → α} {Ya : World → α} {YP : World → Heap → Prop} {d : DefRec} {kwd : List (Str × Expr)}
    (left : LeftO lawP lq ll xt Yf Ya 4200) (hY : ∀ w s, Yf s = Ya w → YP w s.heap) (hYk : ∀ w h h', YP w h → (∀ b o, h.get? b = some o → h'.get? b = some o) → YP w h')
    (hdef : defOf lq lawR.name = some (d, kwd)) (hp : lawP.theDef lawR.name = some (d.params, d.body, d.scope)) (hk : kwWritten? d.params.kwonlyargs d.params.kw_defaults = some kwd)
    (k1 : lawR.wellSaid = true) (ok : (chainsOk lq && opensWell lawP && (frees lawR.toRowW && lawR.within.isEmpty)) = true) (hb : lawP.bare) (hw : lawR.toRowW.promised)
    (walk : WalkG YP d kwd) : lawR.Holds := by
  obtain ⟨ok, k5⟩ := Bool.and_eq_true_iff.mp ok
  obtain ⟨hch, o1⟩ := Bool.and_eq_true_iff.mp ok
  obtain ⟨k5, k6⟩ := Bool.and_eq_true_iff.mp k5
  obtain ⟨hsame, hu, ha, hap, hm⟩ := frees_parts k5
  have hi := ident_freeW hu ha hap
  have hwi : lawR.claim.within = [] := List.isEmpty_iff.mp k6
  have mk : ∀ (s : Shared), xt s = true → XL lq [] (s.heap.nsMap mainGlobals) s.heap ∧ RecFacts [] s.heap := fun s e => ⟨xl_of s (Bool.and_eq_true_iff.mp e).1, recFacts_of (Bool.and_eq_true_iff.mp e).2⟩
  refine ⟨k1, hw, ⟨hb, o1, rfl⟩, hw.witness, fun w => ⟨(left.behind (XP := fun mg h => XL lq [] mg h ∧ RecFacts [] h) mk hch w).1, fun s' hs' => ?_⟩⟩
  obtain ⟨s₀, hf, hg0, s, hT, hz, hgens, hg, G', y⟩ := (left.behind (XP := fun mg h => XL lq [] mg h ∧ RecFacts [] h) mk hch w).2 s' hs'
  have RF := G'.X.2
  have G0 : Ground lq ll [] (XL lq []) w s (s.heap.nsMap mainGlobals) (s.heap.nsMap builtinsNs) s.heap := ⟨G'.T, G'.B, G'.D, G'.TE, G'.TD, G'.W, G'.X.1, G'.cls, G'.has, G'.apart, G'.once, G'.K⟩
  have G : Ground lq ll [] (XL lq []) w s (s.heap.nsMap mainGlobals) (s.heap.nsMap builtinsNs) s.heap := RF.ground G0
  refine ⟨s₀, hf, hg0, s, hT, fun n hn => ?_, RF.1, RF.2.1, fun args hpre hlay ord hord => ?_⟩
  · obtain rfl : n = lawR.name := by split at hn <;> simp_all
    exact pinned_of_view hg G0 hdef hp hk
  have hgens : s.gens = #[] := Array.eq_empty_of_size_eq_zero (beq_iff_eq.mp hgens)
  obtain ⟨⟨vs, s₁⟩, hl⟩ := Option.isSome_iff_exists.mp (layAllW_isSome (P := w.params) (ord := ord) G.has args lawR.args s (pre_splitW hpre).1)
  have keeps := layAllW_keeps _ _ _ hl
  have rest := layAllW_rest _ _ _ hl
  obtain ⟨as, hrd, hin, hold⟩ := reads_layAllW hord _ _ _ hl hlay s₁.heap (fun _ _ e => e)
  have L : Laid [] w s s₁ args vs as := ⟨⟨ord, hord, hl⟩, hrd, hin, hold, keeps, rest.1.trans hgens, rest.2.2.1⟩
  have G₁ := G.keeps XL.keeps keeps
  obtain ⟨a, o, pm, cd, doc, dV, kV, h1, h2, h3, h4, h5⟩ := G₁.fn hdef
  have W := walk w s s₁ _ _ G₁ (hYk _ _ _ (hY w s y) keeps) a o pm cd doc dV kV h2 h3 h4 h5 (defOf_name hdef ▸ h1) L.gens args vs as hpre hlay L.reads L.well (L.low G.low)
  have go : wpG (model lawP w) callerA (do match ← nsGet mainNs lawR.name with | some f => do ret (← PySem.call f vs) | none => unsupported "claim.caller:no-such-global")
      (fun fin s' => ∃ f, fin = .done f ∧ (lawR.claim.Ends s args vs s₁ (.ok f) s' ∧ s'.os = s.os ∧ (lawR.writes = true → namesKept lawP lawR.keeps s.heap s'.heap ∧ ∀ x ∈ lawR.records, ∀ a, classAt s.heap x.1 = some a → recordClass s'.heap a x.1 (x.2.map (·.1)) = true)) ∧ leftWithCleanup s'.gens = false)
      (fun e s' => (lawR.claim.Ends s args vs s₁ (.error e) s' ∧ s'.os = s.os ∧ (lawR.writes = true → namesKept lawP lawR.keeps s.heap s'.heap ∧ ∀ x ∈ lawR.records, ∀ a, classAt s.heap x.1 = some a → recordClass s'.heap a x.1 (x.2.map (·.1)) = true)) ∧ leftWithCleanup s'.gens = false) s₁ := by
    refine wpG_bind (.of (wpAny_nsGet G₁.T.g ?_))
    rw [h1]
    refine wpG_bind (W.mono (fun v s' g => ?_) fun e s' g => ?_)
    · obtain ⟨z1, z2, z3⟩ := g.laid (c := lawR.claim) hsame hwi hi L
      exact .of (wpAny_pure ⟨_, rfl, ⟨z1, z2, fun q => by cases q⟩, leftWithCleanup_false_of_bare z3⟩)
    · obtain ⟨z1, z2, z3⟩ := g.laid (c := lawR.claim) hsame hwi hi L
      exact ⟨⟨z1, z2, fun q => by cases q⟩, leftWithCleanup_false_of_bare z3⟩
  obtain ⟨k, r, s', s'', hrun, hsched, hfo, hcase, hos, hkp⟩ := ends_G (R := fun r s' => lawR.claim.Ends s args vs s₁ r s' ∧ s'.os = s.os ∧ (lawR.writes = true → namesKept lawP lawR.keeps s.heap s'.heap ∧ ∀ x ∈ lawR.records, ∀ a, classAt s.heap x.1 = some a → recordClass s'.heap a x.1 (x.2.map (·.1)) = true)) (Shared.asleep_of_life rest.2.2.2 hz) go
  obtain ⟨eh, _, _, eo, _⟩ := Shared.forget_eq hfo
  have hcase := hcase.congr eh
  rw [← eo] at hos
  have hlife : s'.heap.life = s.heap.life := (runN_life _ _ _ hrun).trans rest.2.2.2
  refine ⟨vs, s₁, hl, k, _, s', hsched, ?_, (fun _ i x hx => by rw [hgens] at hx; simp at hx), (by rw [eh]; exact hkp), by rw [hlife], Shared.rest_eq hos⟩
  rcases hcase with ⟨v, rfl, d1, d2, d3, d4, d5⟩ | ⟨e, ob, cls, rfl, d1, d2, d3, d4, d5⟩
  · exact .inl ⟨v, rfl, d1, d2, d3, fun b o y _ => d4 b o y, d5⟩
  · exact .inr ⟨e, ob, cls, rfl, d1, d2, d3, d4, fun b o y _ => d5 b o y⟩
end
section
theorem headG (H : Hook) {d : DefRec} {kwd : List (Str × Expr)} (hdef : defOf lq lawR.name = some (d, kwd)) (hp : lawP.theDef lawR.name = some (d.params, d.body, d.scope)) (hk : kwWritten? d.params.kwonlyargs d.params.kw_defaults = some kwd)
    (k1 : lawR.wellSaid = true) (ok : (chainsOk lq && opensWell lawP && (frees lawR.toRowW && lawR.within.isEmpty)) = true) (hb : lawP.bare) (hw : lawR.toRowW.promised)
    (h : Chk (Hook.obs H) (Hook.val H) false ∧ Chk (Hook.obs H) (Hook.val H) true ∧ WalkG (Hook.says H) d kwd) : lawR.Holds :=
  holdsG (lft h.1 h.2.1) H.of H.keeps hdef hp hk k1 ok hb hw h.2.2
local macro_rules | `(tactic| o_law) => `(tactic| refine holds_law said0 fun said => ?_)
local macro_rules | `(tactic| o_head $H) => do
  let (a, b) := (Lean.mkIdent `hw, Lean.mkIdent `hc)
  `(tactic| (rename OpenRow.wellSaid _ = true => said; refine headG $H (by rfl) (by rfl) (by rfl) said (by decide +kernel) ⟨rfl, rfl, rfl, rfl, rfl, by decide +kernel⟩ ?$a:ident ?$b:ident; (case' $b:ident => clear said)))
open_top tp for PySem.Challenge.rw_nz0355_01
abbrev Ar1 {A B C D : Prop} (_ : A ∧ B ∧ C → D) : Prop := A
abbrev Ar2 {A B C D : Prop} (_ : A ∧ B ∧ C → D) : Prop := B
abbrev Ar3 {A B C D : Prop} (_ : A ∧ B ∧ C → D) : Prop := C
theorem lf0 : Ar1 tp := fun w os => by kernel_rfl
theorem lf1 : Ar2 tp := fun w os => by kernel_rfl
theorem hd (h : Ar3 tp) : Challenge.rw_nz0355_01.Holds := tp ⟨lf0, lf1, h⟩
end
open PySem.Spec
section
inductive Bi where
  | len | min | sum | isi
inductive Ty where
  | range | bytes | bytearray | tuple | list | int | enumerate
def Bi.id : Bi → String
  | .len => "len"
  | .min => "min"
  | .sum => "sum"
  | .isi => "isinstance"
def Ty.id : Ty → String
  | .range => "range"
  | .bytes => "bytes"
  | .bytearray => "bytearray"
  | .tuple => "tuple"
  | .list => "list"
  | .int => "int"
  | .enumerate => "enumerate"
inductive SV where
  | none
  | bool (b : Bool)
  | int (i : Int)
  | str (x : Str)
  | bytes (l : List UInt8)
  | tup (l : List SV)
  | lst (l : List SV)
  | dic (l : List (SV × SV))
  | rng (a b c : Int)
  | ref (a : Addr)
  | bi (b : Bi)
  | ty (t : Ty)
inductive AV where
  | v (x : SV)
  | c (n : Nat)
inductive SObj where
  | lst (l : List SV)
  | inst (C : Addr) (j : Nat)
  | idict (fs : List (Str × SV))
  | vcell (v : AV)
  | vnone
  | barr (l : List UInt8)
abbrev tupObj (vs : List Value) (n : Nat) : Obj := { cls := .type "tuple", data := .seq vs.toArray n }
inductive KR (w : World) : DictEntry → SV → Prop
  | str {x : Str} {t : Tok} {e : DictEntry} : e.key = .str x t → e.hash = PyData.keyHash w.params x → KR w e (.str x)
  | int {i : Int} {t : Tok} {e : DictEntry} : e.key = .int i t → e.hash = hashInt i → KR w e (.int i)
mutual
inductive VR (P : Addr → Obj → Prop) (w : World) : Value → SV → Prop
  | none : VR P w .none .none
  | bool (b : Bool) : VR P w (.bool b) (.bool b)
  | int (i : Int) (t : Tok) : VR P w (.int i t) (.int i)
  | str (x : Str) (t : Tok) : VR P w (.str x t) (.str x)
  | bytes (l : List UInt8) (t : Tok) : VR P w (.bytes ⟨l⟩ t) (.bytes l)
  | tup {a : Addr} {vs : List Value} {n : Nat} {l : List SV} : P a (tupObj vs n) → VRs P w vs l → VR P w (.ref a) (.tup l)
  | lst {a : Addr} {vs : List Value} {n : Nat} {l : List SV} : P a (listOf vs.toArray n) → VRs P w vs l → VR P w (.ref a) (.lst l)
  | dic {a : Addr} {es : List DictEntry} {n : Nat} {l : List (SV × SV)} : P a (dictOf es n) → (a == sysModules) = false → DRs P w es l → VR P w (.ref a) (.dic l)
  | rng {a : Addr} {i j k : Int} {t1 t2 t3 : Tok} : P a { cls := .type "range", data := .fields #[.int i t1, .int j t2, .int k t3] } → VR P w (.ref a) (.rng i j k)
  | ref (a : Addr) : VR P w (.ref a) (.ref a)
  | bi (b : Bi) : VR P w (.builtin b.id) (.bi b)
  | ty (t : Ty) : VR P w (.type t.id) (.ty t)
inductive VRs (P : Addr → Obj → Prop) (w : World) : List Value → List SV → Prop
  | nil : VRs P w [] []
  | cons {v : Value} {vs : List Value} {d : SV} {ds : List SV} : VR P w v d → VRs P w vs ds → VRs P w (v :: vs) (d :: ds)
inductive DRs (P : Addr → Obj → Prop) (w : World) : List DictEntry → List (SV × SV) → Prop
  | nil : DRs P w [] []
  | cons {e : DictEntry} {es : List DictEntry} {k d : SV} {ds : List (SV × SV)} : KR w e k → VR P w e.val d → DRs P w es ds → DRs P w (e :: es) ((k, d) :: ds)
end
mutual
theorem VR.mono {P P' : Addr → Obj → Prop} {w : World} (hp : ∀ a o, P a o → P' a o) : ∀ {v : Value} {d : SV}, VR P w v d → VR P' w v d
  | _, _, .none => .none
  | _, _, .bool b => .bool b
  | _, _, .int i t => .int i t
  | _, _, .str x t => .str x t
  | _, _, .bytes l t => .bytes l t
  | _, _, .tup h r => .tup (hp _ _ h) (VRs.mono hp r)
  | _, _, .lst h r => .lst (hp _ _ h) (VRs.mono hp r)
  | _, _, .dic h c r => .dic (hp _ _ h) c (DRs.mono hp r)
  | _, _, .rng h => .rng (hp _ _ h)
  | _, _, .ref a => .ref a
  | _, _, .bi a => .bi a
  | _, _, .ty a => .ty a
theorem VRs.mono {P P' : Addr → Obj → Prop} {w : World} (hp : ∀ a o, P a o → P' a o) : ∀ {vs : List Value} {ds : List SV}, VRs P w vs ds → VRs P' w vs ds
  | _, _, .nil => .nil
  | _, _, .cons h r => .cons (VR.mono hp h) (VRs.mono hp r)
theorem DRs.mono {P P' : Addr → Obj → Prop} {w : World} (hp : ∀ a o, P a o → P' a o) : ∀ {vs : List DictEntry} {ds : List (SV × SV)}, DRs P w vs ds → DRs P' w vs ds
  | _, _, .nil => .nil
  | _, _, .cons k h r => .cons k (VR.mono hp h) (DRs.mono hp r)
end
inductive AR (P : Addr → Obj → Prop) (w : World) (ρ : List Addr) : Value → AV → Prop
  | v {v : Value} {d : SV} : VR P w v d → AR P w ρ v (.v d)
  | c {a : Addr} {n : Nat} : ρ[n]? = some a → AR P w ρ (.ref a) (.c n)
inductive ARs (P : Addr → Obj → Prop) (w : World) (ρ : List Addr) : List Value → List AV → Prop
  | nil : ARs P w ρ [] []
  | cons {v : Value} {vs : List Value} {d : AV} {ds : List AV} : AR P w ρ v d → ARs P w ρ vs ds → ARs P w ρ (v :: vs) (d :: ds)
theorem AR.mono {P P' : Addr → Obj → Prop} {w : World} {ρ ρ' : List Addr} (hp : ∀ a o, P a o → P' a o) (hr : ρ <+: ρ') {v : Value} {d : AV} : AR P w ρ v d → AR P' w ρ' v d
  | .v h => .v (h.mono hp)
  | .c h => .c (by obtain ⟨t, rfl⟩ := hr; rw [List.getElem?_append_left (List.getElem?_eq_some_iff.mp h).1]; exact h)
theorem ARs.mono {P P' : Addr → Obj → Prop} {w : World} {ρ ρ' : List Addr} (hp : ∀ a o, P a o → P' a o) (hr : ρ <+: ρ') : ∀ {v : List Value} {d : List AV}, ARs P w ρ v d → ARs P' w ρ' v d
  | _, _, .nil => .nil
  | _, _, .cons h r => .cons (h.mono hp hr) (ARs.mono hp hr r)
theorem ARs.length {P : Addr → Obj → Prop} {w : World} {ρ : List Addr} : ∀ {vs : List Value} {ds : List AV}, ARs P w ρ vs ds → vs.length = ds.length
  | _, _, .nil => rfl
  | _, _, .cons _ r => by rw [List.length_cons, List.length_cons, r.length]
theorem ARs.append {P : Addr → Obj → Prop} {w : World} {ρ : List Addr} {ws : List Value} {es : List AV} (k : ARs P w ρ ws es) {vs : List Value} {ds : List AV} (r : ARs P w ρ vs ds) : ARs P w ρ (vs ++ ws) (ds ++ es) := by
  induction r with
  | nil => exact k
  | cons h _ ih => exact .cons h ih
def allV : List AV → Option (List SV)
  | [] => some []
  | .v x :: r => (allV r).map (x :: ·)
  | .c _ :: _ => none
theorem ARs.allV {P : Addr → Obj → Prop} {w : World} {ρ : List Addr} : ∀ {vs : List Value} {as : List AV} {ds : List SV}, ARs P w ρ vs as → allV as = some ds → VRs P w vs ds
  | _, _, _, .nil, e => by cases e; exact .nil
  | _, _, _, .cons (ds := as) (.v h) r, e => by
    unfold Mine.allV at e
    cases q : Mine.allV as with
    | none => rw [q] at e; cases e
    | some l => rw [q] at e; cases e; exact .cons h (r.allV q)
  | _, _, _, .cons (.c _) _, e => by cases e
theorem VRs.toA {P : Addr → Obj → Prop} {w : World} {ρ : List Addr} : ∀ {vs : List Value} {ds : List SV}, VRs P w vs ds → ARs P w ρ vs (ds.map .v)
  | _, _, .nil => .nil
  | _, _, .cons h r => .cons (.v h) r.toA
section
variable {P : Addr → Obj → Prop} {w : World} {v : Value} {d : SV} {vs ws : List Value} {ds es : List SV}
theorem VRs.length (h : VRs P w vs ds) : vs.length = ds.length := by
  induction vs generalizing ds with
  | nil => cases h; rfl
  | cons v vs ih => cases h with | cons _ r => rw [List.length_cons, List.length_cons, ih r]
theorem VRs.append (h : VRs P w vs ds) (k : VRs P w ws es) : VRs P w (vs ++ ws) (ds ++ es) := by
  induction vs generalizing ds with
  | nil => cases h; exact k
  | cons v vs ih => cases h with | cons h r => exact .cons h (ih r)
theorem VRs.get (h : VRs P w vs ds) {k : Nat} {d : SV} (hk : ds[k]? = some d) : ∃ v, vs[k]? = some v ∧ VR P w v d := by
  induction vs generalizing ds k with
  | nil => cases h; cases hk
  | cons v vs ih =>
    cases h with
    | cons h r =>
      cases k with
      | zero => cases hk; exact ⟨v, rfl, h⟩
      | succ k => exact ih r hk
theorem VRs.get' (h : VRs P w vs ds) {k : Nat} {v : Value} (hk : vs[k]? = some v) : ∃ d, ds[k]? = some d ∧ VR P w v d := by
  induction vs generalizing ds k with
  | nil => cases hk
  | cons u vs ih =>
    cases h with
    | cons h r =>
      cases k with
      | zero => cases hk; exact ⟨_, rfl, h⟩
      | succ k => exact ih r hk
theorem VRs.drop (h : VRs P w vs ds) : ∀ n, VRs P w (vs.drop n) (ds.drop n) := by
  intro n
  induction n generalizing vs ds with
  | zero => exact h
  | succ n ih => cases h with
    | nil => exact .nil
    | cons _ r => exact ih r
theorem VRs.take (h : VRs P w vs ds) : ∀ n, VRs P w (vs.take n) (ds.take n) := by
  intro n
  induction n generalizing vs ds with
  | zero => exact .nil
  | succ n ih => cases h with
    | nil => exact .nil
    | cons a r => exact .cons a (ih r)
end
noncomputable def lk (x : Str) : List (Str × AV) → Option AV
  | [] => none
  | p :: r => match Fast.sEq x p.1 with
    | true => some p.2
    | false => lk x r
noncomputable def lkN (x : Str) : List (Str × Nat) → Option Nat
  | [] => none
  | p :: r => match Fast.sEq x p.1 with
    | true => some p.2
    | false => lkN x r
theorem sEq_self (x : Str) : Fast.sEq x x = true := Fast.sEq_iff.mpr rfl
theorem sEq_false {x y : Str} (h : x ≠ y) : Fast.sEq x y = false := by
  cases q : Fast.sEq x y with
  | false => rfl
  | true => exact absurd (Fast.sEq_iff.mp q) h
theorem lk_cons (x y : Str) (v : AV) (r : List (Str × AV)) : lk x ((y, v) :: r) = if x = y then some v else lk x r := by
  show (match Fast.sEq x y with | true => some v | false => lk x r) = _
  by_cases h : x = y
  · subst h; rw [sEq_self, if_pos rfl]
  · rw [sEq_false h, if_neg h]
structure SS where
  loc : List (Str × AV)
  cel : List SObj
abbrev Pz (h : Heap) (ow : Addr → Prop) : Addr → Obj → Prop := fun a o => h.get? a = some o ∧ ¬ ow a
inductive ER (P : Addr → Obj → Prop) (w : World) : List DictEntry → List (Str × SV) → Prop
  | nil : ER P w [] []
  | cons {x : Str} {t : Tok} {v : Value} {sv : SV} {es : List DictEntry} {fs : List (Str × SV)} : VR P w v sv → ER P w es fs → ER P w (⟨PyData.keyHash w.params x, .str x t, v⟩ :: es) ((x, sv) :: fs)
inductive OR (P : Addr → Obj → Prop) (w : World) (ρ : List Addr) : Obj → SObj → Prop
  | lst {vs : List Value} {n : Nat} {l : List SV} : VRs P w vs l → OR P w ρ (listOf vs.toArray n) (.lst l)
  | inst {C dx : Addr} {j : Nat} : ρ[j]? = some dx → OR P w ρ (instObj C dx) (.inst C j)
  | idict {es : List DictEntry} {n : Nat} {fs : List (Str × SV)} : ER P w es fs → OR P w ρ (dictOf es n) (.idict fs)
  | vcell {o : Obj} {v : Value} {sv : AV} : o.data = .cell (some v) → AR P w ρ v sv → OR P w ρ o (.vcell sv)
  | vnone {o : Obj} : o.data = .cell none → OR P w ρ o .vnone
  | barr {l : List UInt8} : OR P w ρ { cls := .type "bytearray", data := .bytearray ⟨l⟩ 0 } (.barr l)
theorem ER.mono {P P' : Addr → Obj → Prop} {w : World} (hp : ∀ a o, P a o → P' a o) {es : List DictEntry} {fs : List (Str × SV)} (h : ER P w es fs) : ER P' w es fs := by
  induction h with
  | nil => exact .nil
  | cons v _ ih => exact .cons (v.mono hp) ih
theorem OR.mono {P P' : Addr → Obj → Prop} {ρ ρ' : List Addr} {w : World} (hp : ∀ a o, P a o → P' a o) (hr : ρ <+: ρ') {o : Obj} {so : SObj} (h : OR P w ρ o so) : OR P' w ρ' o so := by
  cases h with
  | lst r => exact .lst (r.mono hp)
  | inst h => exact .inst (by obtain ⟨t, rfl⟩ := hr; rw [List.getElem?_append_left (List.getElem?_eq_some_iff.mp h).1]; exact h)
  | idict r => exact .idict (r.mono hp)
  | vcell h r => exact .vcell h (r.mono hp hr)
  | vnone h => exact .vnone h
  | barr => exact .barr
structure Fx where
  w : World
  dp : Nat
  un : Nat
  gd : Option (List Code)
  cn : Str
  cs : Scope
  L : Addr
  fa : Addr
  ccd : Value
  cl : List (Str × Addr)
  outer : List Env
  A₀ : Around
  base : Heap
  h₀ : Heap
  env : Env
  comp : Option (Str → Option Value)
  vid : List (Str × Nat)
  D : Nat
  U : Nat
abbrev Fx.A (X : Fx) : Around := ktrTop X.dp X.un X.gd X.cn X.cs X.L X.fa X.ccd X.cl X.outer
structure Fx.Ok (X : Fx) : Prop where
  below : Below X.A₀ X.base X.outer X.h₀
  K : (tp.heap_1 X.w.params).In X.h₀
  T : ∃ mean mg mb, Top lq ll mean mg mb X.h₀
  ck : X.cs.kind = .function
  kind : X.env.scope.kind = .function
  glob : X.env.globals = mainGlobals
  bins : X.env.builtins = builtinsNs
  here : X.comp = none → X.env.locals = X.L
  there : ∀ m, X.comp = some m → X.env.locals ≠ X.L ∧ X.h₀.get? X.env.locals = none
  room : X.dp + X.D < recursionLimit
  units : X.un + X.U < cLine
structure SR (X : Fx) (ow : Addr → Prop) (ρ : List Addr) (h : Heap) (σ : SS) : Prop where
  fr : ∃ mf ml, Fr X.h₀ X.L h mf ∧ h.Ns X.env.locals ml ∧ (X.comp = none → ml = mf) ∧ (∀ m, X.comp = some m → mf = m) ∧ ∀ x sv, lk x σ.loc = some sv → ∃ v, ml x = some v ∧ AR (Pz h ow) X.w ρ v sv
  len : ρ.length = σ.cel.length
  cel : ∀ (i : Nat) (a : Addr) (o : SObj), ρ[i]? = some a → σ.cel[i]? = some o → ∃ ob, h.get? a = some ob ∧ OR (Pz h ow) X.w ρ ob o
  nd : ρ.Nodup
  off : ∀ a ∈ ρ, ow a ∧ X.h₀.get? a = none ∧ a ≠ X.L ∧ a ≠ X.env.locals
  owL : ow X.L
  owl : ow X.env.locals
  low : ∀ a, ow a → ∃ o, h.get? a = some o
  var : ∀ (x : Str) (i : Nat), lkN x X.vid = some i → ∃ c, X.env.cells.lookup x = some c ∧ ρ[i]? = some c
  kf : ∀ (a : Addr) (o : Obj), (tp.heap_1 X.w.params).lookup a = some o → Pz h ow a o
structure Ex (X : Fx) (ow : Addr → Prop) (ρ : List Addr) (h : Heap) (ow' : Addr → Prop) (ρ' : List Addr) (h' : Heap) : Prop where
  own : ∀ b, ow b → ow' b
  new : ∀ b, ow' b → ow b ∨ h.get? b = none
  pre : ρ <+: ρ'
  fresh : ∀ b ∈ ρ', b ∈ ρ ∨ h.get? b = none
  keep : ∀ b o, h.get? b = some o → b ∉ ρ → b ≠ X.env.locals → b ≠ X.L → h'.get? b = some o
  live : ∀ b o, h.get? b = some o → ∃ o', h'.get? b = some o'
theorem no_get {h : Heap} {b : Addr} {o : Obj} {P : Prop} (e : h.get? b = some o) (n : h.get? b = none) : P := by rw [n] at e; cases e
section
variable {X : Fx} {ow ow' ow'' : Addr → Prop} {ρ ρ' ρ'' : List Addr} {h h' h'' : Heap} {σ : SS}
theorem Ex.refl : Ex X ow ρ h ow ρ h := ⟨fun _ x => x, fun _ x => .inl x, List.prefix_refl _, fun _ x => .inl x, fun _ _ e _ _ _ => e, fun _ o e => ⟨o, e⟩⟩
theorem Ex.gone (a : Ex X ow ρ h ow' ρ' h') {b : Addr} (n : h'.get? b = none) : h.get? b = none := by
  cases e : h.get? b with
  | none => rfl
  | some o => obtain ⟨o', e'⟩ := a.live b o e; exact no_get e' n
theorem Ex.trans (a : Ex X ow ρ h ow' ρ' h') (b : Ex X ow' ρ' h' ow'' ρ'' h'') : Ex X ow ρ h ow'' ρ'' h'' where
  own := fun x y => b.own x (a.own x y)
  new := fun x y => (b.new x y).elim (fun z => a.new x z) fun z => .inr (a.gone z)
  pre := a.pre.trans b.pre
  fresh := fun x y => (b.fresh x y).elim (fun z => a.fresh x z) fun z => .inr (a.gone z)
  keep := fun x o e n1 n2 n3 => b.keep x o (a.keep x o e n1 n2 n3) (fun q => (a.fresh x q).elim n1 fun z => no_get e z) n2 n3
  live := fun x o e => let ⟨o', e'⟩ := a.live x o e; b.live x o' e'
theorem Ex.pz (a : Ex X ow ρ h ow' ρ' h') (off : ∀ a ∈ ρ, ow a) (owl : ow X.env.locals) (owL : ow X.L) : ∀ b o, Pz h ow b o → Pz h' ow' b o := fun b o e =>
  ⟨a.keep b o e.1 (fun q => e.2 (off b q)) (fun q => e.2 (q ▸ owl)) (fun q => e.2 (q ▸ owL)), fun q => (a.new b q).elim e.2 fun z => no_get e.1 z⟩
theorem SR.pz (S : SR X ow ρ h σ) (a : Ex X ow ρ h ow' ρ' h') : ∀ b o, Pz h ow b o → Pz h' ow' b o := a.pz (fun b hb => (S.off b hb).1) S.owl S.owL
theorem SR.vr (S : SR X ow ρ h σ) (a : Ex X ow ρ h ow' ρ' h') {v : Value} {d : SV} (r : VR (Pz h ow) X.w v d) : VR (Pz h' ow') X.w v d := r.mono (S.pz a)
theorem SR.vrs (S : SR X ow ρ h σ) (a : Ex X ow ρ h ow' ρ' h') {v : List Value} {d : List SV} (r : VRs (Pz h ow) X.w v d) : VRs (Pz h' ow') X.w v d := r.mono (S.pz a)
theorem SR.ar (S : SR X ow ρ h σ) (a : Ex X ow ρ h ow' ρ' h') {v : Value} {d : AV} (r : AR (Pz h ow) X.w ρ v d) : AR (Pz h' ow') X.w ρ' v d := r.mono (S.pz a) a.pre
theorem SR.ars (S : SR X ow ρ h σ) (a : Ex X ow ρ h ow' ρ' h') {v : List Value} {d : List AV} (r : ARs (Pz h ow) X.w ρ v d) : ARs (Pz h' ow') X.w ρ' v d := r.mono (S.pz a) a.pre
theorem SR.grow (S : SR X ow ρ h σ) (up : ∀ b x, h.get? b = some x → h'.get? b = some x) : SR X ow ρ h' σ := by
  have hp : ∀ b x, Pz h ow b x → Pz h' ow b x := fun b x e => ⟨up b x e.1, e.2⟩
  obtain ⟨mf, ml, F, n, c1, c2, l⟩ := S.fr
  exact { fr := ⟨mf, ml, ⟨by obtain ⟨o', es, ep, e, r⟩ := F.ns; exact ⟨o', es, ep, up _ _ e, r⟩, fun b o e => up b o (F.keep b o e), F.above⟩, by obtain ⟨o', es, ep, e, r⟩ := n; exact ⟨o', es, ep, up _ _ e, r⟩, c1, c2, fun x sv e => let ⟨v, e1, e2⟩ := l x sv e; ⟨v, e1, e2.mono hp (List.prefix_refl _)⟩⟩
          len := S.len
          cel := fun i a so e1 e2 => let ⟨ob, e3, e4⟩ := S.cel i a so e1 e2; ⟨ob, up _ _ e3, e4.mono hp (List.prefix_refl _)⟩
          nd := S.nd, off := S.off, owL := S.owL, owl := S.owl
          low := fun a q => let ⟨o, e⟩ := S.low a q; ⟨o, up a o e⟩
          var := S.var
          kf := fun a x e => hp a x (S.kf a x e) }
theorem Ex.grow (up : ∀ b x, h.get? b = some x → h'.get? b = some x) : Ex X ow ρ h ow ρ h' where
  own := fun _ x => x
  new := fun _ x => .inl x
  pre := List.prefix_refl _
  fresh := fun _ x => .inl x
  keep := fun b o e _ _ _ => up b o e
  live := fun b o e => ⟨o, up b o e⟩
theorem push_up (o : Obj) : ∀ b x, h.get? b = some x → (h.push o).get? b = some x := fun b x e => Heap.get?_push_of_some _ e
theorem SR.push (S : SR X ow ρ h σ) (o : Obj) : SR X ow ρ (h.push o) σ := S.grow (push_up o)
theorem Ex.push (o : Obj) : Ex X ow ρ h ow ρ (h.push o) := .grow (push_up o)
theorem none_size (h : Heap) : h.get? h.objs.size = none := Heap.get?_none_of_le (Nat.le_refl _)
theorem SR.fresh (S : SR X ow ρ h σ) (o : Obj) (hf : o.isFreed = false) : Pz (h.push o) ow h.objs.size o := ⟨Heap.get?_push_size _ hf, fun q => let ⟨_, e⟩ := S.low _ q; no_get e (none_size h)⟩
end
def RunAt {α β : Type} (X : Fx) (ow : Addr → Prop) (ρ : List Addr) (s : Shared) (R : (Addr → Prop) → List Addr → Heap → α → β → Prop) (t : Sem α) (K : β → SS → Prop) : Prop :=
  ∀ Q E, (∀ a b σ' ow' ρ' h' tk', Ex X ow ρ s.heap ow' ρ' h' → SR X ow' ρ' h' σ' → R ow' ρ' h' a b → K b σ' → Q a { s with heap := h', toks := tk' }) → wpAny (model lawP X.w) X.A t Q E s
abbrev RV (X : Fx) : (Addr → Prop) → List Addr → Heap → Value → AV → Prop := fun ow ρ h v d => AR (Pz h ow) X.w ρ v d
abbrev RVs (X : Fx) : (Addr → Prop) → List Addr → Heap → List Value → List AV → Prop := fun ow ρ h v d => ARs (Pz h ow) X.w ρ v d
abbrev RB : (Addr → Prop) → List Addr → Heap → Bool → Bool → Prop := fun _ _ _ v d => v = d
abbrev RU : (Addr → Prop) → List Addr → Heap → Unit → Unit → Prop := fun _ _ _ _ _ => True
inductive SF where
  | next | brk | cont
  | ret (v : AV)
inductive RF (X : Fx) (ow : Addr → Prop) (ρ : List Addr) (h : Heap) : Flow → SF → Prop
  | next : RF X ow ρ h .next .next
  | brk : RF X ow ρ h .brk .brk
  | cont : RF X ow ρ h .cont .cont
  | ret {v : Value} {d : AV} : AR (Pz h ow) X.w ρ v d → RF X ow ρ h (.ret v) (.ret d)
def JE (X : Fx) (e : Expr) (σ : SS) (K : AV → SS → Prop) : Prop := ∀ ow ρ s, SR X ow ρ s.heap σ → RunAt X ow ρ s (RV X) (eval e X.env) K
def JT (X : Fx) (e : Expr) (σ : SS) (K : Bool → SS → Prop) : Prop := ∀ ow ρ s, SR X ow ρ s.heap σ → RunAt X ow ρ s RB (isTrue e X.env (eval e X.env)) K
def JL (X : Fx) (pos : Pos) (es : List Expr) (σ : SS) (K : List AV → SS → Prop) : Prop := ∀ ow ρ s, SR X ow ρ s.heap σ → RunAt X ow ρ s (RVs X) (spliced (backTo pos (starEach es X.env))) K
def JS (X : Fx) (st : Stmt) (σ : SS) (K : SF → SS → Prop) : Prop := ∀ ow ρ s, SR X ow ρ s.heap σ → RunAt X ow ρ s (RF X) (exec st X.env) K
def JB (X : Fx) (st : List Stmt) (σ : SS) (K : SF → SS → Prop) : Prop := ∀ ow ρ s, SR X ow ρ s.heap σ → RunAt X ow ρ s (RF X) (execs st X.env) K
end
section
section
variable {X : Fx} {σ : SS} {K : AV → SS → Prop}
def J2 (X : Fx) (f : Value → Value → Sem Value) (a b : AV) (σ : SS) (K : AV → SS → Prop) : Prop :=
  ∀ ow ρ s va vb, SR X ow ρ s.heap σ → AR (Pz s.heap ow) X.w ρ va a → AR (Pz s.heap ow) X.w ρ vb b → RunAt X ow ρ s (RV X) (f va vb) K
def J1 (X : Fx) (f : Value → Sem Value) (a : AV) (σ : SS) (K : AV → SS → Prop) : Prop :=
  ∀ ow ρ s va, SR X ow ρ s.heap σ → AR (Pz s.heap ow) X.w ρ va a → RunAt X ow ρ s (RV X) (f va) K
def JU (X : Fx) (f : Value → Sem Unit) (a : AV) (σ : SS) (K : SS → Prop) : Prop :=
  ∀ ow ρ s va, SR X ow ρ s.heap σ → AR (Pz s.heap ow) X.w ρ va a → RunAt X ow ρ s RU (f va) (fun _ => K)
def JTr (X : Fx) (a : AV) (σ : SS) (K : Bool → SS → Prop) : Prop :=
  ∀ ow ρ s va, SR X ow ρ s.heap σ → AR (Pz s.heap ow) X.w ρ va a → RunAt X ow ρ s RB (truthy va) K
theorem RunAt.mono {α β : Type} {ow : Addr → Prop} {ρ : List Addr} {s : Shared} {R : (Addr → Prop) → List Addr → Heap → α → β → Prop} {t : Sem α} {K K' : β → SS → Prop} (h : RunAt X ow ρ s R t K) (k : ∀ b σ, K b σ → K' b σ) : RunAt X ow ρ s R t K' :=
  fun Q E q => h Q E fun a b σ' ow' ρ' h' tk' e S r kk => q a b σ' ow' ρ' h' tk' e S r (k _ _ kk)
theorem JE.mono {e : Expr} {K' : AV → SS → Prop} (h : JE X e σ K) (k : ∀ b σ, K b σ → K' b σ) : JE X e σ K' := fun ow ρ s S => (h ow ρ s S).mono k
theorem JE_local (O : X.Ok) {x : Str} {pos : Pos} {sv : AV} (hx : X.env.kindOf x = some .local) (hd : (x == ("__debug__" : Str)) = false) (h : lk x σ.loc = some sv) (k : K sv σ) : JE X (.Name x pos) σ K := by
  intro ow ρ s S Q E q
  obtain ⟨mf, ml, F, n, c1, c2, l⟩ := S.fr
  obtain ⟨v, hv, r⟩ := l x sv h
  exact wpAny_Name (wpAny_loadName_local O.kind hx n hv (q v sv σ ow ρ s.heap s.toks .refl S r k)) hd
theorem JE_capt (O : X.Ok) {x : Str} {pos : Pos} {sv : AV} {i : Nat} (hx : X.env.kindOf x = some .cell ∨ X.env.kindOf x = some .free) (hd : (x == ("__debug__" : Str)) = false) (hn : (x == ("__classdict__" : Str)) = false)
    (hi : lkN x X.vid = some i) (h : σ.cel[i]? = some (.vcell sv)) (k : K sv σ) : JE X (.Name x pos) σ K := by
  intro ow ρ s S Q E q
  obtain ⟨c, hc, hr⟩ := S.var x i hi
  obtain ⟨ob, ho, r⟩ := S.cel i c _ hr h
  cases r with
  | vcell hd' r =>
    have hv : s.heap.IsCell c (some _) := ⟨ob, ho, hd'⟩
    rcases hx with hx | hx
    · exact wpAny_Name (wpAny_loadName_cell O.kind hx hc hv (q _ sv σ ow ρ s.heap s.toks .refl S r k)) hd
    · exact wpAny_Name (wpAny_loadName_free O.kind hx hc hv (q _ sv σ ow ρ s.heap s.toks .refl S r k) hn) hd
def KV (w : World) (v : Value) (sv : SV) : Prop := ∀ (P : Addr → Obj → Prop), (∀ a o, (tp.heap_1 w.params).lookup a = some o → P a o) → VR P w v sv
theorem JE_glob (O : X.Ok) {x : Str} {pos : Pos} {v : Value} {sv : SV} (hx : X.env.kindOf x = some .globalImplicit) (hd : (x == ("__debug__" : Str)) = false)
    (e : nsIn (tp.heap_1 X.w.params) mainGlobals x = some (some v)) (r : KV X.w v sv) (k : K (.v sv) σ) : JE X (.Name x pos) σ K := by
  intro ow ρ s S Q E q
  obtain ⟨mf, ml, F, n, c1, c2, l⟩ := S.fr
  obtain ⟨mean, mg, mb, T⟩ := O.T
  exact Name_function_global O.kind hx (loadGlobal_global (by rw [O.glob]; exact T.g.keeps F.keep) (mg_of O.K T.g e) (q v (.v sv) σ ow ρ s.heap s.toks .refl S (.v (r _ S.kf)) k)) hd
theorem JE_boot (O : X.Ok) {x : Str} {pos : Pos} {v : Value} {sv : SV} (hx : X.env.kindOf x = some .globalImplicit) (hd : (x == ("__debug__" : Str)) = false) (hn : x ≠ "__name__")
    (e : nsIn (tp.heap_1 X.w.params) mainGlobals x = some none) (hv : bootBuiltins x = some v) (r : KV X.w v sv) (k : K (.v sv) σ) : JE X (.Name x pos) σ K := by
  intro ow ρ s S Q E q
  obtain ⟨mf, ml, F, n, c1, c2, l⟩ := S.fr
  obtain ⟨mean, mg, mb, T⟩ := O.T
  exact Name_function_global O.kind hx (loadGlobal_builtin (by rw [O.glob]; exact T.g.keeps F.keep) (mg_none_of O.K T.g e) (by rw [O.bins]; exact T.b.keeps F.keep) ((T.builtins x hn).trans hv) (q v (.v sv) σ ow ρ s.heap s.toks .refl S (.v (r _ S.kf)) k)) hd
theorem JE_int {i : Int} {k : Nat} {pos : Pos} (h : K (.v (.int i)) σ) : JE X (.Constant (.int i) k pos) σ K := fun ow ρ s S Q E q =>
  wpAny_Constant_int (q _ _ σ ow ρ s.heap (s.toks + 1) .refl S (.v (.int i _)) h)
theorem JE_BinOp {l r : Expr} {op : Operator} {pos : Pos} (h : JE X l σ fun a σ₁ => JE X r σ₁ fun b σ₂ => J2 X (binaryOp op) a b σ₂ K) : JE X (.BinOp l op r pos) σ K := by
  intro ow ρ s S Q E q
  refine wpAny_BinOp (h ow ρ s S _ _ fun a sa σ₁ ow₁ ρ₁ h₁ tk₁ e₁ S₁ r₁ k₁ => k₁ ow₁ ρ₁ _ S₁ _ _ fun b sb σ₂ ow₂ ρ₂ h₂ tk₂ e₂ S₂ r₂ k₂ => ?_)
  exact k₂ ow₂ ρ₂ _ a b S₂ (S₁.ar e₂ r₁) r₂ _ _ fun v sv σ₃ ow₃ ρ₃ h₃ tk₃ e₃ S₃ r₃ k₃ => q v sv σ₃ ow₃ ρ₃ h₃ tk₃ ((e₁.trans e₂).trans e₃) S₃ r₃ k₃
theorem JE_Compare {l r : Expr} {op : CmpOp} {pos : Pos} (hm : behindInMarks op r = false) (h : JE X l σ fun a σ₁ => JE X r σ₁ fun b σ₂ => J2 X (compareOp op) a b σ₂ K) : JE X (.Compare l [op] [r] pos) σ K := by
  intro ow ρ s S Q E q
  refine wpAny_Compare1 (h ow ρ s S _ _ fun a sa σ₁ ow₁ ρ₁ h₁ tk₁ e₁ S₁ r₁ k₁ => k₁ ow₁ ρ₁ _ S₁ _ _ fun b sb σ₂ ow₂ ρ₂ h₂ tk₂ e₂ S₂ r₂ k₂ => ?_) hm
  exact k₂ ow₂ ρ₂ _ a b S₂ (S₁.ar e₂ r₁) r₂ _ _ fun v sv σ₃ ow₃ ρ₃ h₃ tk₃ e₃ S₃ r₃ k₃ => q v sv σ₃ ow₃ ρ₃ h₃ tk₃ ((e₁.trans e₂).trans e₃) S₃ r₃ k₃
theorem JT_Compare {l r : Expr} {op : CmpOp} {pos : Pos} {K : Bool → SS → Prop} (hm : behindInMarks op r = false) (h : JE X l σ fun a σ₁ => JE X r σ₁ fun b σ₂ => J2 X (compareOp op) a b σ₂ fun c σ₃ => JTr X c σ₃ K) : JT X (.Compare l [op] [r] pos) σ K := by
  intro ow ρ s S Q E q
  refine wpAny_isTrue_Compare1 (h ow ρ s S _ _ fun a sa σ₁ ow₁ ρ₁ h₁ tk₁ e₁ S₁ r₁ k₁ => k₁ ow₁ ρ₁ _ S₁ _ _ fun b sb σ₂ ow₂ ρ₂ h₂ tk₂ e₂ S₂ r₂ k₂ => ?_) hm
  exact k₂ ow₂ ρ₂ _ a b S₂ (S₁.ar e₂ r₁) r₂ _ _ fun v sv σ₃ ow₃ ρ₃ h₃ tk₃ e₃ S₃ r₃ k₃ => k₃ ow₃ ρ₃ _ v S₃ r₃ _ _ fun c sc σ₄ ow₄ ρ₄ h₄ tk₄ e₄ S₄ r₄ k₄ => q c sc σ₄ ow₄ ρ₄ h₄ tk₄ (((e₁.trans e₂).trans e₃).trans e₄) S₄ r₄ k₄
theorem JE_UnaryOp {x : Expr} {op : UnaryOp} {pos : Pos} (h : JE X x σ fun a σ₁ => J1 X (unaryOp op) a σ₁ K) : JE X (.UnaryOp op x pos) σ K := by
  intro ow ρ s S Q E q
  refine UnaryOp_ (h ow ρ s S _ _ fun a sa σ₁ ow₁ ρ₁ h₁ tk₁ e₁ S₁ r₁ k₁ => ?_)
  exact k₁ ow₁ ρ₁ _ a S₁ r₁ _ _ fun v sv σ₃ ow₃ ρ₃ h₃ tk₃ e₃ S₃ r₃ k₃ => q v sv σ₃ ow₃ ρ₃ h₃ tk₃ (e₁.trans e₃) S₃ r₃ k₃
def Br (b : Bool) (P Q : Prop) : Prop := match b with
  | true => P
  | false => Q
theorem Br.intro {b : Bool} {P Q : Prop} (h1 : b = true → P) (h2 : b = false → Q) : Br b P Q := by cases b; exact h2 rfl; exact h1 rfl
theorem JE_IfExp {t a b : Expr} {pos : Pos} (h : JT X t σ fun c σ₁ => Br c (JE X a σ₁ K) (JE X b σ₁ K)) : JE X (.IfExp t a b pos) σ K := by
  intro ow ρ s S Q E q
  refine IfExp_ (h ow ρ s S _ _ fun c sc σ₁ ow₁ ρ₁ h₁ tk₁ e₁ S₁ r₁ k₁ => ?_)
  obtain rfl : c = sc := r₁
  cases c with
  | true => exact k₁ ow₁ ρ₁ _ S₁ _ _ fun v sv σ₃ ow₃ ρ₃ h₃ tk₃ e₃ S₃ r₃ k₃ => q v sv σ₃ ow₃ ρ₃ h₃ tk₃ (e₁.trans e₃) S₃ r₃ k₃
  | false => exact k₁ ow₁ ρ₁ _ S₁ _ _ fun v sv σ₃ ow₃ ρ₃ h₃ tk₃ e₃ S₃ r₃ k₃ => q v sv σ₃ ow₃ ρ₃ h₃ tk₃ (e₁.trans e₃) S₃ r₃ k₃
theorem JT_plain {e : Expr} {K : Bool → SS → Prop} (h : JE X e σ fun a σ₁ => JTr X a σ₁ K)
    (hp : isTrue e X.env (eval e X.env) = (do let v ← eval e X.env; standAt (Expr.pos e); holding [v] (truthy v))) : JT X e σ K := by
  intro ow ρ s S Q E q
  refine isTrue_plain (h ow ρ s S _ _ fun a sa σ₁ ow₁ ρ₁ h₁ tk₁ e₁ S₁ r₁ k₁ => ?_) hp
  exact k₁ ow₁ ρ₁ _ a S₁ r₁ _ _ fun v sv σ₃ ow₃ ρ₃ h₃ tk₃ e₃ S₃ r₃ k₃ => q v sv σ₃ ow₃ ρ₃ h₃ tk₃ (e₁.trans e₃) S₃ r₃ k₃
theorem JTr_bool {b : Bool} {K : Bool → SS → Prop} (h : K b σ) : JTr X (.v (.bool b)) σ K := fun ow ρ s va S r Q E q => by
  cases r with | v r => cases r; exact wpAny_truthy_bool (q b b σ ow ρ s.heap s.toks .refl S rfl h)
theorem JL_nil {pos : Pos} {K : List AV → SS → Prop} (h : K [] σ) : JL X pos [] σ K := fun ow ρ s S Q E q => wpAny_items_nil (q [] [] σ ow ρ s.heap s.toks .refl S .nil h)
theorem JL_cons {pos : Pos} {e : Expr} {es : List Expr} {K : List AV → SS → Prop} (hs : starEach (e :: es) X.env = (false, eval e X.env) :: starEach es X.env)
    (h : JE X e σ fun a σ₁ => JL X pos es σ₁ fun as σ₂ => K (a :: as) σ₂) : JL X pos (e :: es) σ K := by
  intro ow ρ s S Q E q
  refine spliced_more (h ow ρ s S _ _ fun a sa σ₁ ow₁ ρ₁ h₁ tk₁ e₁ S₁ r₁ k₁ => ?_) hs
  exact k₁ ow₁ ρ₁ _ S₁ _ _ fun v sv σ₃ ow₃ ρ₃ h₃ tk₃ e₃ S₃ r₃ k₃ => q (a :: v) (sa :: sv) σ₃ ow₃ ρ₃ h₃ tk₃ (e₁.trans e₃) S₃ (.cons (S₁.ar e₃ r₁) r₃) k₃
def Gd (b : Bool) (P : Prop) : Prop := match b with
  | true => P
  | false => False
theorem Gd.out {b : Bool} {P : Prop} (h : Gd b P) : b = true ∧ P := by cases b; exact h.elim; exact ⟨rfl, h⟩
def AllV (as : List AV) (K : List SV → Prop) : Prop := match allV as with
  | some l => Gd (Nat.ble l.length 1000) (K l)
  | none => False
theorem AllV.out {as : List AV} {K : List SV → Prop} (h : AllV as K) : ∃ l, allV as = some l ∧ l.length ≤ 1000 ∧ K l := by
  unfold AllV at h
  split at h
  · exact ⟨_, by assumption, Nat.le_of_ble_eq_true h.out.1, h.out.2⟩
  · exact h.elim
theorem run_newTuple {ow : Addr → Prop} {ρ : List Addr} {s : Shared} {vs : List Value} {l : List SV} (S : SR X ow ρ s.heap σ) (r : VRs (Pz s.heap ow) X.w vs l) (hz : l.length ≤ sizeLine) (k : K (.v (.tup l)) σ) : RunAt X ow ρ s (RV X) (newTuple vs) K := by
  intro Q E q
  have hz' : sizeOk (.seq vs.toArray 0) := by show vs.toArray.size ≤ sizeLine; rw [List.size_toArray, r.length]; exact hz
  refine wpAny_newObj_type ?_ hz'
  exact q _ _ σ ow ρ _ s.toks (.push _) (S.push _) (.v (.tup (S.fresh (tupObj vs 0) rfl) (S.vrs (.push _) r))) k
theorem run_newList {ow : Addr → Prop} {ρ : List Addr} {s : Shared} {vs : List Value} {l : List SV} (S : SR X ow ρ s.heap σ) (r : VRs (Pz s.heap ow) X.w vs l) (hz : l.length ≤ sizeLine) (k : K (.v (.lst l)) σ) : RunAt X ow ρ s (RV X) (newList vs) K := by
  intro Q E q
  have hz' : sizeOk (.seq vs.toArray 0) := by show vs.toArray.size ≤ sizeLine; rw [List.size_toArray, r.length]; exact hz
  refine wpAny_newObj_type ?_ hz'
  exact q _ _ σ ow ρ _ s.toks (.push _) (S.push _) (.v (.lst (S.fresh (listOf vs.toArray 0) rfl) (S.vrs (.push _) r))) k
theorem JE_Tuple {es : List Expr} {k : Nat} {pos : Pos} (h : JL X pos es σ fun l σ₁ => AllV l fun l => K (.v (.tup l)) σ₁) : JE X (.Tuple es k pos) σ K := by
  intro ow ρ s S Q E q
  refine Tuple_ (h ow ρ s S _ _ fun a sa σ₁ ow₁ ρ₁ h₁ tk₁ e₁ S₁ r₁ k₁ => ?_)
  obtain ⟨l, el, g, k₁⟩ := k₁.out
  exact run_newTuple (s := { s with heap := h₁, toks := tk₁ }) S₁ (r₁.allV el) (Nat.le_trans g (by decide)) k₁ _ _ fun v sv σ₃ ow₃ ρ₃ h₃ tk₃ e₃ S₃ r₃ k₃ => q v sv σ₃ ow₃ ρ₃ h₃ tk₃ (e₁.trans e₃) S₃ r₃ k₃
theorem JE_List {es : List Expr} {pos : Pos} (h : JL X pos es σ fun l σ₁ => AllV l fun l => K (.v (.lst l)) σ₁) : JE X (.List es pos) σ K := by
  intro ow ρ s S Q E q
  refine List_ (h ow ρ s S _ _ fun a sa σ₁ ow₁ ρ₁ h₁ tk₁ e₁ S₁ r₁ k₁ => ?_)
  obtain ⟨l, el, g, k₁⟩ := k₁.out
  exact run_newList (s := { s with heap := h₁, toks := tk₁ }) S₁ (r₁.allV el) (Nat.le_trans g (by decide)) k₁ _ _ fun v sv σ₃ ow₃ ρ₃ h₃ tk₃ e₃ S₃ r₃ k₃ => q v sv σ₃ ow₃ ρ₃ h₃ tk₃ (e₁.trans e₃) S₃ r₃ k₃
theorem SR.cellPush {ow : Addr → Prop} {ρ : List Addr} {h : Heap} {o : Obj} {so : SObj} (S : SR X ow ρ h σ) (hf : o.isFreed = false) (ho : OR (Pz h ow) X.w ρ o so) :
    SR X (fun b => ow b ∨ b = h.objs.size) (ρ ++ [h.objs.size]) (h.push o) ⟨σ.loc, σ.cel ++ [so]⟩ ∧ Ex X ow ρ h (fun b => ow b ∨ b = h.objs.size) (ρ ++ [h.objs.size]) (h.push o) := by
  have up := push_up (h := h) o
  have nz := none_size h
  have hp : ∀ b x, Pz h ow b x → Pz (h.push o) (fun b => ow b ∨ b = h.objs.size) b x := fun b x e => ⟨up b x e.1, fun q => q.elim e.2 fun (q : b = h.objs.size) => no_get (q ▸ e.1) nz⟩
  have pf : ρ <+: ρ ++ [h.objs.size] := List.prefix_append _ _
  have nr : h.objs.size ∉ ρ := fun q => let ⟨_, e⟩ := S.low _ (S.off _ q).1; no_get e nz
  obtain ⟨mf, ml, F, n, c1, c2, l⟩ := S.fr
  have nl : h.objs.size ≠ X.env.locals := fun q => let ⟨_, e⟩ := S.low _ S.owl; no_get (q ▸ e) nz
  have nL : h.objs.size ≠ X.L := fun q => let ⟨_, e⟩ := S.low _ S.owL; no_get (q ▸ e) nz
  refine ⟨⟨⟨mf, ml, F.push o, by obtain ⟨o', es, ep, e, r⟩ := n; exact ⟨o', es, ep, up _ _ e, r⟩, c1, c2, fun x sv e => let ⟨v, e1, e2⟩ := l x sv e; ⟨v, e1, e2.mono hp pf⟩⟩,
    by rw [List.length_append, List.length_append, S.len]; rfl, fun i a so' e1 e2 => ?_, ?_, fun a ha => ?_, .inl S.owL, .inl S.owl, fun a q => ?_, fun x i e => ?_, fun a x e => hp a x (S.kf a x e)⟩,
    ⟨fun b q => .inl q, fun b q => q.imp id fun (q : b = h.objs.size) => q ▸ nz, pf, fun b q => ?_, fun b x e _ _ _ => up b x e, fun b x e => ⟨x, up b x e⟩⟩⟩
  · by_cases hi : i < ρ.length
    · rw [List.getElem?_append_left hi] at e1
      rw [List.getElem?_append_left (S.len ▸ hi)] at e2
      obtain ⟨ob, e3, e4⟩ := S.cel i a so' e1 e2
      exact ⟨ob, up _ _ e3, e4.mono hp pf⟩
    · rw [List.getElem?_append_right (Nat.le_of_not_lt hi)] at e1
      rw [List.getElem?_append_right (S.len ▸ Nat.le_of_not_lt hi), ← S.len] at e2
      cases hj : i - ρ.length with
      | zero => rw [hj] at e1 e2; cases e1; cases e2; exact ⟨o, Heap.get?_push_size _ hf, ho.mono hp pf⟩
      | succ j => rw [hj] at e1; cases e1
  · rw [List.nodup_append]
    exact ⟨S.nd, by simp, fun a ha b hb e => nr (by rw [List.mem_singleton] at hb; rw [← hb, ← e]; exact ha)⟩
  · rcases List.mem_append.mp ha with ha | ha
    · exact ⟨.inl (S.off a ha).1, (S.off a ha).2⟩
    · obtain rfl := List.mem_singleton.mp ha
      exact ⟨.inr rfl, next_is_new F, nL, nl⟩
  · rcases q with q | q
    · obtain ⟨x, e⟩ := S.low a q; exact ⟨x, up a x e⟩
    · exact ⟨o, by rw [q]; exact Heap.get?_push_size _ hf⟩
  · obtain ⟨c, e1, e2⟩ := S.var x i e
    exact ⟨c, e1, by rw [List.getElem?_append_left (List.getElem?_eq_some_iff.mp e2).1]; exact e2⟩
  · rcases List.mem_append.mp q with q | q
    · exact .inl q
    · exact .inr (by rw [List.mem_singleton.mp q]; exact nz)
theorem run_newCell {ow : Addr → Prop} {ρ : List Addr} {s : Shared} {vs : List Value} {l : List SV} (S : SR X ow ρ s.heap σ) (r : VRs (Pz s.heap ow) X.w vs l) (hz : l.length ≤ sizeLine) (k : K (.c σ.cel.length) ⟨σ.loc, σ.cel ++ [.lst l]⟩) : RunAt X ow ρ s (RV X) (newList vs) K := by
  intro Q E q
  have hz' : sizeOk (.seq vs.toArray 0) := by show vs.toArray.size ≤ sizeLine; rw [List.size_toArray, r.length]; exact hz
  refine wpAny_newObj_type ?_ hz'
  obtain ⟨S', e⟩ := S.cellPush (o := listOf vs.toArray 0) rfl (.lst r)
  exact q _ _ _ _ _ _ s.toks e S' (.c (by rw [← S.len, List.getElem?_append_right (Nat.le_refl _), Nat.sub_self]; rfl)) k
theorem JE_ListCell {es : List Expr} {pos : Pos} (h : JL X pos es σ fun l σ₁ => AllV l fun l => K (.c σ₁.cel.length) ⟨σ₁.loc, σ₁.cel ++ [.lst l]⟩) : JE X (.List es pos) σ K := by
  intro ow ρ s S Q E q
  refine List_ (h ow ρ s S _ _ fun a sa σ₁ ow₁ ρ₁ h₁ tk₁ e₁ S₁ r₁ k₁ => ?_)
  obtain ⟨l, el, g, k₁⟩ := k₁.out
  exact run_newCell (s := { s with heap := h₁, toks := tk₁ }) S₁ (r₁.allV el) (Nat.le_trans g (by decide)) k₁ _ _ fun v sv σ₃ ow₃ ρ₃ h₃ tk₃ e₃ S₃ r₃ k₃ => q v sv σ₃ ow₃ ρ₃ h₃ tk₃ (e₁.trans e₃) S₃ r₃ k₃
end
end
section
section
variable {X : Fx} {σ : SS}
theorem pfx (ρ : List Addr) : ρ <+: ρ := List.prefix_refl _
theorem same_keep {a : Addr} {h h' : Heap} (hs : Heap.SameBut a h h') {b : Addr} {o : Obj} (hb : b ≠ a) (e : h.get? b = some o) : h'.get? b = some o := (hs.2 b hb).trans e
theorem SR.store (O : X.Ok) {ow : Addr → Prop} {ρ : List Addr} {h h' : Heap} {x : Str} {v : Value} {sv : AV} (S : SR X ow ρ h σ) (r : AR (Pz h ow) X.w ρ v sv)
    (hs : Heap.SameBut X.env.locals h h') (hn : ∀ ml, h.Ns X.env.locals ml → h'.Ns X.env.locals (fun y => if y = x then some v else ml y)) : SR X ow ρ h' ⟨(x, sv) :: σ.loc, σ.cel⟩ ∧ Ex X ow ρ h ow ρ h' := by
  obtain ⟨mf, ml, F, n, c1, c2, l⟩ := S.fr
  have n' := hn ml n
  have hp : ∀ b o, Pz h ow b o → Pz h' ow b o := fun b o e => ⟨same_keep hs (fun q => e.2 (q ▸ S.owl)) e.1, e.2⟩
  have live : ∀ b o, h.get? b = some o → ∃ o', h'.get? b = some o' := fun b o e => by
    by_cases hb : b = X.env.locals
    · subst hb; obtain ⟨o', _, _, e', _⟩ := n'; exact ⟨o', e'⟩
    · exact ⟨o, same_keep hs hb e⟩
  refine ⟨⟨?_, S.len, fun i a so e1 e2 => ?_, S.nd, S.off, S.owL, S.owl, fun a q => let ⟨o, e⟩ := S.low a q; live a o e, S.var, fun a x e => hp a x (S.kf a x e)⟩, fun _ q => q, fun _ q => .inl q, pfx ρ, fun _ q => .inl q, fun b o e _ n2 _ => same_keep hs n2 e, live⟩
  · have ln : ∀ y sv', lk y ((x, sv) :: σ.loc) = some sv' → ∃ v', (fun y => if y = x then some v else ml y) y = some v' ∧ AR (Pz h' ow) X.w ρ v' sv' := fun y sv' e => by
      rw [lk_cons] at e
      by_cases hy : y = x
      · rw [if_pos hy] at e; cases e; exact ⟨v, if_pos hy, r.mono hp (pfx ρ)⟩
      · rw [if_neg hy] at e
        obtain ⟨v', e1, e2⟩ := l y sv' e
        exact ⟨v', (if_neg hy).trans e1, e2.mono hp (pfx ρ)⟩
    cases hc : X.comp with
    | none =>
      have hl := O.here hc
      obtain rfl := c1 hc
      exact ⟨_, _, by rw [← hl] at F ⊢; exact F.set n' hs, n', fun _ => rfl, fun m q => (by cases q), ln⟩
    | some mm =>
      obtain ⟨t1, t2⟩ := O.there mm hc
      refine ⟨mf, _, ⟨F.ns.sameBut hs (Ne.symm t1), fun b o e => same_keep hs (fun q => no_get (q ▸ e) t2) (F.keep b o e), F.above⟩, n', fun q => (by cases q), fun m q => c2 m (hc.trans q), ln⟩
  · obtain ⟨ob, e3, e4⟩ := S.cel i a so e1 e2
    exact ⟨ob, same_keep hs (S.off a (List.mem_of_getElem? e1)).2.2.2 e3, e4.mono hp (pfx ρ)⟩
theorem run_store (O : X.Ok) {ow : Addr → Prop} {ρ : List Addr} {s : Shared} {x : Str} {v : Value} {sv : AV} {K : SS → Prop} (hx : X.env.kindOf x = some .local) (S : SR X ow ρ s.heap σ) (r : AR (Pz s.heap ow) X.w ρ v sv) (k : K ⟨(x, sv) :: σ.loc, σ.cel⟩) :
    RunAt X ow ρ s RU (storeName X.env x v) (fun _ => K) := by
  intro Q E q
  obtain ⟨mf, ml, F, n, c1, c2, l⟩ := S.fr
  have hp : (X.env.scope.kind == .class || (X.env.scope.kind == .module && X.env.locals != X.env.globals)) = false := by rw [O.kind]; rfl
  refine wpAny_storeName_local hx n (fun h' hn hs => ?_) hp
  obtain ⟨S', e⟩ := S.store O r hs (x := x) (h' := h') fun ml' n' => by
    have : ml' = ml := funext fun y => by
      obtain ⟨o, es, ep, e1, e2, _, e3⟩ := n; obtain ⟨o', es', ep', f1, f2, _, f3⟩ := n'
      rw [e1] at f1; cases f1; rw [e2] at f2; cases f2; rw [← e3 y, ← f3 y]
    rw [this]; exact hn
  exact q () () _ ow ρ h' _ e S' trivial k
theorem SR.setCell {ow : Addr → Prop} {ρ : List Addr} {h h' : Heap} {i : Nat} {a : Addr} {ob : Obj} {so : SObj} (S : SR X ow ρ h σ) (hi : ρ[i]? = some a) (hs : Heap.SameBut a h h') (e : h'.get? a = some ob) (ho : OR (Pz h ow) X.w ρ ob so) :
    SR X ow ρ h' ⟨σ.loc, σ.cel.set i so⟩ ∧ Ex X ow ρ h ow ρ h' := by
  obtain ⟨mf, ml, F, n, c1, c2, l⟩ := S.fr
  have ha := S.off a (List.mem_of_getElem? hi)
  have hp : ∀ b o, Pz h ow b o → Pz h' ow b o := fun b o e => ⟨same_keep hs (fun q => e.2 (q ▸ ha.1)) e.1, e.2⟩
  have live : ∀ b o, h.get? b = some o → ∃ o', h'.get? b = some o' := fun b o e' => by
    by_cases hb : b = a
    · subst hb; exact ⟨ob, e⟩
    · exact ⟨o, same_keep hs hb e'⟩
  refine ⟨⟨⟨mf, ml, ⟨F.ns.sameBut hs (Ne.symm ha.2.2.1), fun b o e' => same_keep hs (fun q => no_get (q ▸ e') ha.2.1) (F.keep b o e'), F.above⟩, n.sameBut hs (Ne.symm ha.2.2.2), c1, c2, fun x sv e' => let ⟨v, e1, e2⟩ := l x sv e'; ⟨v, e1, e2.mono hp (pfx ρ)⟩⟩,
    by rw [List.length_set]; exact S.len, fun j b so' e1 e2 => ?_, S.nd, S.off, S.owL, S.owl, fun a q => let ⟨o, e⟩ := S.low a q; live a o e, S.var, fun a x e => hp a x (S.kf a x e)⟩, fun _ q => q, fun _ q => .inl q, pfx ρ, fun _ q => .inl q, fun b o e' n1 _ _ => same_keep hs (fun q => n1 (q ▸ List.mem_of_getElem? hi)) e', live⟩
  by_cases hj : i = j
  · subst hj
    rw [hi] at e1; cases e1
    have hl : i < σ.cel.length := by rw [← S.len]; exact (List.getElem?_eq_some_iff.mp hi).1
    rw [List.getElem?_set_self hl] at e2; cases e2
    exact ⟨ob, e, ho.mono hp (pfx ρ)⟩
  · rw [List.getElem?_set_ne hj] at e2
    obtain ⟨ob', e3, e4⟩ := S.cel j b so' e1 e2
    refine ⟨ob', same_keep hs (fun q => hj ?_) e3, e4.mono hp (pfx ρ)⟩
    subst q
    obtain ⟨l1, g1⟩ := List.getElem?_eq_some_iff.mp hi
    obtain ⟨l2, g2⟩ := List.getElem?_eq_some_iff.mp e1
    exact (List.getElem_inj S.nd).mp (g1.trans g2.symm)
def JStore (X : Fx) (x : Str) (v : AV) (σ : SS) (K : SS → Prop) : Prop := JU X (storeName X.env x) v σ K
def JA (X : Fx) (t : Expr) (v : AV) (σ : SS) (K : SS → Prop) : Prop := JU X (assign t X.env) v σ K
theorem JStore_loc (O : X.Ok) {x : Str} {sv : AV} {K : SS → Prop} (hx : X.env.kindOf x = some .local) (k : K ⟨(x, sv) :: σ.loc, σ.cel⟩) : JStore X x sv σ K := fun ow ρ s va S r => run_store O hx S r k
theorem JA_Name {x : Str} {pos : Pos} {sv : AV} {K : SS → Prop} (h : JStore X x sv σ K) : JA X (.Name x pos) sv σ K := fun ow ρ s va S r Q E q => wpAny_assign_Name (h ow ρ s va S r Q E q)
theorem run_storeCapt (O : X.Ok) {ow : Addr → Prop} {ρ : List Addr} {s : Shared} {x : Str} {v : Value} {sv : AV} {so : SObj} {i : Nat} {K : SS → Prop} (hx : X.env.kindOf x = some .cell) (hi : lkN x X.vid = some i) (hc : σ.cel[i]? = some so) (hso : so = .vnone ∨ ∃ v, so = .vcell v)
    (S : SR X ow ρ s.heap σ) (r : AR (Pz s.heap ow) X.w ρ v sv) (k : K ⟨σ.loc, σ.cel.set i (.vcell sv)⟩) : RunAt X ow ρ s RU (storeName X.env x v) (fun _ => K) := by
  intro Q E q
  obtain ⟨c, hcl, hr⟩ := S.var x i hi
  obtain ⟨ob, ho, ro⟩ := S.cel i c _ hr hc
  have hd : ∃ v₀, ob.data = .cell v₀ := by
    rcases hso with rfl | ⟨v, rfl⟩
    · cases ro with | vnone h => exact ⟨_, h⟩
    · cases ro with | vcell h _ => exact ⟨_, h⟩
  obtain ⟨v₀, hd⟩ := hd
  refine wpAny_storeName_cell O.kind hx hcl ⟨ob, ho, hd⟩ fun h' hv hs => ?_
  obtain ⟨ob', ho', hd'⟩ := hv
  obtain ⟨S', e⟩ := S.setCell hr hs ho' (.vcell hd' r)
  exact q () () _ ow ρ h' s.toks e S' trivial k
theorem JStore_capt (O : X.Ok) {x : Str} {sv : AV} {so : SObj} {i : Nat} {K : SS → Prop} (hx : X.env.kindOf x = some .cell) (hi : lkN x X.vid = some i) (hc : σ.cel[i]? = some so) (hso : so = .vnone ∨ ∃ v, so = .vcell v) (k : K ⟨σ.loc, σ.cel.set i (.vcell sv)⟩) :
    JStore X x sv σ K := fun ow ρ s va S r => run_storeCapt O hx hi hc hso S r k
def JAs (X : Fx) (ts : List Expr) (vs : List AV) (σ : SS) (K : SS → Prop) : Prop :=
  ∀ ow ρ s vas, SR X ow ρ s.heap σ → ARs (Pz s.heap ow) X.w ρ vas vs → RunAt X ow ρ s RU (assignInOrder ((assignEach ts X.env).map (·.2)) vas) (fun _ => K)
theorem JAs_nil {K : SS → Prop} (k : K σ) : JAs X [] [] σ K := fun ow ρ s vas S r Q E q => PyProof.Rows.assignInOrder_nil (q () () σ ow ρ s.heap s.toks .refl S trivial k)
theorem JAs_cons {t : Expr} {ts : List Expr} {v : AV} {vs : List AV} {K : SS → Prop} (he : assignEach (t :: ts) X.env = (false, assign t X.env) :: assignEach ts X.env) (h : JA X t v σ fun σ₁ => JAs X ts vs σ₁ K) : JAs X (t :: ts) (v :: vs) σ K := by
  intro ow ρ s vas S r Q E q
  cases r with
  | cons r rs =>
    rw [he]
    refine PyProof.Rows.assignInOrder_cons (h ow ρ s _ S r _ _ fun _ _ σ₁ ow₁ ρ₁ h₁ tk₁ e₁ S₁ _ k₁ => ?_)
    exact k₁ ow₁ ρ₁ _ _ S₁ (S.ars e₁ rs) _ _ fun _ _ σ₂ ow₂ ρ₂ h₂ tk₂ e₂ S₂ _ k₂ => q () () σ₂ ow₂ ρ₂ h₂ tk₂ (e₁.trans e₂) S₂ trivial k₂
theorem ext_up {h h' : Heap} (x : Heap.ExtBut h.objs.size h h') : ∀ b o, h.get? b = some o → h'.get? b = some o := fun b o e => x b o (fun q => no_get (q ▸ e) (none_size h)) e
theorem ktr_handled (X : Fx) : X.A.handled = none := rfl
theorem run_unpackAt {ow : Addr → Prop} {ρ : List Addr} {s : Shared} {a : Addr} {o : Obj} {vs : List Value} {m : Nat} {l : List AV} {n : Nat} {K : List AV → SS → Prop} (S : SR X ow ρ s.heap σ) (hg : s.heap.get? a = some o) (hc : o.cls = .type "tuple") (hd : o.data = .seq vs.toArray m) (r : ARs (Pz s.heap ow) X.w ρ vs l) (hn : n = l.length) (k : K l σ) : RunAt X ow ρ s (RVs X) (unpackItems (.ref a) n none) K := by
  intro Q E q
  have ht : IsTup s.heap a vs.toArray := ⟨o, hg, hc, m, hd⟩
  have hz : n = vs.toArray.size := by rw [List.size_toArray, r.length]; exact hn
  rw [hz]
  refine unpackItems_tuple (ktr_handled X) ht fun h' hx => ?_
  exact q _ l σ ow ρ h' s.toks (.grow (ext_up hx)) (S.grow (ext_up hx)) (S.ars (.grow (ext_up hx)) r) k
theorem run_unpack {ow : Addr → Prop} {ρ : List Addr} {s : Shared} {v : Value} {l : List SV} {n : Nat} {K : List AV → SS → Prop} (S : SR X ow ρ s.heap σ) (r : AR (Pz s.heap ow) X.w ρ v (.v (.tup l))) (hn : n = l.length) (k : K (l.map .v) σ) : RunAt X ow ρ s (RVs X) (unpackItems v n none) K := by
  cases r with
  | v r => cases r with
    | tup hp r => exact run_unpackAt S hp.1 rfl rfl r.toA (by rw [List.length_map]; exact hn) k
theorem unpack_none {v : Value} {ts : List (Bool × (Value → Sem Unit))} (hf : ts.findIdx? (·.1) = none) : unpack v ts = (do let xs ← holding [v] (unpackItems v ts.length none); assignInOrder (ts.map (·.2)) xs) := by
  unfold unpack; rw [hf]
theorem JA_Tuple {ts : List Expr} {k : Nat} {pos : Pos} {l : List SV} {K : SS → Prop} (hl : (assignEach ts X.env).length = l.length) (hf : (assignEach ts X.env).findIdx? (·.1) = none)
    (he : ∀ v, assign (.Tuple ts k pos) X.env v = (do standAt pos; unpack v (assignEach ts X.env)) ∨ assign (.Tuple ts k pos) X.env v = unpack v (assignEach ts X.env)) (h : JAs X ts (l.map .v) σ K) : JA X (.Tuple ts k pos) (.v (.tup l)) σ K := by
  intro ow ρ s va S r Q E q
  have key : wpAny (model lawP X.w) X.A (unpack va (assignEach ts X.env)) Q E s := by
    rw [unpack_none hf]
    refine wpAny_bind (wpAny_holding (run_unpack S r hl (K := fun x σ₁ => x = l.map .v ∧ JAs X ts (l.map .v) σ₁ K) ⟨rfl, h⟩ _ _ fun a b σ₁ ow₁ ρ₁ h₁ tk₁ e₁ S₁ r₁ k₁ => ?_))
    obtain ⟨rfl, k₁⟩ := k₁
    exact k₁ ow₁ ρ₁ _ _ S₁ r₁ _ _ fun _ _ σ₂ ow₂ ρ₂ h₂ tk₂ e₂ S₂ _ k₂ => q () () σ₂ ow₂ ρ₂ h₂ tk₂ (e₁.trans e₂) S₂ trivial k₂
  rcases he va with e | e <;> rw [e]
  · exact wpAny_bind (wpAny_standAt key)
  · exact key
theorem JB_nil {K : SF → SS → Prop} (k : K .next σ) : JB X [] σ K := fun ow ρ s S Q E q => wpAny_execs_nil (q _ .next σ ow ρ s.heap s.toks .refl S .next k)
theorem JB_cons {st : Stmt} {rest : List Stmt} {K : SF → SS → Prop} (h : JS X st σ fun f σ₁ => match f with | .next => JB X rest σ₁ K | f => K f σ₁) : JB X (st :: rest) σ K := by
  intro ow ρ s S Q E q
  refine wpAny_execs_cons (h ow ρ s S _ _ fun a sa σ₁ ow₁ ρ₁ h₁ tk₁ e₁ S₁ r₁ k₁ => ?_)
  cases r₁ with
  | next => exact k₁ ow₁ ρ₁ _ S₁ _ _ fun a sa σ₂ ow₂ ρ₂ h₂ tk₂ e₂ S₂ r₂ k₂ => q a sa σ₂ ow₂ ρ₂ h₂ tk₂ (e₁.trans e₂) S₂ r₂ k₂
  | brk => exact q _ _ σ₁ ow₁ ρ₁ h₁ tk₁ e₁ S₁ .brk k₁
  | cont => exact q _ _ σ₁ ow₁ ρ₁ h₁ tk₁ e₁ S₁ .cont k₁
  | ret r => exact q _ _ σ₁ ow₁ ρ₁ h₁ tk₁ e₁ S₁ (.ret r) k₁
theorem JS_If {t : Expr} {a b : List Stmt} {pos : Pos} {K : SF → SS → Prop} (h : JT X t σ fun c σ₁ => Br c (JB X a σ₁ K) (JB X b σ₁ K)) : JS X (.If t a b pos) σ K := by
  intro ow ρ s S Q E q
  refine wpAny_If (h ow ρ s S _ _ fun c sc σ₁ ow₁ ρ₁ h₁ tk₁ e₁ S₁ r₁ k₁ => ?_)
  obtain rfl : c = sc := r₁
  cases c with
  | true => exact k₁ ow₁ ρ₁ _ S₁ _ _ fun a sa σ₂ ow₂ ρ₂ h₂ tk₂ e₂ S₂ r₂ k₂ => q a sa σ₂ ow₂ ρ₂ h₂ tk₂ (e₁.trans e₂) S₂ r₂ k₂
  | false => exact k₁ ow₁ ρ₁ _ S₁ _ _ fun a sa σ₂ ow₂ ρ₂ h₂ tk₂ e₂ S₂ r₂ k₂ => q a sa σ₂ ow₂ ρ₂ h₂ tk₂ (e₁.trans e₂) S₂ r₂ k₂
theorem JS_Return {e : Expr} {pos : Pos} {K : SF → SS → Prop} (h : JE X e σ fun v σ₁ => K (.ret v) σ₁) : JS X (.Return (some e) pos) σ K := by
  intro ow ρ s S Q E q
  exact wpAny_Return_some (h ow ρ s S _ _ fun a sa σ₁ ow₁ ρ₁ h₁ tk₁ e₁ S₁ r₁ k₁ => q _ _ σ₁ ow₁ ρ₁ h₁ tk₁ e₁ S₁ (.ret r₁) k₁)
theorem JS_AssignName {x : Str} {px pos : Pos} {value : Expr} {K : SF → SS → Prop} (hs : swapsWith value (some (.Name x px)) pos.line X.env = pure false) (h : JE X value σ fun v σ₁ => JStore X x v σ₁ fun σ₂ => K .next σ₂) : JS X (.Assign [.Name x px] value pos) σ K := by
  intro ow ρ s S Q E q
  refine wpAny_Assign_Name (h ow ρ s S _ _ fun a sa σ₁ ow₁ ρ₁ h₁ tk₁ e₁ S₁ r₁ k₁ => ?_) hs
  exact k₁ ow₁ ρ₁ { s with heap := h₁, toks := tk₁ } a S₁ r₁ _ _ fun _ _ σ₂ ow₂ ρ₂ h₂ tk₂ e₂ S₂ _ k₂ => q .next .next σ₂ ow₂ ρ₂ h₂ tk₂ (e₁.trans e₂) S₂ .next k₂
theorem JS_AssignTuple {ts : List Expr} {k : Nat} {tpos pos : Pos} {value : Expr} {K : SF → SS → Prop} (h1 : swapsWithSole [.Tuple ts k tpos] value pos.line X.env = pure false) (h2 : swappedStores [.Tuple ts k tpos] value X.env = pure none)
    (h : JE X value σ fun v σ₁ => JA X (.Tuple ts k tpos) v σ₁ fun σ₂ => K .next σ₂) : JS X (.Assign [.Tuple ts k tpos] value pos) σ K := by
  intro ow ρ s S Q E q
  refine Assign_Tuple (h ow ρ s S _ _ fun a sa σ₁ ow₁ ρ₁ h₁ tk₁ e₁ S₁ r₁ k₁ => ?_) h1 h2
  exact k₁ ow₁ ρ₁ { s with heap := h₁, toks := tk₁ } a S₁ r₁ _ _ fun _ _ σ₂ ow₂ ρ₂ h₂ tk₂ e₂ S₂ _ k₂ => q .next .next σ₂ ow₂ ρ₂ h₂ tk₂ (e₁.trans e₂) S₂ .next k₂
def JNs (X : Fx) (ns : List Str) (vs : List AV) (σ : SS) (K : SS → Prop) : Prop :=
  ∀ ow ρ s vas, SR X ow ρ s.heap σ → ARs (Pz s.heap ow) X.w ρ vas vs → RunAt X ow ρ s RU (assignInOrder (ns.map fun n => bindName X.env n) vas) (fun _ => K)
theorem JNs_nil {K : SS → Prop} (k : K σ) : JNs X [] [] σ K := fun ow ρ s vas S r Q E q => PyProof.Rows.assignInOrder_nil (q () () σ ow ρ s.heap s.toks .refl S trivial k)
theorem JNs_cons {x : Str} {ns : List Str} {v : AV} {vs : List AV} {K : SS → Prop} (h : JStore X x v σ fun σ₁ => JNs X ns vs σ₁ K) : JNs X (x :: ns) (v :: vs) σ K := by
  intro ow ρ s vas S r Q E q
  cases r with
  | cons r rs =>
    refine PyProof.Rows.assignInOrder_cons (wpAny_bindName (h ow ρ s _ S r _ _ fun _ _ σ₁ ow₁ ρ₁ h₁ tk₁ e₁ S₁ _ k₁ => ?_))
    exact k₁ ow₁ ρ₁ { s with heap := h₁, toks := tk₁ } _ S₁ (S.ars e₁ rs) _ _ fun _ _ σ₂ ow₂ ρ₂ h₂ tk₂ e₂ S₂ _ k₂ => q () () σ₂ ow₂ ρ₂ h₂ tk₂ (e₁.trans e₂) S₂ trivial k₂
theorem ARs.reverse {P : Addr → Obj → Prop} {w : World} {ρ : List Addr} {vs : List Value} {l : List AV} (h : ARs P w ρ vs l) : ARs P w ρ vs.reverse l.reverse := by
  induction vs generalizing l with
  | nil => cases h; exact .nil
  | cons v vs ih => cases h with | cons h r => rw [List.reverse_cons, List.reverse_cons]; exact ARs.append (.cons h .nil) (ih r)
theorem JS_AssignSwap {ts vs : List Expr} {k j : Nat} {tpos vpos pos : Pos} {ns : List Str} {K : SF → SS → Prop} (h1 : swapsWithSole [.Tuple ts k tpos] (.Tuple vs j vpos) pos.line X.env = pure false) (h2 : swappedStores [.Tuple ts k tpos] (.Tuple vs j vpos) X.env = pure (some ns))
    (h : JL X vpos vs σ fun l σ₁ => Gd (Nat.beq ns.length l.length && Nat.ble l.length 1000) (JNs X ns.reverse l.reverse σ₁ fun σ₂ => K .next σ₂)) : JS X (.Assign [.Tuple ts k tpos] (.Tuple vs j vpos) pos) σ K := by
  intro ow ρ s S Q E q
  refine Assign_Tuple_swapped (Tuple_ (h ow ρ s S _ _ fun a sa σ₁ ow₁ ρ₁ h₁ tk₁ e₁ S₁ r₁ k₁ => ?_)) h1 h2
  obtain ⟨g, k₁⟩ := k₁.out
  obtain ⟨g1, g2⟩ := Bool.and_eq_true_iff.mp g
  have hz' : sizeOk (.seq a.toArray 0) := by show a.toArray.size ≤ sizeLine; rw [List.size_toArray, r₁.length]; exact Nat.le_trans (Nat.le_of_ble_eq_true g2) (by decide)
  refine wpAny_newObj_type ?_ hz'
  have S₁' := S₁.push (tupObj a 0)
  refine run_unpackAt (s := { s with heap := h₁.push (tupObj a 0), toks := tk₁ }) S₁' (Heap.get?_push_size _ rfl) rfl rfl (S₁.ars (.push _) r₁) (Nat.eq_of_beq_eq_true g1) (K := fun x σ₂ => x = sa ∧ JNs X ns.reverse sa.reverse σ₂ fun σ₂ => K .next σ₂) ⟨rfl, k₁⟩ _ _ fun b c σ₂ ow₂ ρ₂ h₂ tk₂ e₂ S₂ r₂ k₂ => ?_
  obtain ⟨rfl, k₂⟩ := k₂
  exact k₂ ow₂ ρ₂ { s with heap := h₂, toks := tk₂ } _ S₂ r₂.reverse _ _ fun _ _ σ₃ ow₃ ρ₃ h₃ tk₃ e₃ S₃ _ k₃ => q .next .next σ₃ ow₃ ρ₃ h₃ tk₃ (((e₁.trans (.push _)).trans e₂).trans e₃) S₃ .next k₃
theorem JS_Expr {e : Expr} {pos : Pos} {K : SF → SS → Prop} (hi : interactive X.env = false) (hs : swapsWith e none pos.line X.env = pure false)
    (h : JE X e σ fun v σ₁ => match v with | .v .none => K .next σ₁ | _ => False) : JS X (.Expr e pos) σ K := by
  intro ow ρ s S Q E q
  refine wpAny_Expr (h ow ρ s S _ _ fun a sa σ₁ ow₁ ρ₁ h₁ tk₁ e₁ S₁ r₁ k₁ => ?_) hi hs
  cases r₁ with
  | c _ => exact k₁.elim
  | v r => cases r with
    | none => exact q .next .next σ₁ ow₁ ρ₁ h₁ tk₁ e₁ S₁ .next k₁
    | _ => exact k₁.elim
end
end
section
abbrev Spec := List AV → List SObj → (SV → List SObj → Prop) → Prop
structure Cels (P : Addr → Obj → Prop) (w : World) (ρ : List Addr) (h : Heap) (cel : List SObj) : Prop where
  len : ρ.length = cel.length
  at' : ∀ (i : Nat) (a : Addr) (o : SObj), ρ[i]? = some a → cel[i]? = some o → ∃ ob, h.get? a = some ob ∧ OR P w ρ ob o
def FnOk (w : World) (f : Addr) (D U : Nat) (sp : Spec) : Prop :=
  ∀ (X : Fx), X.Ok → X.w = w → X.dp + D < recursionLimit → X.un + U < cLine → ∀ (ow : Addr → Prop) (ρ : List Addr) (σ : SS) (s : Shared), SR X ow ρ s.heap σ →
  ∀ (ρ' : List Addr) (cel : List SObj) (vs : List Value) (as : List AV) (K : SV → List SObj → Prop), ρ'.Nodup → (∀ a ∈ ρ', a ∈ ρ) → Cels (Pz s.heap ow) w ρ' s.heap cel → ARs (Pz s.heap ow) w ρ' vs as → sp as cel K →
  ∀ (Q E : Value → Shared → Prop), (∀ v r cel' h' tk', (∀ b o, s.heap.get? b = some o → b ∉ ρ' → h'.get? b = some o) → (∀ b o, s.heap.get? b = some o → ∃ o', h'.get? b = some o') → Cels (Pz h' ow) w ρ' h' cel' → VR (Pz h' ow) w v r → K r cel' → Q v { s with heap := h', toks := tk' }) →
  wpAny (model lawP w) X.A (call (.ref f) vs) Q E s
def entLoc (names : List (Str × NameKind)) : List (Str × AV) → List Str → List AV → List (Str × AV)
  | acc, n :: ns, a :: as => entLoc names (match names.lookup n with | some .local => (n, a) :: acc | _ => acc) ns as
  | acc, _, _ => acc
def entCap (names : List (Str × NameKind)) : List (Str × AV) → List Str → List AV → List (Str × AV)
  | acc, n :: ns, a :: as => entCap names (match names.lookup n with | some .local => acc | _ => (n, a) :: acc) ns as
  | acc, _, _ => acc
noncomputable def cellsOf (cap : List (Str × AV)) : List (Str × Addr) → List SObj
  | [] => []
  | (n, _) :: r => (match lk n cap with | some a => .vcell a | none => .vnone) :: cellsOf cap r
def mkVid (k : Nat) : List (Str × Addr) → List (Str × Nat)
  | [] => []
  | (n, _) :: r => (n, k) :: mkVid (k + 1) r
def LocR (P : Addr → Obj → Prop) (w : World) (ρ : List Addr) (m : Str → Option Value) (acc : List (Str × AV)) : Prop := ∀ x av, lk x acc = some av → ∃ v, m x = some v ∧ AR P w ρ v av
def CapR (P : Addr → Obj → Prop) (w : World) (ρ : List Addr) (m : Str → Option Value) (acc : List (Str × AV)) : Prop := ∀ x, match lk x acc with
  | some av => ∃ v, m x = some v ∧ AR P w ρ v av
  | none => m x = none
section
variable {P : Addr → Obj → Prop} {w : World} {ρ : List Addr}
theorem LocR.go {sc : Scope} {env : Env} (he : env.scope = sc) : ∀ {ns : List Str} {vs : List Value} {as : List AV} {m : Str → Option Value} {acc : List (Str × AV)}, ARs P w ρ vs as → LocR P w ρ m acc → LocR P w ρ (bindL env.kindOf (ns.zip vs) m) (entLoc sc.names acc ns as)
  | [], _, _, _, _, _, h => by unfold entLoc; exact h
  | _ :: _, _, _, _, _, .nil, h => by unfold entLoc; exact h
  | n :: ns, _, _, m, acc, .cons (v := v) (d := d) r rs, h => by
    show LocR P w ρ (bindL env.kindOf ((n, v) :: ns.zip _) m) (entLoc sc.names acc (n :: ns) (d :: _))
    unfold bindL entLoc
    refine LocR.go he rs fun x av e => ?_
    have hk : env.kindOf n = sc.names.lookup n := by unfold Env.kindOf; rw [he]
    by_cases hn : sc.names.lookup n = some .local
    · rw [hn] at e
      rw [if_pos (hk.trans hn)]
      simp only [lk_cons] at e
      by_cases hx : x = n
      · rw [if_pos hx] at e; cases e; exact ⟨v, if_pos hx, r⟩
      · rw [if_neg hx] at e; obtain ⟨v', e1, e2⟩ := h x av e; exact ⟨v', (if_neg hx).trans e1, e2⟩
    · rw [if_neg (fun q => hn (hk.symm.trans q))]
      refine h x av ?_
      split at e
      · rename_i q; exact absurd q hn
      · exact e
theorem CapR.go {sc : Scope} {env : Env} (he : env.scope = sc) : ∀ {ns : List Str} {vs : List Value} {as : List AV} {m : Str → Option Value} {acc : List (Str × AV)}, ARs P w ρ vs as → CapR P w ρ m acc → CapR P w ρ (bindC env.kindOf (ns.zip vs) m) (entCap sc.names acc ns as)
  | [], _, _, _, _, _, h => by unfold entCap; exact h
  | _ :: _, _, _, _, _, .nil, h => by unfold entCap; exact h
  | n :: ns, _, _, m, acc, .cons (v := v) (d := d) r rs, h => by
    show CapR P w ρ (bindC env.kindOf ((n, v) :: ns.zip _) m) (entCap sc.names acc (n :: ns) (d :: _))
    unfold bindC entCap
    refine CapR.go he rs fun x => ?_
    have hk : env.kindOf n = sc.names.lookup n := by unfold Env.kindOf; rw [he]
    by_cases hn : sc.names.lookup n = some .local
    · rw [hn, if_pos (hk.trans hn)]; exact h x
    · rw [if_neg (fun q => hn (hk.symm.trans q))]
      have e : (match sc.names.lookup n with | some .local => acc | _ => (n, d) :: acc) = (n, d) :: acc := by
        split
        · rename_i q; exact absurd q hn
        · rfl
      rw [e, lk_cons]
      by_cases hx : x = n
      · rw [if_pos hx]; exact ⟨v, if_pos hx, r⟩
      · rw [if_neg hx]
        have := h x
        simp only [if_neg hx]
        exact this
end
theorem cellsOf_length (cap : List (Str × AV)) : ∀ cs : List (Str × Addr), (cellsOf cap cs).length = cs.length
  | [] => rfl
  | _ :: r => by rw [cellsOf, List.length_cons, List.length_cons, cellsOf_length cap r]
theorem cellsOf_get (cap : List (Str × AV)) : ∀ {cs : List (Str × Addr)} {i : Nat} {a : Addr} {o : SObj}, (cs.map (·.2))[i]? = some a → (cellsOf cap cs)[i]? = some o → ∃ n, (n, a) ∈ cs ∧ o = (match lk n cap with | some a => .vcell a | none => .vnone)
  | (n, c) :: r, 0, a, o, e1, e2 => by cases e1; cases e2; exact ⟨n, .head _, rfl⟩
  | (n, c) :: r, i + 1, a, o, e1, e2 => by
    obtain ⟨n', m, e⟩ := cellsOf_get cap (cs := r) (i := i) e1 e2
    exact ⟨n', .tail _ m, e⟩
theorem cellsOf_names (cap : List (Str × AV)) : ∀ {cs ds : List (Str × Addr)}, cs.map (·.1) = ds.map (·.1) → cellsOf cap cs = cellsOf cap ds
  | [], [], _ => rfl
  | (n, _) :: r, (n', _) :: r', h => by
    rw [List.map_cons, List.map_cons] at h
    obtain ⟨h1, h2⟩ := List.cons.inj h
    obtain rfl : n = n' := h1
    rw [cellsOf, cellsOf, cellsOf_names cap h2]
theorem mkVid_names : ∀ {k : Nat} {cs ds : List (Str × Addr)}, cs.map (·.1) = ds.map (·.1) → mkVid k cs = mkVid k ds
  | _, [], [], _ => rfl
  | k, (n, _) :: r, (n', _) :: r', h => by
    rw [List.map_cons, List.map_cons] at h
    obtain ⟨h1, h2⟩ := List.cons.inj h
    obtain rfl : n = n' := h1
    rw [mkVid, mkVid, mkVid_names h2]
theorem lkN_cons (x y : Str) (v : Nat) (r : List (Str × Nat)) : lkN x ((y, v) :: r) = if x = y then some v else lkN x r := by
  show (match Fast.sEq x y with | true => some v | false => lkN x r) = _
  by_cases h : x = y
  · subst h; rw [sEq_self, if_pos rfl]
  · rw [sEq_false h, if_neg h]
theorem mkVid_get {x : Str} : ∀ {cs : List (Str × Addr)} {k i : Nat}, lkN x (mkVid k cs) = some i → ∃ c, cs.lookup x = some c ∧ k ≤ i ∧ (cs.map (·.2))[i - k]? = some c
  | [], k, i, e => by cases e
  | (n, c) :: r, k, i, e => by
    rw [mkVid, lkN_cons] at e
    by_cases h : x = n
    · rw [if_pos h] at e; cases e
      exact ⟨c, by rw [List.lookup_cons, h, beq_self_eq_true], Nat.le_refl _, by rw [Nat.sub_self]; rfl⟩
    · rw [if_neg h] at e
      obtain ⟨c', e1, e2, e3⟩ := mkVid_get e
      refine ⟨c', by rw [List.lookup_cons, beq_eq_false_iff_ne.mpr h]; exact e1, Nat.le_of_succ_le e2, ?_⟩
      have : i - k = (i - (k + 1)) + 1 := by omega
      rw [this]; exact e3
def okO (n : Nat) : SObj → Bool
  | .inst _ j => Nat.blt j n
  | .vcell (.c j) => Nat.blt j n
  | _ => true
def frz (n : Nat) (cel : List SObj) (v : AV) (K : SV → List SObj → Prop) : Prop := Gd (Nat.ble n cel.length && (cel.take n).all (okO n)) (match v with
  | .v x => K x (cel.take n)
  | .c i => match cel[i]? with
    | some (.lst l) => Gd (Nat.ble n i) (K (.lst l) (cel.take n))
    | _ => False)
def Kret (n : Nat) (K : SV → List SObj → Prop) : SF → SS → Prop := fun f σ => match f with
  | .next => frz n σ.cel (.v .none) K
  | .ret v => frz n σ.cel v K
  | _ => False
structure Cx where
  names : List (Str × NameKind)
  vid : List (Str × Nat)
structure Agr (X : Fx) (C : Cx) : Prop where
  names : X.env.scope.names = C.names
  vid : X.vid = C.vid
  comp : X.comp = none
def FnIn (w : World) (f : Addr) (qual : Str) (params : Arguments) (body : List Stmt) (scope : Scope) : Prop :=
  ∃ name doc pm an cdv ct oc od osl, (tp.heap_1 w.params).lookup f = some ⟨oc, od, .func (fnOf name qual params body scope .none .none doc pm an cdv ct), osl⟩ ∧ codeIn (tp.heap_1 w.params) cdv qual = true
theorem OR.down {P P' : Addr → Obj → Prop} {w : World} {ρ ρ' : List Addr} {ob : Obj} {o : SObj} (hp : ∀ a o, P a o → P' a o) (hr : ρ <+: ρ') (h : OR P w ρ' ob o) (ok : okO ρ.length o = true) : OR P' w ρ ob o := by
  have key : ∀ {j : Nat} {a : Addr}, ρ'[j]? = some a → Nat.blt j ρ.length = true → ρ[j]? = some a := fun {j a} e l => by
    obtain ⟨t, rfl⟩ := hr
    rw [List.getElem?_append_left (Nat.le_of_ble_eq_true l)] at e; exact e
  cases h with
  | lst r => exact .lst (r.mono hp)
  | inst h => exact .inst (key h ok)
  | idict r => exact .idict (r.mono hp)
  | vcell h r => cases r with
    | v r => exact .vcell h (.v (r.mono hp))
    | c e => exact .vcell h (.c (key e ok))
  | vnone h => exact .vnone h
  | barr => exact .barr
theorem frz.out {P P' : Addr → Obj → Prop} {w : World} {ρ ρ' : List Addr} {h : Heap} {cel : List SObj} {v : Value} {av : AV} {K : SV → List SObj → Prop} (k : frz ρ.length cel av K) (hr : ρ <+: ρ') (hp : ∀ a o, P a o → P' a o) (C : Cels P w ρ' h cel)
    (hz : ∀ (a : Addr) (i : Nat) (ob : Obj), ρ'[i]? = some a → ρ.length ≤ i → h.get? a = some ob → P' a ob) (r : AR P w ρ' v av) : ∃ d cel', VR P' w v d ∧ Cels P' w ρ h cel' ∧ K d cel' := by
  obtain ⟨g, k⟩ := Gd.out k
  obtain ⟨g1, g2⟩ := Bool.and_eq_true_iff.mp g
  have g1 := Nat.le_of_ble_eq_true g1
  have C' : Cels P' w ρ h (cel.take ρ.length) := ⟨by rw [List.length_take, Nat.min_eq_left g1], fun i a o e1 e2 => by
    have hi := (List.getElem?_eq_some_iff.mp e1).1
    have e3 : ρ'[i]? = some a := by obtain ⟨t, rfl⟩ := hr; rw [List.getElem?_append_left hi]; exact e1
    have m := List.mem_of_getElem? e2
    rw [List.getElem?_take_of_lt hi] at e2
    obtain ⟨ob, e4, e5⟩ := C.at' i a o e3 e2
    exact ⟨ob, e4, e5.down hp hr (List.all_eq_true.mp g2 o m)⟩⟩
  cases r with
  | v r => exact ⟨_, _, r.mono hp, C', k⟩
  | c e =>
    dsimp only at k
    split at k
    · rename_i l q
      obtain ⟨g3, k⟩ := k.out
      obtain ⟨ob, e4, e5⟩ := C.at' _ _ _ e q
      cases e5 with
      | lst rr => exact ⟨_, _, .lst (hz _ _ _ e (Nat.le_of_ble_eq_true g3) e4) (rr.mono hp), C', k⟩
    · exact k.elim
theorem news_of {X : Fx} {ow : Addr → Prop} {ρ : List Addr} {h : Heap} {σ : SS} (S : SR X ow ρ h σ) : ∀ {ρ' : List Addr}, (∀ a ∈ ρ', a ∈ ρ) → ∃ news, News X.h₀ X.L h news ∧ news.map (·.1) = ρ'
  | [], _ => ⟨[], News.nil, rfl⟩
  | a :: r, hs => by
    obtain ⟨news, N, e⟩ := news_of S (ρ' := r) fun b hb => hs b (.tail _ hb)
    obtain ⟨o1, n1, n2, n3⟩ := S.off a (hs a (.head _))
    obtain ⟨o, eo⟩ := S.low a o1
    refine ⟨(a, o) :: news, fun p hp => ?_, by rw [List.map_cons, e]⟩
    rcases List.mem_cons.mp hp with rfl | hp
    · exact ⟨eo, n2, n1⟩
    · exact N p hp
end
section
abbrev cells0 (sc : Scope) : List (Str × Addr) := cellsFrom 0 sc.names []
noncomputable abbrev entSS (sc : Scope) (ns : List Str) (as : List AV) (cel : List SObj) : SS := ⟨entLoc sc.names [] ns as, cel ++ cellsOf (entCap sc.names [] ns as) (cells0 sc)⟩
abbrev cxOf (sc : Scope) (n : Nat) : Cx := ⟨sc.names, mkVid n (cells0 sc)⟩
noncomputable def nodupB : List Str → Bool
  | [] => true
  | x :: r => !(r.any fun y => Fast.sEq x y) && nodupB r
theorem nodupB_ok : ∀ {l : List Str}, nodupB l = true → l.Nodup
  | [], _ => List.nodup_nil
  | x :: r, h => by
    unfold nodupB at h
    obtain ⟨h1, h2⟩ := Bool.and_eq_true_iff.mp h
    refine List.nodup_cons.mpr ⟨fun m => ?_, nodupB_ok h2⟩
    have : (r.any fun y => Fast.sEq x y) = true := List.any_eq_true.mpr ⟨x, m, sEq_self x⟩
    rw [this] at h1; cases h1
def bindsB (sc : Scope) (ns : List Str) : Bool := ns.all fun n => match sc.names.lookup n with
  | some .local => true
  | some .cell => ((cells0 sc).lookup n).isSome
  | _ => false
theorem lookup_some_names {n : Str} : ∀ {cs ds : List (Str × Addr)}, cs.map (·.1) = ds.map (·.1) → (cs.lookup n).isSome = true → (ds.lookup n).isSome = true
  | [], [], _, h => h
  | (x, _) :: r, (x', _) :: r', e, h => by
    rw [List.map_cons, List.map_cons] at e
    obtain ⟨h1, h2⟩ := List.cons.inj e
    obtain rfl : x = x' := h1
    rw [List.lookup_cons] at h ⊢
    split
    · rfl
    · rename_i q; rw [q] at h; exact lookup_some_names h2 h
theorem AR.none_loc {P : Addr → Obj → Prop} {w : World} {ρ : List Addr} {m : Str → Option Value} : LocR P w ρ m [] := fun x av e => by cases e
structure Ent (w : World) (D U : Nat) (sc : Scope) (ns : List Str) (as : List AV) (cel : List SObj) (ow : Addr → Prop) (h : Heap) (ρ' ρh : List Addr) (A : Around) (outer : List Env) (base : Heap) (X' : Fx) (ca : List Addr) (h₁ : Heap) : Prop where
  ok : X'.Ok
  w : X'.w = w
  D : X'.D = D
  U : X'.U = U
  ag : Agr X' (cxOf sc cel.length)
  outer : X'.outer = outer
  base : X'.base = base
  h₀ : X'.h₀ = hideAll h ρh
  L : X'.L = h.objs.size
  comp : X'.comp = none
  A : X'.A = A.deeper X'.env
  fr : X'.env.frame = some X'.L
  me : X'.env = envX X'.cn X'.cs X'.L X'.fa X'.ccd X'.cl
  keep : ∀ b o, h.get? b = some o → h₁.get? b = some o
  big : ∀ a ∈ ca, h.objs.size < a
  S : SR X' (fun b => ow b ∨ b = h.objs.size ∨ b ∈ ca) (ρ' ++ ca) h₁ (entSS sc ns as cel)
abbrev Mk (w : World) (A : Around) (f : Addr) (fd : FuncData) (vs : List Value) (P : Env → Shared → Prop) (E : Value → Shared → Prop) (s : Shared) : Prop :=
  wpAny (model lawP w) A.in1 (bindArgs fd ⟨vs, []⟩) (fun binds s₁ => wpAny (model lawP w) A.in1 (newFunctionEnv fd.scope fd.globals fd.closure binds (fd.qualname ++ ".<locals>.") (some f) fd.code none fd.builtins) (fun env s₂ => s₂.heap.NoLimit ∧ P env s₂) E s₁) E s
abbrev FdAt (s : Shared) (f : Addr) (o : Obj) (fd : FuncData) (body : List Stmt) : Prop := s.heap.get? f = some o ∧ o.data = .func fd ∧ fd.scope.isCoroutine = false ∧ fd.scope.isGenerator = false ∧ fd.body = .stmts body ∧ s.heap.CodeRec fd.code fd.qualname
abbrev Bnd (params : Arguments) (ns : List Str) : Prop := ∀ (fd : FuncData) (vs : List Value), fd.params = params → fd.defaults = .none → fd.kwdefaults = .none → vs.length = ns.length → bindArgs fd ⟨vs, []⟩ = pure (ns.zip vs)
abbrev ScOk (sc : Scope) (ns : List Str) : Prop := (nodupB ((cells0 sc).map (·.1)) && bindsB sc ns && (sc.kind == .function && !sc.isCoroutine && !sc.isGenerator)) = true
theorem enterCore {w : World} {f : Addr} {D U : Nat} {qual : Str} {params : Arguments} {body : List Stmt} {sc : Scope} {ns : List Str} (hf : FnIn w f qual params body sc) (hb : Bnd params ns) (hc : ScOk sc ns)
    {A : Around} {dp un : Nat} {gd : Option (List Code)} {outer : List Env} {base : Heap} (hA : ∀ L cdv cs, A.deeper (envX qual sc L f cdv cs) = ktrTop (dp + 1) (un + 3) gd qual sc L f cdv cs outer)
    (hdp : dp + (D + 1) < recursionLimit) (hun : un + (U + 3) < cLine) (ow : Addr → Prop) (s : Shared)
    (ρ' ρh : List Addr) (cel : List SObj) (vs : List Value) (as : List AV) (BG : Below A base outer (hideAll s.heap ρh)) (hT : ∃ mean mg mb, Top lq ll mean mg mb (hideAll s.heap ρh)) (kf : ∀ a o, (tp.heap_1 w.params).lookup a = some o → Pz s.heap ow a o)
    (inc : ∀ a ∈ ρ', a ∈ ρh) (hid : ∀ a ∈ ρh, ow a) (low : ∀ a, ow a → ∃ o, s.heap.get? a = some o) (nd : ρ'.Nodup) (C : Cels (Pz s.heap ow) w ρ' s.heap cel) (R : ARs (Pz s.heap ow) w ρ' vs as) (hlen : as.length = ns.length) :
    ∃ o fd, FdAt s f o fd body ∧ ∀ (P : Env → Shared → Prop) (E : Value → Shared → Prop), (∀ X' ca h₁ tk, Ent w D U sc ns as cel ow s.heap ρ' ρh A outer base X' ca h₁ → P X'.env { s with heap := h₁, toks := tk }) → Mk w A f fd vs P E s := by
  obtain ⟨hn, hfl⟩ := Bool.and_eq_true_iff.mp hc
  obtain ⟨hn, hk⟩ := Bool.and_eq_true_iff.mp hn
  have sub : ∀ a ∈ ρ', ow a := fun a m => hid a (inc a m)
  obtain ⟨name, doc, pm, an, cdv, ct, oc, od, osl, ho, hcd⟩ := hf
  obtain ⟨hfl, hfg⟩ := Bool.and_eq_true_iff.mp hfl
  obtain ⟨hfk, hfc⟩ := Bool.and_eq_true_iff.mp hfl
  have hfk : sc.kind = .function := beq_iff_eq.mp hfk
  have hfc : sc.isCoroutine = false := by simpa using hfc
  have hfg : sc.isGenerator = false := by simpa using hfg
  obtain ⟨mean, mg, mb, T⟩ := hT
  have hlen' : vs.length = ns.length := R.length.trans hlen
  have hnames : ∀ b, (cellsFrom b sc.names []).map (·.1) = (cells0 sc).map (·.1) := fun b => cellsFrom_names sc.names b 0 [] [] rfl
  refine ⟨_, fnOf name qual params body sc .none .none doc pm an cdv ct, ⟨(kf _ _ ho).1, rfl, hfc, hfg, rfl, codeRec_of (fun b o e => (kf b o e).1) hcd⟩, fun P E h => ?_⟩
  unfold Mk
  rw [hb _ vs rfl rfl rfl hlen']
  refine wpAny_pure (wpAny_newFunctionEnv_cells hfk (fun x hx => ?_) fun env' he s' x => ?_)
  · have hx' := List.all_eq_true.mp hk x.1 (List.of_mem_zip hx).1
    split at hx'
    · rename_i e; exact .inl e
    · rename_i e; exact .inr ⟨e, lookup_some_names (hnames _).symm hx'⟩
    · cases hx'
  subst he
  refine ⟨T.nolimit.keeps fun b o e => x.toInCall.keep b o (of_hideAll _ e), ?_⟩
  obtain ⟨h₁, tk, rfl, _⟩ := x.done
  have keep₁ := x.toInCall.keep
  have Lz : s.heap.objs.size ≤ s.heap.objs.size := Nat.le_refl _
  generalize hcs : cellsFrom (s.heap.objs.size + 1) sc.names [] = cs at x
  have hcn : cs.map (·.1) = (cells0 sc).map (·.1) := hcs ▸ hnames _
  have hnd : (cs.map (·.1)).Nodup := hcn ▸ nodupB_ok hn
  have csCell : ∀ n c, (n, c) ∈ cs → h₁.IsCell c (bindC (newEnv sc s.heap.objs.size mainGlobals cs (qual ++ ".<locals>.") (some f) cdv none builtinsNs).kindOf (ns.zip vs) (fun _ => none) n) ∧ s.heap.objs.size < c := fun n c m => ⟨x.cell n c (lookup_of_mem_nodup hnd m), x.above n c m⟩
  have newAt : ∀ b, s.heap.objs.size ≤ b → s.heap.get? b = none := fun b hb => Heap.get?_none_of_le hb
  have oldAt : ∀ b o, s.heap.get? b = some o → b < s.heap.objs.size := fun b o e => Heap.lt_size e
  have alive : ∀ a ∈ ρ', ∃ o, s.heap.get? a = some o := fun a ha => low a (sub a ha)
  generalize hca : cs.map (·.2) = ca
  have caIn : ∀ a ∈ ca, ∃ n, (n, a) ∈ cs := fun a ha => by rw [← hca] at ha; obtain ⟨p, hp, rfl⟩ := List.mem_map.mp ha; exact ⟨p.1, hp⟩
  have caBig : ∀ a ∈ ca, s.heap.objs.size < a := fun a ha => let ⟨n, m⟩ := caIn a ha; (csCell n a m).2
  generalize hX : ({ w := w, dp := dp + 1, un := un + 3, gd := gd, cn := qual, cs := sc, L := s.heap.objs.size, fa := f, ccd := cdv, cl := cs, outer := outer, A₀ := A, base := base, h₀ := hideAll s.heap ρh, env := envX qual sc s.heap.objs.size f cdv cs, comp := none, vid := mkVid cel.length (cells0 sc), D := D, U := U } : Fx) = X'
  have O' : X'.Ok := by
    subst hX
    exact { below := BG, K := fun b o e => hideAll_get _ (kf b o e).1 (fun m => (kf b o e).2 (hid b m)), T := ⟨mean, mg, mb, T⟩, ck := hfk, kind := hfk, glob := rfl, bins := rfl, here := (fun _ => rfl), there := fun m e => (by cases e), room := (by dsimp only; omega), units := (by dsimp only; omega) }
  let ow₁ : Addr → Prop := fun b => ow b ∨ b = s.heap.objs.size ∨ b ∈ ca
  have pz₁ : ∀ b o, Pz s.heap ow b o → Pz h₁ ow₁ b o := fun b o e => ⟨keep₁ b o e.1, fun q => q.elim e.2 fun q => q.elim (fun q => Nat.lt_irrefl _ (q ▸ oldAt b o e.1)) fun q => Nat.lt_irrefl _ (Nat.lt_trans (oldAt b o e.1) (caBig b q))⟩
  have prf : ρ' <+: ρ' ++ ca := List.prefix_append _ _
  have caLen : ca.length = (cellsOf (entCap sc.names [] ns as) (cells0 sc)).length := by rw [← hca, List.length_map, cellsOf_length, ← List.length_map (f := (·.1)) (as := cs), hcn, List.length_map]
  have Cap := CapR.go (P := Pz h₁ ow₁) (w := w) (ρ := ρ' ++ ca) (env := newEnv sc s.heap.objs.size mainGlobals cs (qual ++ ".<locals>.") (some f) cdv none builtinsNs) (sc := sc) rfl (ns := ns) (R.mono pz₁ prf) (m := fun _ => none) (acc := []) (fun x => rfl)
  have Loc := LocR.go (P := Pz h₁ ow₁) (w := w) (ρ := ρ' ++ ca) (env := newEnv sc s.heap.objs.size mainGlobals cs (qual ++ ".<locals>.") (some f) cdv none builtinsNs) (sc := sc) rfl (ns := ns) (R.mono pz₁ prf) (m := fun _ => none) (acc := []) AR.none_loc
  have S' : SR X' ow₁ (ρ' ++ ca) h₁ (entSS sc ns as cel) := by
    subst hX
    refine { fr := ⟨_, _, ⟨x.toInCall.ns, fun b o e => keep₁ b o (of_hideAll _ e), Nat.le_of_eq (hideAll_size _ _)⟩, x.toInCall.ns, fun _ => rfl, fun m e => (by cases e), Loc⟩, len := by rw [List.length_append, List.length_append, C.len, caLen], cel := fun i a o e1 e2 => ?_, nd := ?_, off := fun a ha => ?_, owL := .inr (.inl rfl), owl := .inr (.inl rfl), low := fun a q => ?_, var := fun y i e => ?_, kf := fun b o e => pz₁ b o (kf b o e) }
    · by_cases hi : i < ρ'.length
      · rw [List.getElem?_append_left hi] at e1
        rw [List.getElem?_append_left (C.len ▸ hi)] at e2
        obtain ⟨ob, e3, e4⟩ := C.at' i a o e1 e2
        exact ⟨ob, keep₁ _ _ e3, e4.mono pz₁ prf⟩
      · rw [List.getElem?_append_right (Nat.le_of_not_lt hi)] at e1
        rw [List.getElem?_append_right (C.len ▸ Nat.le_of_not_lt hi), ← C.len, ← cellsOf_names _ hcn] at e2
        rw [← hca] at e1
        obtain ⟨n, m, rfl⟩ := cellsOf_get _ e1 e2
        obtain ⟨ob, e3, e4⟩ := (csCell n a m).1
        have := Cap n
        refine ⟨ob, e3, ?_⟩
        split
        · rename_i av q
          rw [q] at this
          obtain ⟨v, e5, e6⟩ := this
          rw [e5] at e4
          exact .vcell e4 e6
        · rename_i q
          rw [q] at this
          rw [this] at e4
          exact .vnone e4
    · rw [List.nodup_append]
      refine ⟨nd, ?_, fun a ha b hb e => ?_⟩
      · rw [← hca]
        exact List.pairwise_map.mpr x.apart
      · obtain ⟨o, eo⟩ := alive a ha
        exact Nat.lt_irrefl _ (Nat.lt_trans (oldAt a o eo) (e ▸ caBig b hb))
    · rcases List.mem_append.mp ha with ha | ha
      · obtain ⟨o, eo⟩ := alive a ha
        exact ⟨.inl (sub a ha), hideAll_none _ (inc a ha), Nat.ne_of_lt (oldAt a o eo), Nat.ne_of_lt (oldAt a o eo)⟩
      · have hb := caBig a ha
        refine ⟨.inr (.inr ha), ?_, Nat.ne_of_gt hb, Nat.ne_of_gt hb⟩
        show (hideAll s.heap ρh).get? a = none
        cases e : (hideAll s.heap ρh).get? a with
        | none => rfl
        | some o => have := of_hideAll _ e; rw [newAt a (Nat.le_of_lt hb)] at this; cases this
    · rcases q with q | q | q
      · obtain ⟨o, e⟩ := low a q; exact ⟨o, keep₁ _ _ e⟩
      · obtain ⟨o, _, _, e, _⟩ := x.toInCall.ns; exact ⟨o, by rw [q]; exact e⟩
      · obtain ⟨n, m⟩ := caIn a q
        obtain ⟨o, e, _⟩ := (csCell n a m).1
        exact ⟨o, e⟩
    · dsimp only at e ⊢
      rw [← mkVid_names hcn] at e
      obtain ⟨c, e1, e2, e3⟩ := mkVid_get e
      exact ⟨c, e1, by rw [List.getElem?_append_right (by rw [C.len]; exact e2), C.len, ← hca]; exact e3⟩
  have key : X'.A = A.deeper (envX qual sc s.heap.objs.size f cdv cs) ∧ X'.env = envX qual sc s.heap.objs.size f cdv cs := by subst hX; exact ⟨(hA _ _ _).symm, rfl⟩
  have run := h X' ca h₁ tk ⟨O', by subst hX; rfl, by subst hX; rfl, by subst hX; rfl, by subst hX; exact ⟨rfl, rfl, rfl⟩, by subst hX; rfl, by subst hX; rfl, by subst hX; rfl, by subst hX; rfl, by subst hX; rfl, key.1.trans (congrArg _ key.2.symm), by subst hX; rfl, by subst hX; rfl, keep₁, caBig, S'⟩
  rw [key.2] at run
  exact run
theorem enterX {w : World} {f : Addr} {D U : Nat} {qual : Str} {params : Arguments} {body : List Stmt} {sc : Scope} {ns : List Str} (hf : FnIn w f qual params body sc) (hb : Bnd params ns) (hc : ScOk sc ns)
    (X : Fx) (O : X.Ok) (hw : X.w = w) (hdp : X.dp + (D + 1) < recursionLimit) (hun : X.un + (U + 3) < cLine) (ow : Addr → Prop) (ρ : List Addr) (σ : SS) (s : Shared) (S : SR X ow ρ s.heap σ)
    (ρ' : List Addr) (cel : List SObj) (vs : List Value) (as : List AV) (nd : ρ'.Nodup) (sub : ∀ a ∈ ρ', a ∈ ρ) (C : Cels (Pz s.heap ow) w ρ' s.heap cel) (R : ARs (Pz s.heap ow) w ρ' vs as) (hlen : as.length = ns.length) {ρh : List Addr} {news : List (Addr × Obj)} (N : News X.h₀ X.L s.heap news) (hnews : news.map (·.1) = ρh) (inc : ∀ a ∈ ρ', a ∈ ρh) (hid : ∀ a ∈ ρh, ow a) :
    ∃ o fd, FdAt s f o fd body ∧ ∀ (P : Env → Shared → Prop) (E : Value → Shared → Prop), (∀ X' ca h₁ tk, Ent w D U sc ns as cel ow s.heap ρ' ρh X.A (envX X.cn X.cs X.L X.fa X.ccd X.cl :: X.outer) X.base X' ca h₁ → P X'.env { s with heap := h₁, toks := tk }) → Mk w X.A f fd vs P E s := by
  subst hw
  obtain ⟨mf, ml, F, n₀, c1, c2, l₀⟩ := S.fr
  obtain ⟨mean, mg, mb, T⟩ := O.T
  obtain ⟨FG, BG, st, _⟩ := groundX (A := X.A) (R := fun _ _ => True) O.below F N rfl rfl O.ck
  rw [hnews] at FG BG st
  exact enterCore hf hb hc (fun _ _ _ => rfl) hdp hun ow s ρ' ρh cel vs as BG ⟨mean, mg, mb, T.keeps st⟩ S.kf inc hid S.low nd C R hlen
theorem Ent.out {w : World} {D U : Nat} {sc : Scope} {ns : List Str} {as : List AV} {cel : List SObj} {ow : Addr → Prop} {s : Shared} {ρ' ρh : List Addr} {A : Around} {outer : List Env} {base : Heap} {X' : Fx} {ca : List Addr} {h₁ : Heap}
    (T : Ent w D U sc ns as cel ow s.heap ρ' ρh A outer base X' ca h₁) (low : ∀ a, ow a → ∃ o, s.heap.get? a = some o) (C : Cels (Pz s.heap ow) w ρ' s.heap cel) {K : SV → List SObj → Prop} {Q : Value → Shared → Prop}
    (q : ∀ v r cel' h' tk', (∀ b o, s.heap.get? b = some o → b ∉ ρ' → h'.get? b = some o) → (∀ b o, s.heap.get? b = some o → ∃ o', h'.get? b = some o') → Cels (Pz h' ow) w ρ' h' cel' → VR (Pz h' ow) w v r → K r cel' → Q v { s with heap := h', toks := tk' })
    (fl : Flow) (b : SF) (σ' : SS) (ow' : Addr → Prop) (ρ'' : List Addr) (h' : Heap) (tk' : Nat) (e : Ex X' (fun b => ow b ∨ b = s.heap.objs.size ∨ b ∈ ca) (ρ' ++ ca) h₁ ow' ρ'' h') (S'' : SR X' ow' ρ'' h' σ') (rf : RF X' ow' ρ'' h' fl b) (k : Kret cel.length K b σ') : Q (match (generalizing := false) fl with | .ret v => v | _ => .none) { s with heap := h', toks := tk' } := by
  have hw' := T.w
  have keep₁ := T.keep
  have caBig := T.big
  have oldAt : ∀ b o, s.heap.get? b = some o → b < s.heap.objs.size := fun b o e => Heap.lt_size e
  have owUp : ∀ b, ow b → ow' b := fun b q => e.own b (.inl q)
  have hp : ∀ b o, Pz h' ow' b o → Pz h' ow b o := fun b o p => ⟨p.1, fun q => p.2 (owUp b q)⟩
  have pre := (List.prefix_append ρ' ca).trans e.pre
  have locs : X'.env.locals = s.heap.objs.size := by rw [T.me]; exact T.L
  have locL := T.L
  have kp : ∀ b o, s.heap.get? b = some o → b ∉ ρ' → h'.get? b = some o := fun b o e1 nb => e.keep b o (keep₁ b o e1) (fun m => (List.mem_append.mp m).elim nb fun m => Nat.lt_irrefl _ (Nat.lt_trans (oldAt b o e1) (caBig b m))) (by rw [locs]; exact Nat.ne_of_lt (oldAt b o e1)) (by rw [locL]; exact Nat.ne_of_lt (oldAt b o e1))
  have lv : ∀ b o, s.heap.get? b = some o → ∃ o', h'.get? b = some o' := fun b o e1 => e.live b o (keep₁ b o e1)
  have C'' : Cels (Pz h' ow') w ρ'' h' σ'.cel := ⟨S''.len, fun i a o e1 e2 => hw' ▸ S''.cel i a o e1 e2⟩
  have hz : ∀ (a : Addr) (i : Nat) (ob : Obj), ρ''[i]? = some a → ρ'.length ≤ i → h'.get? a = some ob → Pz h' ow a ob := fun a i ob e1 hi e2 => ⟨e2, fun q => by
    obtain ⟨o, eo⟩ := low a q
    have hz := oldAt a o eo
    rcases e.fresh a (List.mem_of_getElem? e1) with m | m
    · rcases List.mem_append.mp m with m | m
      · obtain ⟨j, lj, ej⟩ := List.mem_iff_getElem.mp m
        have e3 : ρ''[j]? = some a := by obtain ⟨t, rfl⟩ := pre; rw [List.getElem?_append_left lj, List.getElem?_eq_getElem lj, ej]
        obtain ⟨l1, g1⟩ := List.getElem?_eq_some_iff.mp e1
        obtain ⟨l2, g2⟩ := List.getElem?_eq_some_iff.mp e3
        have := (List.getElem_inj S''.nd).mp (g1.trans g2.symm)
        omega
      · exact Nat.lt_irrefl _ (Nat.lt_trans hz (caBig a m))
    · rw [keep₁ a o eo] at m; cases m⟩
  rw [← C.len] at k
  cases rf with
  | next => obtain ⟨d, cel', r1, r2, r3⟩ := frz.out (v := .none) (show frz ρ'.length σ'.cel (.v .none) K from k) pre hp C'' hz (.v .none); exact q _ _ _ _ tk' kp lv r2 r1 r3
  | brk => exact k.elim
  | cont => exact k.elim
  | ret r => rw [hw'] at r; obtain ⟨d, cel', r1, r2, r3⟩ := frz.out (show frz ρ'.length σ'.cel _ K from k) pre hp C'' hz r; exact q _ _ _ _ tk' kp lv r2 r1 r3
def FnOkC (w : World) (f : Addr) (D U : Nat) (sp : Spec) : Prop :=
  ∀ (X : Fx), X.Ok → X.w = w → X.dp + D < recursionLimit → X.un + U < cLine → ∀ (ow : Addr → Prop) (ρ : List Addr) (σ : SS) (s : Shared), SR X ow ρ s.heap σ →
  ∀ (ρ' : List Addr) (cel : List SObj) (vs : List Value) (as : List AV) (K : SV → List SObj → Prop), ρ'.Nodup → (∀ a ∈ ρ', a ∈ ρ) → Cels (Pz s.heap ow) w ρ' s.heap cel → ARs (Pz s.heap ow) w ρ' vs as → sp as cel K →
  ∀ (Q E : Value → Shared → Prop), (∀ v r cel' h' tk', (∀ b o, s.heap.get? b = some o → b ∉ ρ' → h'.get? b = some o) → (∀ b o, s.heap.get? b = some o → ∃ o', h'.get? b = some o') → Cels (Pz h' ow) w ρ' h' cel' → VR (Pz h' ow) w v r → K r cel' → Q v { s with heap := h', toks := tk' }) →
  codeAny (model lawP w) X.A (.call (.ref f) ⟨vs, []⟩) (fun r s' => match r with | .ok (.ret v) => Q v s' | .ok _ => False | .error e => E e s') s
theorem FnOkC.of_body {w : World} {f : Addr} {D U : Nat} {sp : Spec} {qual : Str} {params : Arguments} {body : List Stmt} {sc : Scope} {ns : List Str} (hf : FnIn w f qual params body sc) (hb : Bnd params ns) (hc : ScOk sc ns)
    (hlen : ∀ as cel K, sp as cel K → as.length = ns.length)
    (h : ∀ (X : Fx) (as : List AV) (cel : List SObj) (K : SV → List SObj → Prop), X.Ok → X.w = w → X.D = D → X.U = U → Agr X (cxOf sc cel.length) → sp as cel K → JB X body (entSS sc ns as cel) (Kret cel.length K)) : FnOkC w f (D + 1) (U + 3) sp := by
  intro X O hw hdp hun ow ρ σ s S ρ' cel vs as K nd sub C R hsp Q E q
  obtain ⟨news, N, hnews⟩ := news_of S sub
  obtain ⟨o, fd, ⟨ho, hd, hco, hgen, hbody, hcd⟩, go⟩ := enterX hf hb hc X O hw hdp hun ow ρ σ s S ρ' cel vs as nd sub C R (hlen _ _ _ hsp) N hnews (fun _ m => m) (fun a m => (S.off a (sub a m)).1)
  refine codeAny_call_function (by show X.dp < recursionLimit; omega) ho hd hco hgen hbody hcd (go (fun env s₂ => codeAny (model lawP w) X.A (.func body env) _ s₂) _ fun X' ca h₁ tk T => codeAny_func ?_)
  have J := h X' as cel K T.ok T.w T.D T.U T.ag hsp _ _ { s with heap := h₁, toks := tk } T.S (fun fl s' => Q (match fl with | .ret v => v | _ => .none) s') (fun e s' => wpAny (model lawP w) (X.A.deeper X'.env) (leaving X'.env e) (fun _ s'' => E e s'') (fun e' s'' => E e' s'') s') fun a b σ' ow' ρ'' h' tk' e S'' r k => T.out S.low C q a b σ' ow' ρ'' h' tk' e S'' r k
  rw [T.w, T.A] at J
  exact J
theorem FnOk.of_body {w : World} {f : Addr} {D U : Nat} {sp : Spec} {qual : Str} {params : Arguments} {body : List Stmt} {sc : Scope} {ns : List Str} (hf : FnIn w f qual params body sc) (hb : Bnd params ns) (hc : ScOk sc ns)
    (hlen : ∀ as cel K, sp as cel K → as.length = ns.length)
    (h : ∀ (X : Fx) (as : List AV) (cel : List SObj) (K : SV → List SObj → Prop), X.Ok → X.w = w → X.D = D → X.U = U → Agr X (cxOf sc cel.length) → sp as cel K → JB X body (entSS sc ns as cel) (Kret cel.length K)) : FnOk w f (D + 1) (U + 3) sp := fun X O hw hD hU ow ρ σ s S ρ' cel vs as K nd sub C R hsp Q E q =>
  wpAny_call (FnOkC.of_body hf hb hc hlen h X O hw hD hU ow ρ σ s S ρ' cel vs as K nd sub C R hsp Q E q)
end
section
section
variable {X : Fx} {σ : SS} {K : AV → SS → Prop}
def noStar : List Expr → Bool
  | [] => true
  | .Starred _ _ :: _ => false
  | _ :: r => noStar r
theorem starEach_map {env : Env} : ∀ {es : List Expr}, noStar es = true → starEach es env = es.map fun e => (false, eval e env)
  | [], _ => by unfold starEach; rfl
  | e :: r, h => by
    have ih : noStar r = true → starEach r env = r.map fun e => (false, eval e env) := starEach_map
    cases e <;> first | (exact absurd h (by unfold noStar; exact Bool.false_ne_true)) | (unfold noStar at h; unfold starEach; rw [ih h]; rfl)
theorem noStar_tail {e : Expr} {es : List Expr} (h : noStar (e :: es) = true) : noStar es = true := by
  cases e <;> first | (exact absurd h (by unfold noStar; exact Bool.false_ne_true)) | (unfold noStar at h; exact h)
theorem starEach_cons {env : Env} {e : Expr} {es : List Expr} (h : noStar (e :: es) = true) : starEach (e :: es) env = (false, eval e env) :: starEach es env := by
  rw [starEach_map h, starEach_map (noStar_tail h)]; rfl
theorem noStar_plain {env : Env} {pos : Pos} {es : List Expr} (h : noStar es = true) : (backTo pos (starEach es env)).any (·.1) = false := by
  rw [starEach_map h]
  unfold backTo
  rw [List.map_map]
  rw [List.any_eq_false]
  intro x hx
  obtain ⟨e, _, rfl⟩ := List.mem_map.mp hx
  exact Bool.false_ne_true
def JCall (X : Fx) (f : Value) (as : List AV) (σ : SS) (K : AV → SS → Prop) : Prop :=
  ∀ ow ρ s vs, SR X ow ρ s.heap σ → ARs (Pz s.heap ow) X.w ρ vs as → RunAt X ow ρ s (RV X) (call f vs) K
theorem SR.kin {X : Fx} {ow : Addr → Prop} {ρ : List Addr} {h : Heap} {σ : SS} (S : SR X ow ρ h σ) : (tp.heap_1 X.w.params).In h := fun b o e => (S.kf b o e).1
theorem run_callWith0 {f : Value} {first : List Value} {fas : List AV} {pos : Pos} {ow : Addr → Prop} {ρ : List Addr} {s : Shared} (hk : keepIn (tp.heap_1 X.w.params) f = true) (S : SR X ow ρ s.heap σ) (rf : ARs (Pz s.heap ow) X.w ρ first fas)
    (h : JCall X f fas σ K) : RunAt X ow ρ s (RV X) (callWith pos f first (backTo pos (starEach [] X.env)) []) K := by
  intro Q E q
  refine callWith_K0 S.kin hk ?_
  rw [List.append_nil]
  exact h ow ρ s first S rf Q E q
theorem run_callWith {f : Value} {first : List Value} {fas : List AV} {e : Expr} {args : List Expr} {pos : Pos} {ow : Addr → Prop} {ρ : List Addr} {s : Shared} (hs : noStar (e :: args) = true) (hk : keepIn (tp.heap_1 X.w.params) f = true) (S : SR X ow ρ s.heap σ) (rf : ARs (Pz s.heap ow) X.w ρ first fas)
    (h : JL X pos (e :: args) σ fun as σ₁ => JCall X f (fas ++ as) σ₁ K) : RunAt X ow ρ s (RV X) (callWith pos f first (backTo pos (starEach (e :: args) X.env)) []) K := by
  intro Q E q
  refine callWith_K S.kin hk ?_ (starEach_cons hs) (noStar_plain (noStar_tail hs))
  refine h ow ρ s S _ _ fun vs as σ₁ ow₁ ρ₁ h₁ tk₁ e₁ S₁ r₁ k₁ => ⟨S₁.kin, ?_⟩
  exact k₁ ow₁ ρ₁ { s with heap := h₁, toks := tk₁ } _ S₁ (ARs.append r₁ (S.ars e₁ rf)) _ _ fun v sv σ₂ ow₂ ρ₂ h₂ tk₂ e₂ S₂ r₂ k₂ => q v sv σ₂ ow₂ ρ₂ h₂ tk₂ (e₁.trans e₂) S₂ r₂ k₂
theorem JE_Call0 {x : Str} {px pos : Pos} (h : JE X (.Name x px) σ fun fv σ₁ => match fv with
    | .v (.ref f) => keepIn (tp.heap_1 X.w.params) (.ref f) = true ∧ JCall X (.ref f) [] σ₁ K
    | _ => False) : JE X (.Call (.Name x px) [] [] pos) σ K := by
  intro ow ρ s S Q E q
  refine Call_ (h ow ρ s S _ _ fun a sa σ₁ ow₁ ρ₁ h₁ tk₁ e₁ S₁ r₁ k₁ => ?_)
  cases r₁ with
  | c => exact k₁.elim
  | v r => cases r with
    | ref f => exact run_callWith0 (s := { s with heap := h₁, toks := tk₁ }) k₁.1 S₁ .nil k₁.2 _ _ fun v sv σ₂ ow₂ ρ₂ h₂ tk₂ e₂ S₂ r₂ k₂ => q v sv σ₂ ow₂ ρ₂ h₂ tk₂ (e₁.trans e₂) S₂ r₂ k₂
    | _ => exact k₁.elim
theorem JE_Call {x : Str} {px pos : Pos} {e : Expr} {args : List Expr} (hs : noStar (e :: args) = true) (h : JE X (.Name x px) σ fun fv σ₁ => match fv with
    | .v (.ref f) => keepIn (tp.heap_1 X.w.params) (.ref f) = true ∧ JL X pos (e :: args) σ₁ fun as σ₂ => JCall X (.ref f) as σ₂ K
    | _ => False) : JE X (.Call (.Name x px) (e :: args) [] pos) σ K := by
  intro ow ρ s S Q E q
  refine Call_ (h ow ρ s S _ _ fun a sa σ₁ ow₁ ρ₁ h₁ tk₁ e₁ S₁ r₁ k₁ => ?_)
  cases r₁ with
  | c => exact k₁.elim
  | v r => cases r with
    | ref f => exact run_callWith (s := { s with heap := h₁, toks := tk₁ }) hs k₁.1 S₁ .nil k₁.2 _ _ fun v sv σ₂ ow₂ ρ₂ h₂ tk₂ e₂ S₂ r₂ k₂ => q v sv σ₂ ow₂ ρ₂ h₂ tk₂ (e₁.trans e₂) S₂ r₂ k₂
    | _ => exact k₁.elim
def plains : List AV → Bool
  | [] => true
  | .v _ :: r => plains r
  | .c _ :: _ => false
theorem ARs.plain {P : Addr → Obj → Prop} {w : World} {ρ ρ' : List Addr} : ∀ {vs : List Value} {as : List AV}, ARs P w ρ vs as → plains as = true → ARs P w ρ' vs as
  | _, _, .nil, _ => .nil
  | _, _, .cons (.v h) r, e => .cons (.v h) (r.plain e)
  | _, _, .cons (.c h) r, e => by cases e
def callS (sp : Spec) (as : List AV) (σ : SS) (K : AV → SS → Prop) : Prop := match as with
  | .c i :: rest => Gd (plains rest) (match σ.cel[i]? with
    | some (.lst l) => sp (.c 0 :: rest) [.lst l] fun r cel' => match cel' with
      | [.lst l'] => K (.v r) ⟨σ.loc, σ.cel.set i (.lst l')⟩
      | _ => False
    | some (.inst C j) => Gd (!Nat.beq i j) (match σ.cel[j]? with
      | some (.idict fs) => sp (.c 0 :: rest) [.inst C 1, .idict fs] fun r cel' => match cel' with
        | [.inst C' j', .idict fs'] => Gd (Nat.beq C C' && Nat.beq j' 1) (K (.v r) ⟨σ.loc, σ.cel.set j (.idict fs')⟩)
        | _ => False
      | _ => False)
    | _ => False)
  | as => Gd (plains as) (sp as [] fun r cel' => match cel' with
    | [] => K (.v r) σ
    | _ => False)
theorem Cels.nil {P : Addr → Obj → Prop} {w : World} {h : Heap} : Cels P w [] h [] := ⟨rfl, fun i a o e _ => by cases e⟩
theorem SR.turn {X : Fx} {ow : Addr → Prop} {ρ : List Addr} {h h' : Heap} {σ : SS} {σc : List SObj} (O : X.Ok) (S : SR X ow ρ h σ) (ρ' : List Addr) (sub : ∀ a ∈ ρ', a ∈ ρ)
    (kp : ∀ b o, h.get? b = some o → b ∉ ρ' → h'.get? b = some o) (lv : ∀ b o, h.get? b = some o → ∃ o', h'.get? b = some o') (len : ρ.length = σc.length)
    (cel : ∀ (i : Nat) (a : Addr) (o : SObj), ρ[i]? = some a → σc[i]? = some o → ∃ ob, h'.get? a = some ob ∧ OR (Pz h' ow) X.w ρ ob o) : SR X ow ρ h' ⟨σ.loc, σc⟩ ∧ Ex X ow ρ h ow ρ h' := by
  obtain ⟨mf, ml, F, n, c1, c2, l⟩ := S.fr
  have hp : ∀ b o, Pz h ow b o → Pz h' ow b o := fun b o e => ⟨kp b o e.1 fun m => e.2 (S.off b (sub b m)).1, e.2⟩
  have nsk : ∀ {a : Addr} {m : Str → Option Value}, a ∉ ρ' → h.Ns a m → h'.Ns a m := fun na hn => by
    obtain ⟨o, es, ep, e, r⟩ := hn; exact ⟨o, es, ep, kp _ _ e na, r⟩
  refine ⟨⟨⟨mf, ml, ⟨nsk (fun m => (S.off _ (sub _ m)).2.2.1 rfl) F.ns, fun b o e => kp b o (F.keep b o e) fun m => no_get e (S.off b (sub b m)).2.1, F.above⟩, nsk (fun m => (S.off _ (sub _ m)).2.2.2 rfl) n, c1, c2, fun x sv e' => let ⟨v, e1, e2⟩ := l x sv e'; ⟨v, e1, e2.mono hp (pfx ρ)⟩⟩,
    len, cel, S.nd, S.off, S.owL, S.owl, fun a q => let ⟨o, e⟩ := S.low a q; lv a o e, S.var, fun a x e => hp a x (S.kf a x e)⟩, fun _ q => q, fun _ q => .inl q, pfx ρ, fun _ q => .inl q, fun b o e' n1 _ _ => kp b o e' fun m => n1 (sub b m), lv⟩
theorem JCall_of (O : X.Ok) {f : Addr} {D U : Nat} {sp : Spec} (hf : FnOk X.w f D U sp) (hD : D ≤ X.D) (hU : U ≤ X.U) {as : List AV} (h : callS sp as σ K) : JCall X (.ref f) as σ K := by
  intro ow ρ s vs S R Q E q
  have room := O.room
  have units := O.units
  have go := hf X O rfl (by omega) (by omega) ow ρ σ s S
  have keepO : ∀ {h' : Heap} {ρ' : List Addr}, (∀ a ∈ ρ', a ∈ ρ) → (∀ b o, s.heap.get? b = some o → b ∉ ρ' → h'.get? b = some o) → ∀ {i : Nat} {a : Addr} {o : SObj}, ρ[i]? = some a → σ.cel[i]? = some o → a ∉ ρ' → ∃ ob, h'.get? a = some ob ∧ OR (Pz h' ow) X.w ρ ob o := fun {h' ρ'} sub kp {i a o} e1 e2 na => by
    obtain ⟨ob, e3, e4⟩ := S.cel i a o e1 e2
    exact ⟨ob, kp a ob e3 na, e4.mono (fun b o e => ⟨kp b o e.1 fun m => e.2 (S.off b (sub b m)).1, e.2⟩) (pfx ρ)⟩
  have inj : ∀ {i j : Nat} {a : Addr}, ρ[i]? = some a → ρ[j]? = some a → i = j := fun {i j a} e1 e2 => by
    obtain ⟨l1, g1⟩ := List.getElem?_eq_some_iff.mp e1
    obtain ⟨l2, g2⟩ := List.getElem?_eq_some_iff.mp e2
    exact (List.getElem_inj S.nd).mp (g1.trans g2.symm)
  unfold callS at h
  split at h
  · rename_i i rest
    obtain ⟨g, h⟩ := h.out
    cases R with
    | cons r rs => cases r with
      | c hr =>
        rename_i vs a
        split at h
        · rename_i l hl
          obtain ⟨ob, e3, e4⟩ := S.cel i a _ hr hl
          have sub : ∀ b ∈ [a], b ∈ ρ := fun b m => by rw [List.mem_singleton.mp m]; exact List.mem_of_getElem? hr
          refine go [a] [.lst l] _ _ _ (by simp) sub ⟨rfl, fun k b o e1 e2 => ?_⟩ (.cons (.c rfl) (rs.plain g)) h Q E fun v r cel' h' tk' kp lv C rv k => ?_
          · cases k with
            | zero => cases e1; cases e2; exact ⟨ob, e3, by cases e4 with | lst r => exact .lst r⟩
            | succ k => cases e1
          · split at k
            · rename_i l'
              obtain ⟨ob', e5, e6⟩ := C.at' 0 a _ rfl rfl
              obtain ⟨S', ex⟩ := S.turn O (σc := σ.cel.set i (.lst l')) [a] sub kp lv (by rw [List.length_set]; exact S.len) fun j b o f1 f2 => by
                by_cases hj : i = j
                · subst hj
                  rw [hr] at f1; cases f1
                  rw [List.getElem?_set_self (List.getElem?_eq_some_iff.mp hl).1] at f2; cases f2
                  exact ⟨ob', e5, by cases e6 with | lst r => exact .lst r⟩
                · rw [List.getElem?_set_ne hj] at f2
                  exact keepO sub kp f1 f2 fun m => hj (inj hr (List.mem_singleton.mp m ▸ f1))
              exact q v _ _ ow ρ h' tk' ex S' (.v rv) k
            · exact k.elim
        · rename_i Cc j hl
          obtain ⟨g2, h⟩ := h.out
          have hij : i ≠ j := fun e => by subst e; rw [Nat.beq_refl] at g2; cases g2
          split at h
          · rename_i fs hj
            obtain ⟨ob, e3, e4⟩ := S.cel i a _ hr hl
            cases e4 with
            | inst hdx =>
              rename_i dx
              obtain ⟨ob2, e5, e6⟩ := S.cel j dx _ hdx hj
              have sub : ∀ b ∈ [a, dx], b ∈ ρ := fun b m => by
                rcases List.mem_cons.mp m with rfl | m
                · exact List.mem_of_getElem? hr
                · rw [List.mem_singleton.mp m]; exact List.mem_of_getElem? hdx
              have nad : a ≠ dx := fun e => hij (inj hr (e ▸ hdx))
              refine go [a, dx] [.inst Cc 1, .idict fs] _ _ _ (by simp [nad]) sub ⟨rfl, fun k b o e1 e2 => ?_⟩ (.cons (.c rfl) (rs.plain g)) h Q E fun v r cel' h' tk' kp lv C rv k => ?_
              · match k, e1, e2 with
                | 0, e1, e2 => cases e1; cases e2; exact ⟨_, e3, .inst rfl⟩
                | 1, e1, e2 => cases e1; cases e2; exact ⟨ob2, e5, by cases e6 with | idict r => exact .idict r⟩
                | k + 2, e1, e2 => cases e1
              · split at k
                · rename_i C' j' fs'
                  obtain ⟨g3, k'⟩ := k.out
                  obtain ⟨g3, g4⟩ := Bool.and_eq_true_iff.mp g3
                  obtain rfl := Nat.eq_of_beq_eq_true g3
                  obtain rfl := Nat.eq_of_beq_eq_true g4
                  obtain ⟨ob0, e7, e8⟩ := C.at' 0 a _ rfl rfl
                  obtain ⟨ob1, e9, e10⟩ := C.at' 1 dx _ rfl rfl
                  obtain ⟨S', ex⟩ := S.turn O (σc := σ.cel.set j (.idict fs')) [a, dx] sub kp lv (by rw [List.length_set]; exact S.len) fun k b o f1 f2 => by
                    by_cases hj' : j = k
                    · subst hj'
                      rw [hdx] at f1; cases f1
                      rw [List.getElem?_set_self (List.getElem?_eq_some_iff.mp hj).1] at f2; cases f2
                      exact ⟨ob1, e9, by cases e10 with | idict r => exact .idict r⟩
                    · rw [List.getElem?_set_ne hj'] at f2
                      by_cases hi' : i = k
                      · subst hi'
                        rw [hr] at f1; cases f1
                        rw [hl] at f2; cases f2
                        exact ⟨ob0, e7, by cases e8 with | inst hh => cases hh; exact .inst hdx⟩
                      · refine keepO sub kp f1 f2 fun m => ?_
                        rcases List.mem_cons.mp m with rfl | m
                        · exact hi' (inj hr f1)
                        · exact hj' (inj hdx (List.mem_singleton.mp m ▸ f1))
                  exact q v _ _ ow ρ h' tk' ex S' (.v rv) k'
                · exact k.elim
          · exact h.elim
        · exact h.elim
  · obtain ⟨g, h⟩ := h.out
    refine go [] [] vs as _ List.nodup_nil (fun _ m => absurd m List.not_mem_nil) .nil (R.plain g) h Q E fun v r cel' h' tk' kp lv C rv k => ?_
    split at k
    · obtain ⟨S', ex⟩ := S.turn O (σc := σ.cel) [] (fun _ m => absurd m List.not_mem_nil) kp lv S.len fun i a o e1 e2 => keepO (fun _ m => absurd m List.not_mem_nil) kp e1 e2 (fun m => absurd m List.not_mem_nil)
      exact q v _ _ ow ρ h' tk' ex S' (.v rv) k
    · exact k.elim
end
end
section
section
variable {X : Fx} {σ : SS} {K : AV → SS → Prop}
def smB (a : Int) : Bool := Nat.ble a.natAbs 9223372036854775807
theorem log2_63 {n : Nat} (h : n ≤ 9223372036854775807) : n.log2 ≤ 62 := by
  by_cases h0 : n = 0
  · subst h0; decide
  · exact Nat.le_of_lt_succ ((Nat.log2_lt h0).mpr (Nat.lt_of_le_of_lt h (by decide)))
theorem smB_bits {a : Int} (h : smB a = true) : Builtin.Int.intBits a ≤ 64 := by
  have h := log2_63 (Nat.le_of_ble_eq_true h)
  unfold Builtin.Int.intBits
  split <;> omega
def binI (op : Operator) (x y : Int) (k : SV → Prop) : Prop := match op with
  | .Add => k (.int (x + y))
  | .Sub => k (.int (x - y))
  | .Mult => Gd (smB y || smB x) (k (.int (x * y)))
  | .Mod => Gd (!decide (y = 0)) (k (.int (x.fmod y)))
  | .FloorDiv => Gd (!decide (y = 0) && smB y) (k (.int (x.fdiv y)))
  | .LShift => Gd (decide (0 ≤ y) && decide (y ≤ 1000) && smB x) (k (.int (x * 2 ^ y.toNat)))
  | .RShift => Gd (decide (0 ≤ y)) (k (.int (x.fdiv (2 ^ y.toNat))))
  | .BitAnd => k (.int (Builtin.bitAnd x y))
  | .BitOr => k (.int (Builtin.bitOr x y))
  | .Pow => Gd (decide (0 ≤ y) && decide (y ≤ 1000) && smB x) (k (.int (x ^ y.toNat)))
  | _ => False
def binD (op : Operator) (a b : AV) (k : SV → Prop) : Prop := match a with
  | .v (.int x) => (match b with | .v (.int y) => binI op x y k | _ => False)
  | .v (.bytes x) => (match op with | .Add => (match b with | .v (.bytes y) => Gd (Nat.ble (x.length + y.length) 16777216) (k (.bytes (x ++ y))) | _ => False) | _ => False)
  | .v (.lst x) => (match op with | .Add => (match b with | .v (.lst y) => Gd (Nat.ble (x.length + y.length) 1000) (k (.lst (x ++ y))) | _ => False) | _ => False)
  | _ => False
theorem VR.int_inv {P : Addr → Obj → Prop} {w : World} {v : Value} {i : Int} (h : VR P w v (.int i)) : ∃ t, v = .int i t := by cases h; exact ⟨_, rfl⟩
theorem VR.str_inv {P : Addr → Obj → Prop} {w : World} {v : Value} {i : Str} (h : VR P w v (.str i)) : ∃ t, v = .str i t := by cases h; exact ⟨_, rfl⟩
theorem VR.bytes_inv {P : Addr → Obj → Prop} {w : World} {v : Value} {i : List UInt8} (h : VR P w v (.bytes i)) : ∃ t, v = .bytes ⟨i⟩ t := by cases h; exact ⟨_, rfl⟩
theorem AR.inv {P : Addr → Obj → Prop} {w : World} {ρ : List Addr} {v : Value} {i : SV} (h : AR P w ρ v (.v i)) : VR P w v i := by cases h with | v h => exact h
theorem lst_of {ow : Addr → Prop} {w : World} {h : Heap} {v : Value} {l : List SV} (r : VR (Pz h ow) w v (.lst l)) : ∃ a vs n, v = .ref a ∧ h.get? a = some (listOf vs.toArray n) ∧ VRs (Pz h ow) w vs l := by
  cases r with | lst p r => exact ⟨_, _, _, rfl, p.1, r⟩
theorem tup_of {ow : Addr → Prop} {w : World} {h : Heap} {v : Value} {l : List SV} (r : VR (Pz h ow) w v (.tup l)) : ∃ a vs n, v = .ref a ∧ h.get? a = some (tupObj vs n) ∧ VRs (Pz h ow) w vs l := by
  cases r with | tup p r => exact ⟨_, _, _, rfl, p.1, r⟩
theorem binI_ok {op : Operator} {x y : Int} (O : X.Ok) (h : binI op x y fun v => K (.v v) σ) : J2 X (binaryOp op) (.v (.int x)) (.v (.int y)) σ K := by
  intro ow ρ s va vb S ra rb Q E q
  obtain ⟨t, rfl⟩ := ra.inv.int_inv
  obtain ⟨u, rfl⟩ := rb.inv.int_inv
  have done : ∀ {i : Int} {k : Tok}, K (.v (.int i)) σ → Q (.int i k) { s with toks := s.toks + 1 } := fun k => q _ _ σ ow ρ s.heap (s.toks + 1) .refl S (.v (.int _ _)) k
  unfold binI at h
  split at h
  · exact add_int (done h)
  · exact sub_int (done h)
  · obtain ⟨g, h⟩ := h.out
    refine mul_int (done h) ?_
    rcases Bool.or_eq_true_iff.mp g with g | g
    · exact IntMulOk.of_right (smB_bits g)
    · exact IntMulOk.of_left (smB_bits g)
  · obtain ⟨g, h⟩ := h.out
    exact mod_int_or rfl (fun e => absurd e (by simpa using g)) fun _ => done h
  · obtain ⟨g, h⟩ := h.out
    obtain ⟨g1, g2⟩ := Bool.and_eq_true_iff.mp g
    refine floordiv_int_or rfl (fun e => absurd e (by simpa using g1)) (fun _ => done h) fun _ => .inl ?_
    have h2 := log2_63 (Nat.le_of_ble_eq_true g2)
    unfold Builtin.divisionGoesByPylong
    have : (if (y == 0) = true then 0 else y.natAbs.log2 / 30 + 1) ≤ 300 := by split <;> omega
    simp only [Bool.and_eq_false_iff]
    left
    exact decide_eq_false (by omega)
  · obtain ⟨g, h⟩ := h.out
    obtain ⟨g, g3⟩ := Bool.and_eq_true_iff.mp g
    obtain ⟨g1, g2⟩ := Bool.and_eq_true_iff.mp g
    have g3 := Nat.le_of_ble_eq_true g3
    have g2 := of_decide_eq_true g2
    exact lshift_int_small (of_decide_eq_true g1) (by omega) (by omega) (done h)
  · obtain ⟨g, h⟩ := h.out
    exact rshift_int (of_decide_eq_true g) (done h)
  · exact and_int (done h)
  · exact or_int (done h)
  · obtain ⟨g, h⟩ := h.out
    obtain ⟨g, g3⟩ := Bool.and_eq_true_iff.mp g
    obtain ⟨g1, g2⟩ := Bool.and_eq_true_iff.mp g
    have g3 := smB_bits g3
    have g1 := of_decide_eq_true g1
    have g2 := of_decide_eq_true g2
    refine pow_int g1 ?_ (done h)
    have : (Builtin.Int.intBits x : Int) * y ≤ 64 * 1000 := Int.mul_le_mul (by omega) g2 g1 (by omega)
    omega
  · exact h.elim
theorem run_push_list {ow : Addr → Prop} {ρ : List Addr} {s : Shared} {vs : List Value} {l : List SV} (S : SR X ow ρ s.heap σ) (r : VRs (Pz s.heap ow) X.w vs l) (k : K (.v (.lst l)) σ) {Q : Value → Shared → Prop} {tk : Nat}
    (q : ∀ (a : Value) (b : AV) (σ' : SS) (ow' : Addr → Prop) (ρ' : List Addr) (h' : Heap) (tk' : Nat), Ex X ow ρ s.heap ow' ρ' h' → SR X ow' ρ' h' σ' → RV X ow' ρ' h' a b → K b σ' → Q a { s with heap := h', toks := tk' }) :
    Q (.ref s.heap.objs.size) { s with heap := s.heap.push (listOf vs.toArray 0), toks := tk } :=
  q _ _ σ ow ρ _ tk (.push _) (S.push _) (.v (.lst (S.fresh (listOf vs.toArray 0) rfl) (S.vrs (.push _) r))) k
theorem binD_ok {op : Operator} {a b : AV} (O : X.Ok) (h : binD op a b fun v => K (.v v) σ) : J2 X (binaryOp op) a b σ K := by
  unfold binD at h
  split at h
  · split at h
    · exact binI_ok O h
    · exact h.elim
  · rename_i x
    split at h
    · split at h
      · rename_i y
        intro ow ρ s va vb S ra rb Q E q
        obtain ⟨t, rfl⟩ := ra.inv.bytes_inv
        obtain ⟨u, rfl⟩ := rb.inv.bytes_inv
        obtain ⟨g, h⟩ := h.out
        refine KBy.add_bytes (by simpa using Nat.le_of_ble_eq_true g) fun t' k => ?_
        have e : (⟨x⟩ : Array UInt8) ++ ⟨y⟩ = ⟨x ++ y⟩ := by simp
        rw [e]
        exact q _ _ σ ow ρ s.heap k .refl S (.v (.bytes _ _)) h
      · exact h.elim
    · exact h.elim
  · rename_i x
    split at h
    · split at h
      · rename_i y
        obtain ⟨g, h⟩ := h.out
        intro ow ρ s va vb S ra rb Q E q
        obtain ⟨a, vs, n, rfl, ha, r1⟩ := lst_of ra.inv
        obtain ⟨b, ws, m, rfl, hb, r2⟩ := lst_of rb.inv
        have g := Nat.le_of_ble_eq_true g
        refine P.add_list ha hb ?_ (by rw [List.size_toArray, List.size_toArray, r1.length, r2.length]; exact Nat.le_trans g (by decide))
        have e : vs.toArray ++ ws.toArray = (vs ++ ws).toArray := by simp
        rw [e]
        exact run_push_list S (r1.append r2) h q
      · exact h.elim
    · exact h.elim
  · exact h.elim
theorem ans {ow : Addr → Prop} {ρ : List Addr} {s : Shared} (S : SR X ow ρ s.heap σ) {Q : Value → Shared → Prop} {b : Bool} {tk : Nat} (k : K (.v (.bool b)) σ)
    (q : ∀ (a : Value) (b : AV) (σ' : SS) (ow' : Addr → Prop) (ρ' : List Addr) (h' : Heap) (tk' : Nat), Ex X ow ρ s.heap ow' ρ' h' → SR X ow' ρ' h' σ' → RV X ow' ρ' h' a b → K b σ' → Q a { s with heap := h', toks := tk' }) : Q (.bool b) { s with toks := tk } :=
  q _ _ σ ow ρ s.heap tk .refl S (.v (.bool b)) k
def cmpI (op : CmpOp) (x y : Int) (k : SV → Prop) : Prop := match op with
  | .Eq => k (.bool (x == y))
  | .NotEq => k (.bool (x != y))
  | .Lt => k (.bool (decide (x < y)))
  | .LtE => k (.bool (decide (x ≤ y)))
  | .Gt => k (.bool (decide (y < x)))
  | .GtE => k (.bool (decide (y ≤ x)))
  | _ => False
noncomputable def strAny (x : Str) : List SV → Option Bool
  | [] => some false
  | .str y :: r => (match Fast.sEq y x with | true => (strAny x r).map fun _ => true | false => strAny x r)
  | _ => none
def intAny (x : Int) : List SV → Option Bool
  | [] => some false
  | .int y :: r => (match decide (y = x) with | true => (intAny x r).map fun _ => true | false => intAny x r)
  | _ => none
noncomputable def dlkS (x : Str) : List (SV × SV) → Option (Option SV)
  | [] => some none
  | (.str y, v) :: r => (match dlkS x r with | some q => (match Fast.sEq y x with | true => some (some v) | false => some q) | none => none)
  | _ => none
def dlkI (x : Int) : List (SV × SV) → Option (Option SV)
  | [] => some none
  | (.int y, v) :: r => (match dlkI x r with | some q => (match decide (y = x) with | true => some (some v) | false => some q) | none => none)
  | _ => none
def sayB (o : Option Bool) (f : Bool → Bool) (k : SV → Prop) : Prop := match o with
  | some b => k (.bool (f b))
  | none => False
def isNoneB : AV → Bool
  | .v .none => true
  | _ => false
def neg1 (n : Bool) (b : Bool) : Bool := match n with | true => !b | false => b
noncomputable def inD (n : Bool) (a : SV) (b : SV) (k : SV → Prop) : Prop := match b with
  | .tup l => (match a with | .str x => sayB (strAny x l) (neg1 n) k | .int x => sayB (intAny x l) (neg1 n) k | _ => False)
  | .dic l => (match a with | .str x => sayB ((dlkS x l).map Option.isSome) (neg1 n) k | .int x => sayB ((dlkI x l).map Option.isSome) (neg1 n) k | _ => False)
  | .str y => (match a with | .str x => k (.bool (neg1 n (!(Builtin.Str.occurrences y x 0 y.length 1).isEmpty))) | _ => False)
  | _ => False
theorem strAny_ok {P : Addr → Obj → Prop} {w : World} {x : Str} : ∀ {vs : List Value} {l : List SV} {b : Bool}, VRs P w vs l → strAny x l = some b → ∃ ys, StrsAre vs ys ∧ ys.any (· == x) = b
  | _, _, b, .nil, e => by cases e; exact ⟨[], .nil, rfl⟩
  | _, d :: ds, b, .cons h r, e => by
    unfold strAny at e
    cases h <;> try (cases e)
    rename_i y t
    dsimp only at e
    cases q : strAny x ds with
    | none => rw [q] at e; cases hq : Fast.sEq y x <;> rw [hq] at e <;> cases e
    | some b' =>
      obtain ⟨ys, h1, h2⟩ := strAny_ok r q
      rw [q] at e
      refine ⟨y :: ys, .cons y t h1, ?_⟩
      rw [List.any_cons, h2]
      cases hq : Fast.sEq y x <;> rw [hq] at e <;> cases e
      · have : (y == x) = false := beq_eq_false_iff_ne.mpr fun e => by rw [e, sEq_self] at hq; cases hq
        rw [this]; rfl
      · rw [Fast.sEq_iff.mp hq, beq_self_eq_true]; rfl
theorem intAny_ok {P : Addr → Obj → Prop} {w : World} {x : Int} : ∀ {vs : List Value} {l : List SV} {b : Bool}, VRs P w vs l → intAny x l = some b → ∃ ys, IntsAre vs ys ∧ ys.any (· == x) = b
  | _, _, b, .nil, e => by cases e; exact ⟨[], .nil, rfl⟩
  | _, d :: ds, b, .cons h r, e => by
    unfold intAny at e
    cases h <;> try (cases e)
    rename_i y t
    dsimp only at e
    cases q : intAny x ds with
    | none => rw [q] at e; cases hq : decide (y = x) <;> rw [hq] at e <;> cases e
    | some b' =>
      obtain ⟨ys, h1, h2⟩ := intAny_ok r q
      rw [q] at e
      refine ⟨y :: ys, .cons y t h1, ?_⟩
      rw [List.any_cons, h2]
      cases hq : decide (y = x) <;> rw [hq] at e <;> cases e
      · have : (y == x) = false := beq_eq_false_iff_ne.mpr (of_decide_eq_false hq)
        rw [this]; rfl
      · rw [of_decide_eq_true hq, beq_self_eq_true]; rfl
def DFound (P : Addr → Obj → Prop) (w : World) (q : Option SV) (o : Option Value) : Prop := match q with
  | some d => ∃ v, o = some v ∧ VR P w v d
  | none => o = none
theorem DRs.strs {P : Addr → Obj → Prop} {w : World} {x : Str} : ∀ {es : List DictEntry} {l : List (SV × SV)} {q : Option SV}, DRs P w es l → dlkS x l = some q →
    (∀ e ∈ es, ∃ k, (strKind lawP w).is k e.key = true ∧ e.hash = (strKind lawP w).hash k) ∧ DFound P w q (findBy Value.isStrOf es.toArray x)
  | _, _, q, .nil, e => by cases e; exact ⟨fun e m => (nomatch m), rfl⟩
  | e₀ :: es, (k, d) :: ds, q, .cons hk hv r, e => by
    unfold dlkS at e
    cases hk with
    | int => cases e
    | str h1 h2 =>
      rename_i y t
      dsimp only at e
      cases q1 : dlkS x ds with
      | none => rw [q1] at e; cases e
      | some q' =>
        obtain ⟨i1, i2⟩ := DRs.strs r q1
        rw [q1] at e
        refine ⟨fun e' m => ?_, ?_⟩
        · rcases List.mem_cons.mp m with rfl | m
          · exact ⟨y, by rw [h1]; exact strKind_is _ _ _ _, h2⟩
          · exact i1 e' m
        · have ef : findBy Value.isStrOf (e₀ :: es).toArray x = if Value.isStrOf x e₀.key = true then some e₀.val else findBy Value.isStrOf es.toArray x := by
            unfold findBy
            rw [List.find?_toArray, List.find?_toArray, List.find?_cons]
            cases Value.isStrOf x e₀.key <;> rfl
          rw [ef, h1]
          show DFound P w q (if (y == x) = true then some e₀.val else findBy Value.isStrOf es.toArray x)
          cases hq : Fast.sEq y x <;> rw [hq] at e <;> cases e
          · have : (y == x) = false := beq_eq_false_iff_ne.mpr fun e => by rw [e, sEq_self] at hq; cases hq
            rw [this]; exact i2
          · rw [Fast.sEq_iff.mp hq, beq_self_eq_true, if_pos rfl]; exact ⟨_, rfl, hv⟩
theorem DRs.ints {P : Addr → Obj → Prop} {w : World} {x : Int} : ∀ {es : List DictEntry} {l : List (SV × SV)} {q : Option SV}, DRs P w es l → dlkI x l = some q →
    (∀ e ∈ es, ∃ k, (intKind lawP w).is k e.key = true ∧ e.hash = (intKind lawP w).hash k) ∧ DFound P w q (findBy Value.isInt es.toArray x)
  | _, _, q, .nil, e => by cases e; exact ⟨fun e m => (nomatch m), rfl⟩
  | e₀ :: es, (k, d) :: ds, q, .cons hk hv r, e => by
    unfold dlkI at e
    cases hk with
    | str => cases e
    | int h1 h2 =>
      rename_i y t
      dsimp only at e
      cases q1 : dlkI x ds with
      | none => rw [q1] at e; cases e
      | some q' =>
        obtain ⟨i1, i2⟩ := DRs.ints r q1
        rw [q1] at e
        refine ⟨fun e' m => ?_, ?_⟩
        · rcases List.mem_cons.mp m with rfl | m
          · exact ⟨y, by rw [h1]; exact intKind_is _ _ _ _, h2⟩
          · exact i1 e' m
        · have ef : findBy Value.isInt (e₀ :: es).toArray x = if Value.isInt x e₀.key = true then some e₀.val else findBy Value.isInt es.toArray x := by
            unfold findBy
            rw [List.find?_toArray, List.find?_toArray, List.find?_cons]
            cases Value.isInt x e₀.key <;> rfl
          rw [ef, h1]
          show DFound P w q (if (y == x) = true then some e₀.val else findBy Value.isInt es.toArray x)
          cases hq : decide (y = x) <;> rw [hq] at e <;> cases e
          · have : (y == x) = false := beq_eq_false_iff_ne.mpr (of_decide_eq_false hq)
            rw [this]; exact i2
          · rw [of_decide_eq_true hq, beq_self_eq_true, if_pos rfl]; exact ⟨_, rfl, hv⟩
theorem mapS {h : Heap} {w : World} {a : Addr} {es : List DictEntry} {n : Nat} (ha : h.get? a = some (dictOf es n)) (hk : ∀ e ∈ es, ∃ k, (strKind lawP w).is k e.key = true ∧ e.hash = (strKind lawP w).hash k) : h.MapOf (strKind lawP w) a (fun k => findBy Value.isStrOf es.toArray k) :=
  ⟨_, es.toArray, n, ha, ⟨rfl, rfl, rfl⟩, rfl, fun e he => hk e (by simpa using he), fun _ => rfl⟩
theorem mapI {h : Heap} {w : World} {a : Addr} {es : List DictEntry} {n : Nat} (ha : h.get? a = some (dictOf es n)) (hk : ∀ e ∈ es, ∃ k, (intKind lawP w).is k e.key = true ∧ e.hash = (intKind lawP w).hash k) : h.MapOf (intKind lawP w) a (fun k => findBy Value.isInt es.toArray k) :=
  ⟨_, es.toArray, n, ha, ⟨rfl, rfl, rfl⟩, rfl, fun e he => hk e (by simpa using he), fun _ => rfl⟩
end
end
section
section
variable {X : Fx} {σ : SS} {K : AV → SS → Prop}
def eqOk : Nat → SV → Bool
  | _, .none => true
  | _, .bool _ => true
  | _, .int _ => true
  | _, .str _ => true
  | _, .bytes _ => true
  | n + 1, .tup l => l.all (eqOk n)
  | n + 1, .lst l => l.all (eqOk n)
  | _, _ => false
theorem VRs.at {P : Addr → Obj → Prop} {w : World} {vs : List Value} {l : List SV} (r : VRs P w vs l) {j : Nat} (h : j < vs.length) : ∃ d, l[j]? = some d ∧ VR P w vs[j] d := r.get' (List.getElem?_eq_getElem h)
theorem isList_of {h : Heap} {a : Addr} {vs : List Value} {n : Nat} (e : h.get? a = some (listOf vs.toArray n)) : h.IsList a vs.toArray := ⟨_, e, rfl, n, rfl⟩
theorem isTup_of {h : Heap} {a : Addr} {vs : List Value} {n : Nat} (e : h.get? a = some (tupObj vs n)) : h.IsTuple a vs.toArray := ⟨_, e, rfl, n, rfl⟩
theorem isTup_of' {h : Heap} {a : Addr} {vs : List Value} {n : Nat} (e : h.get? a = some (tupObj vs n)) : IsTup h a vs.toArray := ⟨_, e, rfl, n, rfl⟩
theorem dic_of {ow : Addr → Prop} {w : World} {h : Heap} {v : Value} {l : List (SV × SV)} (r : VR (Pz h ow) w v (.dic l)) : ∃ a es n, v = .ref a ∧ h.get? a = some (dictOf es n) ∧ (a == sysModules) = false ∧ DRs (Pz h ow) w es l := by
  cases r with | dic p lo r => exact ⟨_, _, _, rfl, p.1, lo, r⟩
theorem range_all (n : Nat) : (List.range n).all (fun _ => true) = true := by simp
section
open SeqAt
theorem eqBytes {A : Around} {s : Shared} (l : List UInt8) (t u : Tok) : EqAt A s (.bytes ⟨l⟩ t) (.bytes ⟨l⟩ u) true := fun prog w E Q h => by
  unfold eqBool
  refine wpAny_holding ?_
  refine wpAny_ite_split (fun _ => ?_) (fun hab => ?_)
  · exact wpAny_bind (wpAny_rule (wpAny_pure h))
  · refine wpAny_bind (richCompare_gives (op := .Eq) (typeIs_bytes s ⟨l⟩ t) (typeIs_bytes s ⟨l⟩ u) FB.slot_bytes_eq FB.entry_bytes_eq (FB.args_bytes_eq_2 _ _) (gives_bytes_eq _ _ t u) (fun e => nomatch e) (wpAny_truthy_bool ?_))
    rw [beq_self_eq_true]; exact h
theorem eqSame {ow : Addr → Prop} {w : World} {s : Shared} : ∀ (n : Nat) {A : Around} {a b : Value} {d : SV}, eqOk n d = true → A.units + n < cLine → VR (Pz s.heap ow) w a d → VR (Pz s.heap ow) w b d → EqAt A s a b true := by
  have base : ∀ {A : Around} {a b : Value} {d : SV}, (∀ l, d ≠ .tup l) → (∀ l, d ≠ .lst l) → (∀ n, eqOk n d = true → (VR (Pz s.heap ow) w a d → VR (Pz s.heap ow) w b d → EqAt A s a b true)) := by
    intro A a b d h1 h2 n ok r1 r2
    cases d with
    | none => cases r1; cases r2; exact EqAt.same _
    | bool c => cases r1; cases r2; exact EqAt.same _
    | int i =>
      obtain ⟨t, rfl⟩ := r1.int_inv; obtain ⟨u, rfl⟩ := r2.int_inv
      have := EqAt.int_int (A := A) (s := s) i t i u; rw [beq_self_eq_true] at this; exact this
    | str x => cases r1; cases r2; exact fun prog w' E Q h => wpAny_eqBool_str (by rw [decide_eq_true rfl]; exact h)
    | bytes x => cases r1; cases r2; exact eqBytes _ _ _
    | tup l => exact absurd rfl (h1 l)
    | lst l => exact absurd rfl (h2 l)
    | _ => cases n <;> cases ok
  intro n
  induction n with
  | zero =>
    intro A a b d ok hu r1 r2
    refine base (fun l e => ?_) (fun l e => ?_) 0 ok r1 r2 <;> (subst e; cases ok)
  | succ n ih =>
    intro A a b d ok hu r1 r2
    by_cases ht : ∃ l, d = .tup l
    · obtain ⟨l, rfl⟩ := ht
      obtain ⟨x, vs, k, rfl, e1, q1⟩ := tup_of r1
      obtain ⟨y, ws, m, rfl, e2, q2⟩ := tup_of r2
      by_cases hxy : x = y
      · subst hxy; exact EqAt.same _
      have hl : vs.length = ws.length := q1.length.trans q2.length.symm
      refine EqAt.of_refs hxy ?_
      have := RcAt.tuples (e := fun _ => true) (A := A) (isTup_of e1) (isTup_of e2) (by omega) fun j h1 h2 => by
        have h1 : j < vs.length := by simpa using h1
        have h2 : j < ws.length := by simpa using h2
        obtain ⟨d1, f1, g1⟩ := q1.at h1
        obtain ⟨d2, f2, g2⟩ := q2.at h2
        rw [f1] at f2; cases f2
        exact ih (List.all_eq_true.mp ok d1 (List.mem_of_getElem? f1)) (by show A.units + 1 + n < cLine; omega) g1 g2
      rw [range_all] at this
      simpa [hl] using this
    by_cases hl : ∃ l, d = .lst l
    · obtain ⟨l, rfl⟩ := hl
      obtain ⟨x, vs, k, rfl, e1, q1⟩ := lst_of r1
      obtain ⟨y, ws, m, rfl, e2, q2⟩ := lst_of r2
      by_cases hxy : x = y
      · subst hxy; exact EqAt.same _
      have hl : vs.length = ws.length := q1.length.trans q2.length.symm
      refine EqAt.of_refs hxy ?_
      have := RcAt.lists (e := fun _ => true) (A := A) (isList_of e1) (isList_of e2) (by simpa using hl) (by omega) fun j h1 h2 => by
        have h1 : j < vs.length := by simpa using h1
        have h2 : j < ws.length := by simpa using h2
        obtain ⟨d1, f1, g1⟩ := q1.at h1
        obtain ⟨d2, f2, g2⟩ := q2.at h2
        rw [f1] at f2; cases f2
        exact ih (List.all_eq_true.mp ok d1 (List.mem_of_getElem? f1)) (by show A.units + 1 + n < cLine; omega) g1 g2
      rw [range_all] at this
      exact this
    · exact base (fun l e => ht ⟨l, e⟩) (fun l e => hl ⟨l, e⟩) (n + 1) ok r1 r2
theorem sameItems {ow : Addr → Prop} {w : World} {s : Shared} {A : Around} {vs ws : List Value} {l : List SV} (n : Nat) (ok : l.all (eqOk n) = true) (hu : A.units + 1 + n < cLine) (q1 : VRs (Pz s.heap ow) w vs l) (q2 : VRs (Pz s.heap ow) w ws l) :
    ∀ j (h1 : j < vs.toArray.size) (h2 : j < ws.toArray.size), EqAt A.in1 s vs.toArray[j] ws.toArray[j] true := fun j h1 h2 => by
  have h1 : j < vs.length := by simpa using h1
  have h2 : j < ws.length := by simpa using h2
  obtain ⟨d1, f1, g1⟩ := q1.at h1
  obtain ⟨d2, f2, g2⟩ := q2.at h2
  rw [f1] at f2; cases f2
  exact eqSame n (List.all_eq_true.mp ok d1 (List.mem_of_getElem? f1)) hu g1 g2
end
def lstEq (x y : List SV) (k : Bool → Prop) : Prop := (x = y ∧ x.all (eqOk 6) = true ∧ k true) ∨ (x.length ≠ y.length ∧ k false)
noncomputable def eqD (op : CmpOp) (a b : SV) (k : SV → Prop) : Prop := match a with
  | .int x => (match b with | .int y => cmpI op x y k | _ => False)
  | .str x => (match b with | .str y => (match op with | .Eq => k (.bool (Fast.sEq x y)) | .NotEq => k (.bool (!Fast.sEq x y)) | _ => False) | _ => False)
  | .bool x => (match b with | .bool y => (match op with | .Eq => k (.bool (x == y)) | .NotEq => k (.bool (!(x == y))) | _ => False) | _ => False)
  | .bytes x => (match b with | .bytes y => (match op with | .Eq => k (.bool (x == y)) | .NotEq => k (.bool (x != y)) | _ => False) | _ => False)
  | .lst x => (match b with | .lst y => (match op with | .Eq => lstEq x y fun c => k (.bool c) | .NotEq => lstEq x y fun c => k (.bool (!c)) | _ => False) | _ => False)
  | _ => False
noncomputable def cmpD (op : CmpOp) (a b : AV) (k : SV → Prop) : Prop := match op with
  | .Is => (match b with | .v .none => k (.bool (isNoneB a)) | _ => False)
  | .IsNot => (match b with | .v .none => k (.bool (!isNoneB a)) | _ => False)
  | .In => (match b with | .v b => (match a with | .v a => inD false a b k | _ => False) | _ => False)
  | .NotIn => (match b with | .v b => (match a with | .v a => inD true a b k | _ => False) | _ => False)
  | op => (match a with | .v a => (match b with | .v b => eqD op a b k | _ => False) | _ => False)
theorem str_beq (x y : Str) : (x == y) = Fast.sEq x y := by
  by_cases h : x = y
  · subst h; rw [beq_self_eq_true, sEq_self]
  · rw [beq_eq_false_iff_ne.mpr h, sEq_false h]
theorem inD_ok {op : CmpOp} {n : Bool} {a b : SV} (O : X.Ok) (hop : op = match n with | true => .NotIn | false => .In) (h : inD n a b fun v => K (.v v) σ) : J2 X (compareOp op) (.v a) (.v b) σ K := by
  intro ow ρ s va vb S ra rb Q E q
  replace ra := ra.inv
  replace rb := rb.inv
  unfold inD at h
  split at h
  · rename_i l
    obtain ⟨t, vs, m, rfl, e1, q1⟩ := tup_of rb
    split at h
    · rename_i x
      obtain ⟨u, rfl⟩ := ra.str_inv
      unfold sayB at h
      split at h
      · rename_i b e
        obtain ⟨ys, f1, f2⟩ := strAny_ok q1 e
        cases n <;> (dsimp only at hop; subst hop)
        · exact in_tuple_strs (isTup_of' e1) (by simpa using f1) (by rw [f2]; exact ans S h q)
        · exact notin_tuple_strs (isTup_of' e1) (by simpa using f1) (by rw [f2]; exact ans S h q)
      · exact h.elim
    · rename_i x
      obtain ⟨u, rfl⟩ := ra.int_inv
      unfold sayB at h
      split at h
      · rename_i b e
        obtain ⟨ys, f1, f2⟩ := intAny_ok q1 e
        cases n <;> (dsimp only at hop; subst hop)
        · exact in_tuple_ints (isTup_of' e1) (by simpa using f1) (by rw [f2]; exact ans S h q)
        · exact notin_tuple_ints (isTup_of' e1) (by simpa using f1) (by rw [f2]; exact ans S h q)
      · exact h.elim
    · exact h.elim
  · rename_i l
    obtain ⟨d, es, m, rfl, e1, lo, dr⟩ := dic_of rb
    split at h
    · rename_i x
      obtain ⟨u, rfl⟩ := ra.str_inv
      unfold sayB at h
      split at h
      · rename_i b e
        cases q1 : dlkS x l with
        | none => rw [q1] at e; cases e
        | some o =>
          rw [q1] at e; cases e
          obtain ⟨hk, hf⟩ := dr.strs q1
          have hs : (findBy Value.isStrOf es.toArray x).isSome = o.isSome := by
            unfold DFound at hf
            split at hf
            · obtain ⟨v, e, _⟩ := hf; rw [e]; rfl
            · rw [hf]; rfl
          cases n <;> (dsimp only at hop; subst hop)
          · exact wpAny_in_of (strKind_is _ _ x u) lo (mapS e1 hk) (by rw [hs]; exact ans S h q)
          · exact wpAny_notIn_of (strKind_is _ _ x u) lo (mapS e1 hk) (by rw [hs]; exact ans S h q)
      · exact h.elim
    · rename_i x
      obtain ⟨u, rfl⟩ := ra.int_inv
      unfold sayB at h
      split at h
      · rename_i b e
        cases q1 : dlkI x l with
        | none => rw [q1] at e; cases e
        | some o =>
          rw [q1] at e; cases e
          obtain ⟨hk, hf⟩ := dr.ints q1
          have hs : (findBy Value.isInt es.toArray x).isSome = o.isSome := by
            unfold DFound at hf
            split at hf
            · obtain ⟨v, e, _⟩ := hf; rw [e]; rfl
            · rw [hf]; rfl
          cases n <;> (dsimp only at hop; subst hop)
          · exact wpAny_in_of (intKind_is _ _ x u) lo (mapI e1 hk) (by rw [hs]; exact ans S h q)
          · exact wpAny_notIn_of (intKind_is _ _ x u) lo (mapI e1 hk) (by rw [hs]; exact ans S h q)
      · exact h.elim
    · exact h.elim
  · rename_i y
    obtain ⟨u, rfl⟩ := rb.str_inv
    split at h
    · rename_i x
      obtain ⟨t, rfl⟩ := ra.str_inv
      cases n <;> (dsimp only at hop; subst hop)
      · exact PyProof.Rows.in_str (ans S h q)
      · exact PyProof.Rows.notIn_str (ans S h q)
    · exact h.elim
  · exact h.elim
open SeqAt in
theorem eqD_ok {op : CmpOp} {a b : SV} (O : X.Ok) (hU : 10 ≤ X.U) (h : eqD op a b fun v => K (.v v) σ) : J2 X (compareOp op) (.v a) (.v b) σ K := by
  intro ow ρ s va vb S ra rb Q E q
  replace ra := ra.inv
  replace rb := rb.inv
  have units : X.un + 10 < cLine := Nat.lt_of_le_of_lt (Nat.add_le_add_left hU _) O.units
  unfold eqD at h
  split at h
  · split at h
    · obtain ⟨t, rfl⟩ := ra.int_inv
      obtain ⟨u, rfl⟩ := rb.int_inv
      unfold cmpI at h
      split at h
      · exact eq_int (ans S h q)
      · exact PyProof.Rows.ne_int (ans S h q)
      · exact PyProof.Rows.lt_int (ans S h q)
      · exact PyProof.Rows.le_int (ans S h q)
      · exact PyProof.Rows.gt_int (ans S h q)
      · exact PyProof.Rows.ge_int (ans S h q)
      · exact h.elim
    · exact h.elim
  · split at h
    · obtain ⟨t, rfl⟩ := ra.str_inv
      obtain ⟨u, rfl⟩ := rb.str_inv
      split at h
      · exact PyProof.Rows.eq_str (by rw [str_beq]; exact ans S h q)
      · exact PyProof.Rows.ne_str (by rw [bne, str_beq]; exact ans S h q)
      · exact h.elim
    · exact h.elim
  · split at h
    · cases ra; cases rb
      split at h
      · exact EqBoolInt.of_rc (RcAt.bool_bool _ _) (ans S h q)
      · exact EqBoolInt.of_rcne (RcNeAt.bool_bool _ _) (ans S h q)
      · exact h.elim
    · exact h.elim
  · split at h
    · obtain ⟨t, rfl⟩ := ra.bytes_inv
      obtain ⟨u, rfl⟩ := rb.bytes_inv
      split at h
      · exact eq_bytes (ans S h q)
      · exact ne_bytes (ans S h q)
      · exact h.elim
    · exact h.elim
  · split at h
    · obtain ⟨t, vs, m, rfl, e1, q1⟩ := lst_of ra
      obtain ⟨u, ws, n, rfl, e2, q2⟩ := lst_of rb
      split at h
      · rcases h with ⟨rfl, ok, h⟩ | ⟨ne, h⟩
        · have := RcAt.lists (e := fun _ => true) (A := X.A) (isList_of e1) (isList_of e2) (by simpa using q1.length.trans q2.length.symm) (by show X.un < cLine; omega) (sameItems 6 ok (by show X.un + 1 + 6 < cLine; omega) q1 q2)
          rw [range_all] at this
          exact EqBoolInt.of_rc this (ans S h q)
        · exact EqBoolInt.of_rc (RcAt.lists_lengths (A := X.A) (isList_of e1) (isList_of e2) (by simpa [q1.length, q2.length] using ne) (by show X.un < cLine; omega)) (ans S h q)
      · rcases h with ⟨rfl, ok, h⟩ | ⟨ne, h⟩
        · have := RcNeAt.lists (e := fun _ => true) (A := X.A) (isList_of e1) (isList_of e2) (by simpa using q1.length.trans q2.length.symm) (by show X.un < cLine; omega) (sameItems 6 ok (by show X.un + 1 + 6 < cLine; omega) q1 q2)
          rw [range_all] at this
          exact EqBoolInt.of_rcne this (ans S h q)
        · exact EqBoolInt.of_rcne (RcNeAt.lists_lengths (A := X.A) (isList_of e1) (isList_of e2) (by simpa [q1.length, q2.length] using ne) (by show X.un < cLine; omega)) (ans S h q)
      · exact h.elim
    · exact h.elim
  · exact h.elim
theorem isNone_ok {P : Addr → Obj → Prop} {w : World} {ρ : List Addr} {v : Value} {a : AV} (r : AR P w ρ v a) : (v == .none) = isNoneB a := by
  cases r with
  | c => rfl
  | v r => cases r <;> rfl
theorem cmpD_ok {op : CmpOp} {a b : AV} (O : X.Ok) (hU : 10 ≤ X.U) (h : cmpD op a b fun v => K (.v v) σ) : J2 X (compareOp op) a b σ K := by
  unfold cmpD at h
  split at h
  · split at h
    · intro ow ρ s va vb S ra rb Q E q
      replace rb := rb.inv
      cases rb
      exact is_none_gen (by rw [isNone_ok ra]; exact ans S h q)
    · exact h.elim
  · split at h
    · intro ow ρ s va vb S ra rb Q E q
      replace rb := rb.inv
      cases rb
      exact isnot_none_gen (by rw [isNone_ok ra]; exact ans S h q)
    · exact h.elim
  · split at h
    · split at h
      · exact inD_ok O rfl h
      · exact h.elim
    · exact h.elim
  · split at h
    · split at h
      · exact inD_ok O rfl h
      · exact h.elim
    · exact h.elim
  · split at h
    · split at h
      · exact eqD_ok O hU h
      · exact h.elim
    · exact h.elim
def truD (a : AV) (k : Bool → Prop) : Prop := match a with
  | .v (.bool b) => k b
  | .v (.int i) => k (i != 0)
  | .v .none => k false
  | _ => False
theorem truD_ok {a : AV} {K : Bool → SS → Prop} (h : truD a fun b => K b σ) : JTr X a σ K := by
  intro ow ρ s va S ra Q E q
  unfold truD at h
  split at h
  · cases ra.inv; exact wpAny_truthy_bool (q _ _ σ ow ρ s.heap s.toks .refl S rfl h)
  · obtain ⟨t, rfl⟩ := ra.inv.int_inv; exact PyProof.Rows.truthy_int (q _ _ σ ow ρ s.heap s.toks .refl S rfl h)
  · cases ra.inv; exact truthy_none (q _ _ σ ow ρ s.heap s.toks .refl S rfl h)
  · exact h.elim
def JTL (X : Fx) (op : BoolOp) (es : List Expr) (σ : SS) (K : Bool → SS → Prop) : Prop := ∀ ow ρ s, SR X ow ρ s.heap σ → RunAt X ow ρ s RB (allTrue op es X.env) K
section
variable {K : Bool → SS → Prop}
theorem JT_Not {x : Expr} {pos : Pos} (h : JT X x σ fun b σ => K (!b) σ) : JT X (.UnaryOp .Not x pos) σ K := fun ow ρ s S Q E q =>
  isTrue_not (h ow ρ s S _ _ fun a b σ₁ ow₁ ρ₁ h₁ tk₁ e₁ S₁ r₁ k₁ => q _ _ σ₁ ow₁ ρ₁ h₁ tk₁ e₁ S₁ (by show (!a) = !b; rw [show a = b from r₁]) k₁)
theorem JT_BoolOp {op : BoolOp} {es : List Expr} {pos : Pos} (h : JTL X op es σ K) : JT X (.BoolOp op es pos) σ K := fun ow ρ s S Q E q => wpAny_isTrue_BoolOp (h ow ρ s S Q E q)
theorem JTL_nil {op : BoolOp} (h : K (match op with | .And => true | .Or => false) σ) : JTL X op [] σ K := fun ow ρ s S Q E q => by
  cases op
  · exact wpAny_allTrue_And_nil (q _ _ σ ow ρ s.heap s.toks .refl S rfl h)
  · exact wpAny_allTrue_Or_nil (q _ _ σ ow ρ s.heap s.toks .refl S rfl h)
theorem JTL_cons {op : BoolOp} {x : Expr} {rest : List Expr} (h : JT X x σ fun b σ₁ => match op with | .And => Br b (JTL X op rest σ₁ K) (K false σ₁) | .Or => Br b (K true σ₁) (JTL X op rest σ₁ K)) : JTL X op (x :: rest) σ K := fun ow ρ s S Q E q => by
  cases op
  · refine wpAny_allTrue_And_cons (h ow ρ s S _ _ fun a b σ₁ ow₁ ρ₁ h₁ tk₁ e₁ S₁ r₁ k₁ => ?_)
    obtain rfl : a = b := r₁
    cases a
    · exact q _ _ σ₁ ow₁ ρ₁ h₁ tk₁ e₁ S₁ rfl k₁
    · exact k₁ ow₁ ρ₁ { s with heap := h₁, toks := tk₁ } S₁ _ _ fun v sv σ₂ ow₂ ρ₂ h₂ tk₂ e₂ S₂ r₂ k₂ => q v sv σ₂ ow₂ ρ₂ h₂ tk₂ (e₁.trans e₂) S₂ r₂ k₂
  · refine wpAny_allTrue_Or_cons (h ow ρ s S _ _ fun a b σ₁ ow₁ ρ₁ h₁ tk₁ e₁ S₁ r₁ k₁ => ?_)
    obtain rfl : a = b := r₁
    cases a
    · exact k₁ ow₁ ρ₁ { s with heap := h₁, toks := tk₁ } S₁ _ _ fun v sv σ₂ ow₂ ρ₂ h₂ tk₂ e₂ S₂ r₂ k₂ => q v sv σ₂ ow₂ ρ₂ h₂ tk₂ (e₁.trans e₂) S₂ r₂ k₂
    · exact q _ _ σ₁ ow₁ ρ₁ h₁ tk₁ e₁ S₁ rfl k₁
theorem JT_Chain {l r₁ r₂ : Expr} {op₁ op₂ : CmpOp} {pos : Pos} (hm : behindInMarks op₂ r₂ = false) (h : JE X l σ fun a σ₁ => JE X r₁ σ₁ fun b σ₂ => J2 X (compareOp op₁) a b σ₂ fun c σ₃ => JTr X c σ₃ fun t σ₄ =>
    Br t (b = b ∧ JE X r₂ σ₄ fun d σ₅ => J2 X (compareOp op₂) b d σ₅ fun e σ₆ => JTr X e σ₆ K) (K false σ₄)) : JT X (.Compare l [op₁, op₂] [r₁, r₂] pos) σ K := by
  intro ow ρ s S Q E q
  refine isTrue_chain (h ow ρ s S _ _ fun va sa σ₁ ow₁ ρ₁ h₁ tk₁ e₁ S₁ ra k₁ => ?_) (by show behindInMarks op₂ r₂ = false; exact hm)
  refine test_link (k₁ ow₁ ρ₁ { s with heap := h₁, toks := tk₁ } S₁ _ _ fun vb sb σ₂ ow₂ ρ₂ h₂ tk₂ e₂ S₂ rb k₂ => ?_)
  refine k₂ ow₂ ρ₂ { s with heap := h₂, toks := tk₂ } va vb S₂ (S₁.ar e₂ ra) rb _ _ fun vc sc σ₃ ow₃ ρ₃ h₃ tk₃ e₃ S₃ rc k₃ => ?_
  refine k₃ ow₃ ρ₃ { s with heap := h₃, toks := tk₃ } vc S₃ rc _ _ fun t t' σ₄ ow₄ ρ₄ h₄ tk₄ e₄ S₄ rt k₄ => ?_
  obtain rfl : t = t' := rt
  cases t
  · exact q _ _ σ₄ ow₄ ρ₄ h₄ tk₄ (((e₁.trans e₂).trans e₃).trans e₄) S₄ rfl k₄
  · refine test_last (k₄.2 ow₄ ρ₄ { s with heap := h₄, toks := tk₄ } S₄ _ _ fun vd sd σ₅ ow₅ ρ₅ h₅ tk₅ e₅ S₅ rd k₅ => ?_)
    refine k₅ ow₅ ρ₅ { s with heap := h₅, toks := tk₅ } vb vd S₅ (S₄.ar e₅ (S₃.ar e₄ (S₂.ar e₃ rb))) rd _ _ fun ve se σ₆ ow₆ ρ₆ h₆ tk₆ e₆ S₆ re k₆ => ?_
    exact k₆ ow₆ ρ₆ { s with heap := h₆, toks := tk₆ } ve S₆ re _ _ fun v sv σ₇ ow₇ ρ₇ h₇ tk₇ e₇ S₇ r₇ k₇ => q v sv σ₇ ow₇ ρ₇ h₇ tk₇ ((((((e₁.trans e₂).trans e₃).trans e₄).trans e₅).trans e₆).trans e₇) S₇ r₇ k₇
end
end
end
section
section
variable {X : Fx} {σ : SS} {K : AV → SS → Prop}
theorem wide_news (h₀ h : Heap) (L : Addr) : ∃ news, News h₀ L h news ∧ ∀ b o, h.get? b = some o → b ≠ L → h₀.get? b = none → (b, o) ∈ news := by
  let f : Addr → Option (Addr × Obj) := fun b => match h.get? b with
    | some o => if b = L ∨ (h₀.get? b).isSome = true then none else some (b, o)
    | none => none
  have hf : ∀ b p, f b = some p → ∃ o, p = (b, o) ∧ h.get? b = some o ∧ b ≠ L ∧ h₀.get? b = none := fun b p e => by
    simp only [f] at e
    split at e
    · rename_i o e1
      split at e
      · cases e
      · rename_i n
        cases e
        refine ⟨o, rfl, e1, fun q => n (.inl q), ?_⟩
        cases q : h₀.get? b with
        | none => rfl
        | some o' => exact absurd (.inr (by rw [q]; rfl)) n
    · cases e
  refine ⟨(List.range h.objs.size).filterMap f, fun p hp => ?_, fun b o e n1 n2 => ?_⟩
  · obtain ⟨b, _, e⟩ := List.mem_filterMap.mp hp
    obtain ⟨o, rfl, e1, e2, e3⟩ := hf b p e
    exact ⟨e1, e2, e3⟩
  · refine List.mem_filterMap.mpr ⟨b, List.mem_range.mpr (Heap.lt_size e), ?_⟩
    simp only [f, e]
    rw [if_neg (fun q => q.elim n1 fun q => by rw [n2] at q; cases q)]
theorem SR.frame {ow : Addr → Prop} {ρ : List Addr} {h : Heap} (O : X.Ok) (S : SR X ow ρ h σ) : ∃ mf news, Fr X.h₀ X.L h mf ∧ News X.h₀ X.L h news ∧ (∀ D o, h.get? D = some o → D ≠ X.L → X.h₀.get? D = none → (∀ p ∈ news, p.1 < D) → False) ∧ ∀ h' news', Fr X.h₀ X.L h' mf → News X.h₀ X.L h' news' → (∀ p ∈ news, p ∈ news') → SR X ow ρ h' σ ∧ Ex X ow ρ h ow ρ h' := by
  obtain ⟨mf, ml, F, n, c1, c2, l⟩ := S.fr
  obtain ⟨news, N, all⟩ := wide_news X.h₀ h X.L
  refine ⟨mf, news, F, N, fun D o e n1 n2 lt => Nat.lt_irrefl _ (lt _ (all D o e n1 n2)), fun h' news' F' N' sub => ?_⟩
  have kp : ∀ b o, h.get? b = some o → b ≠ X.L → h'.get? b = some o := fun b o e nb => by
    cases q : X.h₀.get? b with
    | some o' =>
      have := F.keep b o' q
      rw [e] at this; cases this
      exact F'.keep b _ q
    | none => exact (N' _ (sub _ (all b o e nb q))).1
  have lv : ∀ b o, h.get? b = some o → ∃ o', h'.get? b = some o' := fun b o e => by
    by_cases hb : b = X.L
    · subst hb; obtain ⟨o', _, _, e', _⟩ := F'.ns; exact ⟨o', e'⟩
    · exact ⟨o, kp b o e hb⟩
  have hp : ∀ b o, Pz h ow b o → Pz h' ow b o := fun b o e => ⟨kp b o e.1 (fun q => e.2 (q ▸ S.owL)), e.2⟩
  refine ⟨⟨?_, S.len, fun i a so e1 e2 => ?_, S.nd, S.off, S.owL, S.owl, fun a q => let ⟨o, e⟩ := S.low a q; lv a o e, S.var, fun a x e => hp a x (S.kf a x e)⟩, fun _ q => q, fun _ q => .inl q, pfx ρ, fun _ q => .inl q, fun b o e _ _ n3 => kp b o e n3, lv⟩
  · have ln : ∀ y sv', lk y σ.loc = some sv' → ∃ v', ml y = some v' ∧ AR (Pz h' ow) X.w ρ v' sv' := fun y sv' e => let ⟨v', e1, e2⟩ := l y sv' e; ⟨v', e1, e2.mono hp (pfx ρ)⟩
    cases hc : X.comp with
    | none =>
      have hl := O.here hc
      obtain rfl := c1 hc
      exact ⟨_, _, F', by rw [hl]; exact F'.ns, fun _ => rfl, fun m q => (by cases q), ln⟩
    | some mm =>
      obtain ⟨t1, t2⟩ := O.there mm hc
      obtain ⟨o, es, ep, e, r⟩ := n
      exact ⟨mf, ml, F', ⟨o, es, ep, kp _ _ e t1, r⟩, fun q => (by cases q), fun m q => c2 m (hc.trans q), ln⟩
  · obtain ⟨ob, e3, e4⟩ := S.cel i a so e1 e2
    exact ⟨ob, kp a ob e3 (S.off a (List.mem_of_getElem? e1)).2.2.1, e4.mono hp (pfx ρ)⟩
def intsOf : List SV → Option (List Int)
  | [] => some []
  | .int y :: r => (intsOf r).map (y :: ·)
  | _ => none
theorem intsOf_ok {P : Addr → Obj → Prop} {w : World} : ∀ {vs : List Value} {l : List SV} {ns : List Int}, VRs P w vs l → intsOf l = some ns → IntsAre vs ns
  | _, _, _, .nil, e => by cases e; exact .nil
  | _, d :: ds, ns, .cons h r, e => by
    unfold intsOf at e
    cases h <;> try (cases e)
    dsimp only at e
    cases q : intsOf ds with
    | none => rw [q] at e; cases e
    | some l => rw [q] at e; cases e; exact .cons _ _ (intsOf_ok r q)
def isInt : SV → Option Bool
  | .int _ => some true
  | .bytes _ => some false
  | .tup _ => some false
  | _ => none
def isTup : SV → Option Bool
  | .int _ => some false
  | .bytes _ => some false
  | .tup _ => some true
  | _ => none
def b256 (n : Int) : Bool := decide (0 ≤ n) && decide (n < 256)
def lenD (a : AV) (k : SV → Prop) : Prop := match a with
  | .v (.lst l) => Gd (Nat.ble l.length 16384) (k (.int l.length))
  | .v (.tup l) => Gd (Nat.ble l.length 16384) (k (.int l.length))
  | .v (.bytes l) => Gd (Nat.ble l.length 1099511627776) (k (.int l.length))
  | _ => False
def rngD (as : List AV) (k : SV → Prop) : Prop := match as with
  | [.v (.int n)] => k (.rng 0 n 1)
  | [.v (.int a), .v (.int b)] => k (.rng a b 1)
  | [.v (.int a), .v (.int b), .v (.int c)] => Gd (!decide (c = 0) && smB c) (k (.rng a b c))
  | _ => False
def bytesD (a : SV) (k : SV → Prop) : Prop := match a with
  | .lst l => (match intsOf l with | some ns => Gd (ns.all b256 && Nat.ble ns.length 16384) (k (.bytes (ns.map fun n => n.toNat.toUInt8))) | none => False)
  | _ => False
def isiD (a : SV) (t : Ty) (k : SV → Prop) : Prop := match t with
  | .int => (match isInt a with | some b => k (.bool b) | none => False)
  | .tuple => (match isTup a with | some b => k (.bool b) | none => False)
  | _ => False
def biD (f : Bi) (as : List AV) (k : SV → Prop) : Prop := match f with
  | .len => (match as with | [a] => lenD a k | _ => False)
  | .min => (match as with | [.v (.int a), .v (.int b)] => k (.int (match decide (b < a) with | true => b | false => a)) | _ => False)
  | .sum => (match as with | [.v (.lst l)] => (match intsOf l with | some ns => k (.int ns.sum) | none => False) | _ => False)
  | .isi => (match as with | [.v a, .v (.ty t)] => isiD a t k | _ => False)
def tyD (f : Ty) (as : List AV) (σ : SS) (k : SV → Prop) : Prop := match f with
  | .range => rngD as k
  | .bytes => (match as with | [.v a] => bytesD a k | _ => False)
  | .tuple => (match as with
    | [.v (.lst l)] => Gd (Nat.ble l.length 16384) (k (.tup l))
    | [.c i] => (match σ.cel[i]? with | some (.lst l) => Gd (Nat.ble l.length 16384) (k (.tup l)) | _ => False)
    | _ => False)
  | .list => (match as with
    | [.v (.tup l)] => Gd (Nat.ble l.length 16384) (k (.lst l))
    | [.v (.lst l)] => Gd (Nat.ble l.length 16384) (k (.lst l))
    | _ => False)
  | .int => (match as with | [.v (.bool b)] => k (.int (match b with | true => 1 | false => 0)) | _ => False)
  | _ => False
theorem ansV {ow : Addr → Prop} {ρ : List Addr} {s : Shared} (S : SR X ow ρ s.heap σ) {Q : Value → Shared → Prop} {v : Value} {d : SV} {tk : Nat} (r : VR (Pz s.heap ow) X.w v d) (k : K (.v d) σ)
    (q : ∀ (a : Value) (b : AV) (σ' : SS) (ow' : Addr → Prop) (ρ' : List Addr) (h' : Heap) (tk' : Nat), Ex X ow ρ s.heap ow' ρ' h' → SR X ow' ρ' h' σ' → RV X ow' ρ' h' a b → K b σ' → Q a { s with heap := h', toks := tk' }) : Q v { s with toks := tk } :=
  q _ _ σ ow ρ s.heap tk .refl S (.v r) k
theorem lenD_ok {a : AV} (h : lenD a fun v => K (.v v) σ) : JCall X (.builtin "len") [a] σ K := by
  intro ow ρ s vs S R Q E q
  cases R with | cons r rs => cases rs with | nil =>
  unfold lenD at h
  split at h
  · obtain ⟨g, h⟩ := h.out
    obtain ⟨a, vs, n, rfl, e, r1⟩ := lst_of r.inv
    have g := Nat.le_of_ble_eq_true g
    refine len_list (isList_of e) (by rw [List.size_toArray, r1.length]; omega) ?_
    rw [List.size_toArray, r1.length]
    exact ansV S (.int _ _) h q
  · obtain ⟨g, h⟩ := h.out
    obtain ⟨a, vs, n, rfl, e, r1⟩ := tup_of r.inv
    have g := Nat.le_of_ble_eq_true g
    refine len_tuple (isTup_of' e) (by rw [List.size_toArray, r1.length]; omega) ?_
    rw [List.size_toArray, r1.length]
    exact ansV S (.int _ _) h q
  · obtain ⟨g, h⟩ := h.out
    obtain ⟨t, rfl⟩ := r.inv.bytes_inv
    exact W.len_bytes (Nat.le_of_ble_eq_true g) (ansV S (.int _ _) h q)
  · exact h.elim
theorem rngD_ok {as : List AV} (h : rngD as fun v => K (.v v) σ) : JCall X (.type "range") as σ K := by
  intro ow ρ s vs S R Q E q
  have fin : ∀ {a b c : Int} {t1 t2 t3 : Tok} {tk : Nat}, K (.v (.rng a b c)) σ → Q (.ref s.heap.objs.size) { s with heap := s.heap.push { cls := .type "range", data := .fields #[.int a t1, .int b t2, .int c t3] }, toks := tk } := fun k =>
    q _ _ σ ow ρ _ _ (.push _) (S.push _) (.v (.rng (S.fresh _ rfl))) k
  unfold rngD at h
  split at h
  · cases R with | cons r rs => cases rs with | nil =>
    obtain ⟨t, rfl⟩ := r.inv.int_inv
    exact call_range_1 (fin h)
  · cases R with | cons r rs => cases rs with | cons r2 rs => cases rs with | nil =>
    obtain ⟨t, rfl⟩ := r.inv.int_inv
    obtain ⟨u, rfl⟩ := r2.inv.int_inv
    exact call_range_2 (fin h)
  · rename_i a b c
    obtain ⟨g, h⟩ := h.out
    obtain ⟨g1, g2⟩ := Bool.and_eq_true_iff.mp g
    cases R with | cons r rs => cases rs with | cons r2 rs => cases rs with | cons r3 rs => cases rs with | nil =>
    obtain ⟨t, rfl⟩ := r.inv.int_inv
    obtain ⟨u, rfl⟩ := r2.inv.int_inv
    obtain ⟨v, rfl⟩ := r3.inv.int_inv
    refine call_range_3 (by simpa using g1) (fin h) (.inl ?_)
    have h2 := log2_63 (Nat.le_of_ble_eq_true g2)
    unfold Builtin.divisionGoesByPylong
    have : (if (c == 0) = true then 0 else c.natAbs.log2 / 30 + 1) ≤ 300 := by split <;> omega
    simp only [Bool.and_eq_false_iff]
    left
    exact decide_eq_false (by omega)
  · exact h.elim
theorem bytesD_ok {a : SV} (h : bytesD a fun v => K (.v v) σ) : JCall X (.type "bytes") [.v a] σ K := by
  intro ow ρ s vs S R Q E q
  cases R with | cons r rs => cases rs with | nil =>
  unfold bytesD at h
  split at h
  · split at h
    · rename_i ns e
      obtain ⟨g, h⟩ := h.out
      obtain ⟨g1, g2⟩ := Bool.and_eq_true_iff.mp g
      have g2 := Nat.le_of_ble_eq_true g2
      obtain ⟨a, vs, n, rfl, e1, r1⟩ := lst_of r.inv
      have hi := intsOf_ok r1 e
      refine call_bytes_ints (isList_of e1) hi (fun n hn => ?_) (by rw [hi.length]; exact Nat.le_trans g2 (by decide)) rfl fun h' t k hk => ?_
      · have := List.all_eq_true.mp g1 n hn
        simpa [b256] using this
      · exact q _ _ σ ow ρ h' k (.grow hk) (S.grow hk) (.v (.bytes _ _)) h
    · exact h.elim
  · exact h.elim
theorem isiD_ok {a : SV} {t : Ty} (h : isiD a t fun v => K (.v v) σ) : JCall X (.builtin "isinstance") [.v a, .v (.ty t)] σ K := by
  intro ow ρ s vs S R Q E q
  cases R with | cons r rs => cases rs with | cons r2 rs => cases rs with | nil =>
  replace r := r.inv
  replace r2 := r2.inv
  unfold isiD at h
  split at h
  · cases r2
    split at h
    · rename_i b e
      cases r <;> cases e
      · exact kia_one (K := []) kitx_int (fun _ _ e => by cases e) trivial (by kernel_rfl) (fun e => nomatch e) fun tk => ans S h q
      · exact kia_one (K := []) kitx_bytes (fun _ _ e => by cases e) trivial (by kernel_rfl) (fun e => nomatch e) fun tk => ans S h q
      · rename_i p _
        exact kia_one (K := []) kitx_tuple (fun _ _ e => by cases e) ⟨_, p.1, rfl⟩ (by kernel_rfl) (fun e => nomatch e) fun tk => ans S h q
    · exact h.elim
  · cases r2
    split at h
    · rename_i b e
      cases r <;> cases e
      · exact kia_one (K := []) kitx_int (fun _ _ e => by cases e) trivial (by kernel_rfl) (fun e => nomatch e) fun tk => ans S h q
      · exact kia_one (K := []) kitx_bytes (fun _ _ e => by cases e) trivial (by kernel_rfl) (fun e => nomatch e) fun tk => ans S h q
      · rename_i p _
        exact kia_one (K := []) kitx_tuple (fun _ _ e => by cases e) ⟨_, p.1, rfl⟩ (by kernel_rfl) (fun e => nomatch e) fun tk => ans S h q
    · exact h.elim
  · exact h.elim
theorem biD_ok {f : Bi} {as : List AV} (O : X.Ok) (h : biD f as fun v => K (.v v) σ) : JCall X (.builtin f.id) as σ K := by
  unfold biD at h
  split at h
  · split at h
    · exact lenD_ok h
    · exact h.elim
  · split at h
    · intro ow ρ s vs S R Q E q
      cases R with | cons r rs => cases rs with | cons r2 rs => cases rs with | nil =>
      obtain ⟨t, rfl⟩ := r.inv.int_inv
      obtain ⟨u, rfl⟩ := r2.inv.int_inv
      rename_i x y
      refine Flt.min_two_num rfl (.int _ _) (.int _ _) fun h' tk hk => ?_
      show Q (if decide (y < x) = true then _ else _) _
      cases hd : decide (y < x) <;> rw [hd] at h
      · exact q _ _ σ ow ρ h' tk (.grow hk) (S.grow hk) (.v (.int _ _)) h
      · exact q _ _ σ ow ρ h' tk (.grow hk) (S.grow hk) (.v (.int _ _)) h
    · exact h.elim
  · split at h
    · split at h
      · rename_i ns e
        intro ow ρ s vs S R Q E q
        cases R with | cons r rs => cases rs with | nil =>
        obtain ⟨a, vs, n, rfl, e1, r1⟩ := lst_of r.inv
        obtain ⟨mf, news, F, N, new, back⟩ := S.frame O
        refine LSm.sum_ints F N rfl (isList_of e1) (intsOf_ok r1 e) fun h' tk t' F' N' => ?_
        obtain ⟨S', ex⟩ := back h' news F' N' fun _ m => m
        exact q _ _ σ ow ρ h' tk ex S' (.v (.int _ _)) h
      · exact h.elim
    · exact h.elim
  · split at h
    · exact isiD_ok h
    · exact h.elim
theorem run_tupleOf {ow : Addr → Prop} {ρ : List Addr} {s : Shared} {a : Addr} {vs : List Value} {n : Nat} {l : List SV} (S : SR X ow ρ s.heap σ) (e1 : s.heap.get? a = some (listOf vs.toArray n)) (r1 : VRs (Pz s.heap ow) X.w vs l) (g : l.length ≤ 16384) (h : K (.v (.tup l)) σ) : RunAt X ow ρ s (RV X) (call (.type "tuple") [.ref a]) K := by
  intro Q E q
  refine call_tuple_list (isList_of e1) (fun h' hk => ?_) (by rw [List.size_toArray, r1.length]; exact Nat.le_trans g (by decide))
  have S' := S.grow hk
  exact q _ _ σ ow ρ _ s.toks ((Ex.grow hk).trans (.push _)) (S'.push _) (.v (.tup (S'.fresh (tupObj vs 0) rfl) (S'.vrs (.push _) (S.vrs (.grow hk) r1)))) h
theorem tyD_ok {f : Ty} {as : List AV} (O : X.Ok) (h : tyD f as σ fun v => K (.v v) σ) : JCall X (.type f.id) as σ K := by
  unfold tyD at h
  split at h
  · exact rngD_ok h
  · split at h
    · exact bytesD_ok h
    · exact h.elim
  · split at h
    · obtain ⟨g, h⟩ := h.out
      intro ow ρ s vs S R
      cases R with | cons r rs => cases rs with | nil =>
      obtain ⟨a, vs, n, rfl, e1, r1⟩ := lst_of r.inv
      exact run_tupleOf S e1 r1 (Nat.le_of_ble_eq_true g) h
    · split at h
      · rename_i hl
        obtain ⟨g, h⟩ := h.out
        intro ow ρ s vs S R
        cases R with | cons r rs => cases rs with | nil =>
        cases r with | c hr =>
        obtain ⟨ob, e1, e2⟩ := S.cel _ _ _ hr hl
        cases e2 with | lst r1 =>
        exact run_tupleOf S e1 r1 (Nat.le_of_ble_eq_true g) h
      · exact h.elim
    · exact h.elim
  · split at h
    · obtain ⟨g, h⟩ := h.out
      intro ow ρ s vs S R Q E q
      cases R with | cons r rs => cases rs with | nil =>
      obtain ⟨a, vs, n, rfl, e1, r1⟩ := tup_of r.inv
      obtain ⟨mf, news, F, N, new, back⟩ := S.frame O
      refine list_copyKT F N (isTup_of' e1) (fun D c h' F' N' lt => ?_) (by rw [List.size_toArray, r1.length]; exact Nat.le_trans (Nat.le_of_ble_eq_true g) (by decide))
      obtain ⟨S', ex⟩ := back h' _ F' N' fun _ m => .tail _ m
      have nD : ¬ ow D := fun hD => let ⟨o, e⟩ := S.low D hD; new D o e (N' _ (.head _)).2.1 (N' _ (.head _)).2.2 lt
      exact q _ _ σ ow ρ h' s.toks ex S' (.v (.lst ⟨(N' _ (.head _)).1, nD⟩ (S.vrs ex r1))) h
    · obtain ⟨g, h⟩ := h.out
      intro ow ρ s vs S R Q E q
      cases R with | cons r rs => cases rs with | nil =>
      obtain ⟨a, vs, n, rfl, e1, r1⟩ := lst_of r.inv
      obtain ⟨mf, news, F, N, new, back⟩ := S.frame O
      refine list_copyK F N (isList_of e1) (fun D c h' F' N' lt => ?_) (by rw [List.size_toArray, r1.length]; exact Nat.le_trans (Nat.le_of_ble_eq_true g) (by decide))
      obtain ⟨S', ex⟩ := back h' _ F' N' fun _ m => .tail _ m
      have nD : ¬ ow D := fun hD => let ⟨o, e⟩ := S.low D hD; new D o e (N' _ (.head _)).2.1 (N' _ (.head _)).2.2 lt
      exact q _ _ σ ow ρ h' s.toks ex S' (.v (.lst ⟨(N' _ (.head _)).1, nD⟩ (S.vrs ex r1))) h
    · exact h.elim
  · split at h
    · rename_i bb
      intro ow ρ s vs S R Q E q
      cases R with | cons r rs => cases rs with | nil =>
      cases r.inv
      refine call_int_bool ?_
      cases bb
      · exact ansV S (.int _ _) h q
      · exact ansV S (.int _ _) h q
    · exact h.elim
  · exact h.elim
end
end
section
section
variable {X : Fx} {σ : SS} {K : AV → SS → Prop}
def isSlice : Expr → Bool
  | .Slice _ _ _ _ => true
  | _ => false
theorem subscripted_plain {slice : Expr} {o i : Value} (h : isSlice slice = false) : subscripted slice false o i = operate [o, i] (getItem o i) := by
  cases slice <;> first | rfl | cases h
def lstS (l : List SV) (i : SV) (k : SV → Prop) : Prop := match i with
  | .int (.ofNat j) => (match l[j]? with | some d => Gd (Nat.ble l.length 16384) (k d) | none => False)
  | _ => False
noncomputable def getS (a i : SV) (k : SV → Prop) : Prop := match a with
  | .tup l => (match i with | .int (.ofNat j) => (match l[j]? with | some d => Gd (Nat.ble l.length 16384) (k d) | none => False) | _ => False)
  | .lst l => lstS l i k
  | .bytes l => (match i with | .int n => Gd (decide (0 ≤ n) && decide (n < l.length) && Nat.ble l.length 1099511627776) (k (.int (l.getD n.toNat 0).toNat)) | _ => False)
  | .dic l => (match i with
    | .str x => (match dlkS x l with | some (some d) => k d | _ => False)
    | .int x => (match dlkI x l with | some (some d) => k d | _ => False)
    | _ => False)
  | .str x => (match i with | .int (.ofNat j) => (match x.cps[j]? with | some c => Gd (Nat.ble x.length 16384) (k (.str ⟨#[c]⟩)) | none => False) | _ => False)
  | _ => False
noncomputable def getD (a i : AV) (σ : SS) (k : SV → Prop) : Prop := match a with
  | .v a => (match i with | .v i => getS a i k | _ => False)
  | .c n => (match σ.cel[n]? with | some (.lst l) => (match i with | .v i => lstS l i k | _ => False) | _ => False)
def JGet (X : Fx) (value slice : Expr) (a i : AV) (σ : SS) (K : AV → SS → Prop) : Prop :=
  ∀ ow ρ s va vi, SR X ow ρ s.heap σ → AR (Pz s.heap ow) X.w ρ va a → AR (Pz s.heap ow) X.w ρ vi i → RunAt X ow ρ s (RV X) (subscriptTail value slice va vi) K
theorem seqIndex_of {j n : Nat} (h : j < n) : seqIndex? (Int.ofNat j) n = some j := by
  unfold seqIndex?
  have h1 : ¬ (Int.ofNat j < 0) := by simp
  simp only [h1, if_false]
  have : (decide (0 ≤ Int.ofNat j) && decide (Int.ofNat j < (n : Int))) = true := by simp; omega
  rw [if_pos this]; rfl
theorem list_at {value slice : Expr} (hs : isSlice slice = false) {ow : Addr → Prop} {ρ : List Addr} {s : Shared} {a : Addr} {vs : List Value} {n : Nat} {l : List SV} {j : Nat} {u : Tok} {d : SV} (S : SR X ow ρ s.heap σ) (e : s.heap.get? a = some (listOf vs.toArray n)) (r1 : VRs (Pz s.heap ow) X.w vs l) (hd : l[j]? = some d) (g : l.length ≤ 16384) (h : K (.v d) σ) :
    RunAt X ow ρ s (RV X) (subscriptTail value slice (.ref a) (.int (.ofNat j) u)) K := by
  intro Q E q
  obtain ⟨v, e2, r2⟩ := r1.get hd
  have hj := (List.getElem?_eq_some_iff.mp hd).1
  exact tail_any (isList_of e).typeIs slot_list_getitem.lookup (wpAny_getItem_list (isList_of e) (by simp) (by simp; omega) (by simpa using e2) (ansV S r2 h q)) (subscripted_plain hs)
theorem getS_ok {value slice : Expr} (hs : isSlice slice = false) {a i : SV} (h : getS a i fun v => K (.v v) σ) : JGet X value slice (.v a) (.v i) σ K := by
  intro ow ρ s va vi S ra ri
  replace ra := ra.inv
  replace ri := ri.inv
  unfold getS at h
  split at h
  · split at h
    · split at h
      · rename_i l _ j _ d hd
        obtain ⟨g, h⟩ := h.out
        have g := Nat.le_of_ble_eq_true g
        obtain ⟨b, vs, n, rfl, e, r1⟩ := tup_of ra
        obtain ⟨u, rfl⟩ := ri.int_inv
        obtain ⟨v, e2, r2⟩ := r1.get hd
        have hj := (List.getElem?_eq_some_iff.mp hd).1
        intro Q E q
        exact tail_any (isTup_of e).typeIs slot_tuple_getitem.lookup (getItem_tuple (isTup_of' e) (by first | (simp; done) | (simp; omega)) (by simp; omega) (seqIndex_of (by rw [List.size_toArray, r1.length]; exact hj)) (by simpa using e2) (ansV S r2 h q)) (subscripted_plain hs)
      · exact h.elim
    · exact h.elim
  · unfold lstS at h
    split at h
    · split at h
      · rename_i hd
        obtain ⟨g, h⟩ := h.out
        obtain ⟨b, vs, n, rfl, e, r1⟩ := lst_of ra
        obtain ⟨u, rfl⟩ := ri.int_inv
        exact list_at hs S e r1 hd (Nat.le_of_ble_eq_true g) h
      · exact h.elim
    · exact h.elim
  · split at h
    · obtain ⟨g, h⟩ := h.out
      obtain ⟨g, g3⟩ := Bool.and_eq_true_iff.mp g
      obtain ⟨g1, g2⟩ := Bool.and_eq_true_iff.mp g
      obtain ⟨t, rfl⟩ := ra.bytes_inv
      obtain ⟨u, rfl⟩ := ri.int_inv
      intro Q E q
      refine tail_any (typeIs_bytes _ _ _) FB.slot_bytes_getitem.lookup (getItem_bytes (Nat.le_of_ble_eq_true g3) (of_decide_eq_true g1) (of_decide_eq_true g2) (ansV S (.int _ _) h q)) (subscripted_plain hs)
    · exact h.elim
  · obtain ⟨b, es, m, rfl, e1, lo, dr⟩ := dic_of ra
    split at h
    · split at h
      · rename_i d e
        obtain ⟨u, rfl⟩ := ri.str_inv
        obtain ⟨hk, v, hf, r2⟩ := dr.strs e
        have hm := mapS (w := X.w) e1 hk
        intro Q E q
        exact tail_any hm.typeIs slot_dict_getitem.lookup (wpAny_getItem_of (strKind_is _ _ _ u) hm hf (ansV S r2 h q)) (subscripted_plain hs)
      · exact h.elim
    · split at h
      · rename_i d e
        obtain ⟨u, rfl⟩ := ri.int_inv
        obtain ⟨hk, v, hf, r2⟩ := dr.ints e
        have hm := mapI (w := X.w) e1 hk
        intro Q E q
        exact tail_any hm.typeIs slot_dict_getitem.lookup (wpAny_getItem_of (intKind_is _ _ _ u) hm hf (ansV S r2 h q)) (subscripted_plain hs)
      · exact h.elim
    · exact h.elim
  · split at h
    · split at h
      · rename_i x _ j _ c hc
        obtain ⟨g, h⟩ := h.out
        have g := Nat.le_of_ble_eq_true g
        obtain ⟨t, rfl⟩ := ra.str_inv
        obtain ⟨u, rfl⟩ := ri.int_inv
        have hj : j < x.length := (Array.getElem?_eq_some_iff.mp hc).1
        intro Q E q
        refine tail_any (typeIs_str s x t) PyProof.Rows.slot_str_getitem.lookup (PyProof.Rows.getItem_str (c := c) ?_ ?_ (ansV S (.str _ _) h q)) (subscripted_plain hs)
        · simp; omega
        · rw [seqIndex_of hj]; exact hc
      · exact h.elim
    · exact h.elim
  · exact h.elim
theorem getD_ok {value slice : Expr} (hs : isSlice slice = false) {a i : AV} (h : getD a i σ fun v => K (.v v) σ) : JGet X value slice a i σ K := by
  unfold getD at h
  split at h
  · split at h
    · exact getS_ok hs h
    · exact h.elim
  · split at h
    · rename_i hl
      split at h
      · unfold lstS at h
        split at h
        · split at h
          · rename_i hd
            obtain ⟨g, h⟩ := h.out
            intro ow ρ s va vi S ra ri
            cases ra with | c hr =>
            obtain ⟨ob, e1, e2⟩ := S.cel _ _ _ hr hl
            cases e2 with | lst r1 =>
            obtain ⟨u, rfl⟩ := ri.inv.int_inv
            exact list_at hs S e1 r1 hd (Nat.le_of_ble_eq_true g) h
          · exact h.elim
        · exact h.elim
      · exact h.elim
    · exact h.elim
theorem JE_Sub {value slice : Expr} {pos : Pos} (hs : isSlice slice = false) (h : JE X value σ fun a σ₁ => JE X slice σ₁ fun i σ₂ => getD a i σ₂ fun v => K (.v v) σ₂) : JE X (.Subscript value slice pos) σ K := by
  intro ow ρ s S Q E q
  refine Subscript_ (h ow ρ s S _ _ fun a sa σ₁ ow₁ ρ₁ h₁ tk₁ e₁ S₁ r₁ k₁ => k₁ ow₁ ρ₁ { s with heap := h₁, toks := tk₁ } S₁ _ _ fun b sb σ₂ ow₂ ρ₂ h₂ tk₂ e₂ S₂ r₂ k₂ => ?_)
  exact getD_ok hs k₂ ow₂ ρ₂ { s with heap := h₂, toks := tk₂ } a b S₂ (S₁.ar e₂ r₁) r₂ _ _ fun v sv σ₃ ow₃ ρ₃ h₃ tk₃ e₃ S₃ r₃ k₃ => q v sv σ₃ ow₃ ρ₃ h₃ tk₃ ((e₁.trans e₂).trans e₃) S₃ r₃ k₃
end
end
section
section
variable {X : Fx} {σ : SS} {K : AV → SS → Prop}
def sliceL {α : Type} (l : List α) (lo hi : Option Int) : List α := (l.drop (lo.elim 0 (clipAt l.length))).take (hi.elim l.length (clipAt l.length) - lo.elim 0 (clipAt l.length))
def sliD (a : AV) (lo hi : Option Int) (k : SV → Prop) : Prop := match a with
  | .v (.tup l) => (match lo, hi with | some (.ofNat (j + 1)), none => Gd (Nat.ble (j + 1) l.length && Nat.ble l.length 16384) (k (.tup (l.drop (j + 1)))) | _, _ => False)
  | .v (.lst l) => Gd (Nat.ble l.length 16777216) (k (.lst (sliceL l lo hi)))
  | .v (.bytes l) => Gd (Nat.ble l.length 16777216) (k (.bytes (sliceL l lo hi)))
  | _ => False
def intD (a : AV) (k : Int → Prop) : Prop := match a with
  | .v (.int i) => k i
  | _ => False
theorem intD_out {P : Addr → Obj → Prop} {w : World} {ρ : List Addr} {v : Value} {a : AV} {k : Int → Prop} (r : AR P w ρ v a) (h : intD a k) : ∃ i t, v = .int i t ∧ k i := by
  unfold intD at h
  split at h
  · obtain ⟨t, rfl⟩ := r.inv.int_inv; exact ⟨_, _, rfl, h⟩
  · exact h.elim
def JPart (X : Fx) (o : Option Expr) (σ : SS) (K : Option Int → SS → Prop) : Prop := ∀ ow ρ s, SR X ow ρ s.heap σ → RunAt X ow ρ s (fun _ _ _ => IsPart) (evalPart o X.env) K
theorem JPart_none {K : Option Int → SS → Prop} (h : K none σ) : JPart X none σ K := fun ow ρ s S Q E q => by
  rw [evalPart_none]; exact wpAny_pure (q _ _ σ ow ρ s.heap s.toks .refl S .none h)
theorem JPart_some {e : Expr} {K : Option Int → SS → Prop} (h : JE X e σ fun a σ₁ => intD a fun i => K (some i) σ₁) : JPart X (some e) σ K := fun ow ρ s S Q E q => by
  rw [evalPart_some]
  refine h ow ρ s S _ _ fun a sa σ₁ ow₁ ρ₁ h₁ tk₁ e₁ S₁ r₁ k₁ => ?_
  obtain ⟨i, t, rfl, k⟩ := intD_out r₁ k₁
  exact q _ _ σ₁ ow₁ ρ₁ h₁ tk₁ e₁ S₁ (.int _ _) k
theorem isPart_int {v : Value} {j : Int} (h : IsPart v (some j)) : ∃ t, v = .int j t := by cases h; exact ⟨_, rfl⟩
theorem isPart_none {v : Value} (h : IsPart v none) : v = .none := by cases h; rfl
theorem JE_SubSl {value : Expr} {lo hi : Option Expr} {p pos : Pos} (h : JE X value σ fun a σ₁ => JPart X lo σ₁ fun i σ₂ => JPart X hi σ₂ fun j σ₃ => sliD a i j fun v => K (.v v) σ₃) : JE X (.Subscript value (.Slice lo hi none p) pos) σ K := by
  intro ow ρ s S Q E q
  refine Subscript_ (h ow ρ s S _ _ fun a sa σ₁ ow₁ ρ₁ h₁ tk₁ e₁ S₁ r₁ k₁ => wpAny_Slice (k₁ ow₁ ρ₁ { s with heap := h₁, toks := tk₁ } S₁ _ _ fun vl i σ₂ ow₂ ρ₂ h₂ tk₂ e₂ S₂ pl k₂ => k₂ ow₂ ρ₂ { s with heap := h₂, toks := tk₂ } S₂ _ _ fun vu j σ₃ ow₃ ρ₃ h₃ tk₃ e₃ S₃ pu k₃ => ?_))
  rw [evalPart_none]
  refine wpAny_pure ?_
  have r := (S₁.ar (e₂.trans e₃) r₁)
  have ex := (e₁.trans e₂).trans e₃
  have S' := S₃.push { cls := .type "slice", data := .fields #[vl, vu, .none] }
  have r' := S₃.ar (.push { cls := .type "slice", data := .fields #[vl, vu, .none] }) r
  have sl := Heap.IsSliceOf.new h₃ vl vu .none
  have hs : ∀ o, subscripted (.Slice lo hi none p) false o (.ref h₃.objs.size) = operate [.ref h₃.objs.size, o] (getItem o (.ref h₃.objs.size)) := fun o => rfl
  unfold sliD at k₃
  split at k₃
  · split at k₃
    · rename_i l _ _ j
      obtain ⟨g, k⟩ := k₃.out
      obtain ⟨g1, g2⟩ := Bool.and_eq_true_iff.mp g
      have g1 := Nat.le_of_ble_eq_true g1
      have g2 := Nat.le_of_ble_eq_true g2
      obtain ⟨b, vs, n, rfl, e, rr⟩ := tup_of r'.inv
      obtain ⟨t, rfl⟩ := isPart_int pl
      obtain rfl := isPart_none pu
      refine tail_any (isTup_of e).typeIs slot_tuple_getitem.lookup (getItem_tuple_from (a := j + 1) (isTup_of' e) sl (Nat.le_add_left 1 _) (by rw [List.size_toArray, rr.length]; exact g1) ?_ (by rw [List.size_toArray, rr.length]; exact Nat.le_trans g2 (by decide))) (hs _)
      exact q _ _ σ₃ ow₃ ρ₃ _ _ ((ex.trans (.push _)).trans (.push _)) (S'.push _) (.v (.tup (S'.fresh (tupObj (vs.drop (j + 1)) 0) rfl) (S'.vrs (.push _) (rr.drop _)))) k
    · exact k₃.elim
  · rename_i l
    obtain ⟨g, k⟩ := k₃.out
    have g := Nat.le_of_ble_eq_true g
    obtain ⟨b, vs, n, rfl, e, rr⟩ := lst_of r'.inv
    refine tail_any (isList_of e).typeIs slot_list_getitem.lookup (wpAny_getItem_list_slice (isList_of e) sl pl pu .none (by simp) ?_ (by rw [List.size_toArray, rr.length]; exact Nat.le_trans g (by decide))) (hs _)
    have hz : vs.toArray.size = l.length := by rw [List.size_toArray, rr.length]
    rw [slicePick_plain, hz]
    exact q _ _ σ₃ ow₃ ρ₃ _ _ ((ex.trans (.push _)).trans (.push _)) (S'.push _) (.v (.lst (S'.fresh (listOf _ 0) rfl) (S'.vrs (.push _) ((rr.drop _).take _)))) k
  · rename_i l
    obtain ⟨g, k⟩ := k₃.out
    have g := Nat.le_of_ble_eq_true g
    obtain ⟨t, rfl⟩ := r.inv.bytes_inv
    refine tail_any (typeIs_bytes _ _ _) FB.slot_bytes_getitem.lookup (getItem_meets (typeIs_bytes _ _ _) (by decide) FB.slot_bytes_getitem FB.entry_bytes_getitem (FB.args_bytes_getitem_2 _ _) (KBc.meets_slice2 ⟨l⟩ t _ pl pu)
      ⟨sl, Nat.le_trans (KBc.size_picked_le _ _ _) (Nat.le_trans g (by decide)), fun t' tk => ?_⟩) (hs _)
    have e : KBy.picked ⟨l⟩ i j = ⟨sliceL l i j⟩ := KBc.picked_eq _ _ _
    rw [e]
    exact q _ _ σ₃ ow₃ ρ₃ _ _ (ex.trans (.push _)) S' (.v (.bytes _ _)) k
  · exact k₃.elim
theorem SR.ground {ow : Addr → Prop} {ρ : List Addr} {h : Heap} (O : X.Ok) (S : SR X ow ρ h σ) : ∃ mf, Fr X.h₀ X.L h mf ∧ ∀ (h' : Heap) (ρ' : List Addr) (σc : List SObj), Fr X.h₀ X.L h' mf → (∀ a ∈ ρ', a ∈ ρ) → (∀ b o, h.get? b = some o → b ≠ X.L → b ∉ ρ' → h'.get? b = some o) → (∀ b o, h.get? b = some o → ∃ o', h'.get? b = some o') →
    ρ.length = σc.length → (∀ (i : Nat) (a : Addr) (o : SObj), ρ[i]? = some a → σc[i]? = some o → ∃ ob, h'.get? a = some ob ∧ OR (Pz h' ow) X.w ρ ob o) → SR X ow ρ h' ⟨σ.loc, σc⟩ ∧ Ex X ow ρ h ow ρ h' := by
  obtain ⟨mf, ml, F, n, c1, c2, l⟩ := S.fr
  refine ⟨mf, F, fun h' ρ' σc F' sub kp lv len cel => ?_⟩
  have hp : ∀ b o, Pz h ow b o → Pz h' ow b o := fun b o e => ⟨kp b o e.1 (fun q => e.2 (q ▸ S.owL)) (fun m => e.2 (S.off b (sub b m)).1), e.2⟩
  refine ⟨⟨?_, len, cel, S.nd, S.off, S.owL, S.owl, fun a q => let ⟨o, e⟩ := S.low a q; lv a o e, S.var, fun a x e => hp a x (S.kf a x e)⟩, fun _ q => q, fun _ q => .inl q, pfx ρ, fun _ q => .inl q, fun b o e n1 _ n3 => kp b o e n3 fun m => n1 (sub b m), lv⟩
  have ln : ∀ y sv', lk y σ.loc = some sv' → ∃ v', ml y = some v' ∧ AR (Pz h' ow) X.w ρ v' sv' := fun y sv' e => let ⟨v', e1, e2⟩ := l y sv' e; ⟨v', e1, e2.mono hp (pfx ρ)⟩
  cases hc : X.comp with
  | none =>
    have hl := O.here hc
    obtain rfl := c1 hc
    exact ⟨_, _, F', by rw [hl]; exact F'.ns, fun _ => rfl, fun m q => (by cases q), ln⟩
  | some mm =>
    obtain ⟨t1, t2⟩ := O.there mm hc
    obtain ⟨o, es, ep, e, r⟩ := n
    exact ⟨mf, ml, F', ⟨o, es, ep, kp _ _ e t1 (fun m => (S.off _ (sub _ m)).2.2.2 rfl), r⟩, fun q => (by cases q), fun m q => c2 m (hc.trans q), ln⟩
noncomputable def flk (x : Str) : List (Str × SV) → Option SV
  | [] => none
  | p :: r => match Fast.sEq x p.1 with
    | true => some p.2
    | false => flk x r
noncomputable def fput (x : Str) (v : SV) : List (Str × SV) → List (Str × SV)
  | [] => [(x, v)]
  | p :: r => match Fast.sEq x p.1 with
    | true => (p.1, v) :: r
    | false => p :: fput x v r
theorem key_isStr (x y : Str) (t : Tok) : (Value.str y t).isStr x = Fast.sEq x y := by
  show (y == x) = _
  rw [str_beq]
  by_cases h : y = x
  · subst h; rfl
  · rw [sEq_false h, sEq_false (Ne.symm h)]
theorem ER.noRef {P : Addr → Obj → Prop} {w : World} {es : List DictEntry} {fs : List (Str × SV)} (h : ER P w es fs) : es.any (·.refKey) = false := by
  induction h with
  | nil => rfl
  | cons _ _ ih => rw [List.any_cons, ih]; rfl
theorem ER.getL {P : Addr → Obj → Prop} {w : World} {x : Str} {es : List DictEntry} {fs : List (Str × SV)} (h : ER P w es fs) : (match flk x fs with | some d => ∃ v, getL x es = some (some v) ∧ VR P w v d | none => getL x es = some none) := by
  induction h with
  | nil => rfl
  | cons hv r ih =>
    rename_i y t v sv es fs
    have e : W.getL x (⟨PyData.keyHash w.params y, .str y t, v⟩ :: es) = if Fast.sEq x y = true then some (some v) else W.getL x es := by
      have nr := r.noRef
      unfold W.getL
      rw [List.find?_cons]
      show (match (match (Value.str y t).isStr x with | true => some (⟨PyData.keyHash w.params y, .str y t, v⟩ : DictEntry) | false => es.find? (·.key.isStr x)) with | some e => some (some e.val) | none => _) = _
      rw [key_isStr]
      cases Fast.sEq x y
      · simp only [List.any_cons, nr]
        rfl
      · rfl
    show (match (match Fast.sEq x y with | true => some sv | false => flk x fs) with | some d => ∃ v', W.getL x _ = some (some v') ∧ VR P w v' d | none => W.getL x _ = some none)
    rw [e]
    cases Fast.sEq x y
    · exact ih
    · exact ⟨_, rfl, hv⟩
end
end
section
section
variable {X : Fx} {σ : SS} {K : AV → SS → Prop}
structure FieldOk (w : World) (C : Addr) (name : Str) : Prop where
  g : plainGet (tp.heap_1 w.params) C name = true
  h : hasDictIn (tp.heap_1 w.params) C = true
  a : ∃ attr, findIn (tp.heap_1 w.params) (.ref C) name = some attr ∧ noGet (tp.heap_1 w.params) attr = true
  s : findIn (tp.heap_1 w.params) (.ref C) "__setattr__" = some (some (.builtin "object.__setattr__"))
  p : plainOver (tp.heap_1 w.params) C = true
  t : takerIn (tp.heap_1 w.params) C name = some none
structure MethOk (w : World) (C : Addr) (name : Str) (f : Addr) : Prop where
  g : plainGet (tp.heap_1 w.params) C name = true
  m : findIn (tp.heap_1 w.params) (.ref C) name = some (some (.ref f))
  t : isFn (tp.heap_1 w.params) (.ref f) = true
  k : keepIn (tp.heap_1 w.params) (.ref f) = true
theorem VR.handed {P : Addr → Obj → Prop} {w : World} {v : Value} {d : SV} (r : VR P w v d) (hb : ∀ b, d ≠ .bi b) : handedIn v = true := by
  cases r <;> first | rfl | exact absurd rfl (hb _)
theorem inst_at {ow : Addr → Prop} {ρ : List Addr} {h : Heap} {i C j : Nat} {a : Addr} {fs : List (Str × SV)} (S : SR X ow ρ h σ) (hr : ρ[i]? = some a) (h1 : σ.cel[i]? = some (.inst C j)) (h2 : σ.cel[j]? = some (.idict fs)) :
    ∃ dx es n, ρ[j]? = some dx ∧ h.get? a = some (instObj C dx) ∧ h.get? dx = some (dictOf es n) ∧ ER (Pz h ow) X.w es fs ∧ InstAt h a (instObj C dx) C (some (dictOf es n)) := by
  obtain ⟨ob, e1, e2⟩ := S.cel i a _ hr h1
  cases e2 with | inst hj =>
  obtain ⟨ob2, e3, e4⟩ := S.cel j _ _ hj h2
  cases e4 with | idict r =>
  exact ⟨_, _, _, hj, e1, e3, r, e1, rfl, rfl, e3⟩
def isBi : SV → Bool
  | .bi _ => true
  | _ => false
def JAt (X : Fx) (name : Str) (a : AV) (σ : SS) (K : AV → SS → Prop) : Prop := ∀ ow ρ s va, SR X ow ρ s.heap σ → AR (Pz s.heap ow) X.w ρ va a → RunAt X ow ρ s (RV X) (getAttr va name true) K
noncomputable def attD (name : Str) (a : AV) (σ : SS) (k : Addr → SV → Prop) : Prop := match a with
  | .c i => (match σ.cel[i]? with
    | some (.inst C j) => (match σ.cel[j]? with
      | some (.idict fs) => (match flk name fs with | some d => k C d | none => False)
      | _ => False)
    | _ => False)
  | _ => False
theorem attD_ok {name : Str} {a : AV} (O : X.Ok) (h : attD name a σ fun C d => FieldOk X.w C name ∧ isBi d = false ∧ K (.v d) σ) : JAt X name a σ K := by
  intro ow ρ s va S ra Q E q
  unfold attD at h
  split at h
  · split at h
    · rename_i h1
      split at h
      · rename_i h2
        split at h
        · rename_i d e
          cases ra with | c hr =>
          obtain ⟨dx, es, n, _, _, _, er, I⟩ := inst_at S hr h1 h2
          obtain ⟨fo, hb, k⟩ := h
          have gl := er.getL (x := name)
          rw [e] at gl
          obtain ⟨v, gl, rv⟩ := gl
          obtain ⟨attr, a1, a2⟩ := fo.a
          obtain ⟨mf, F, _⟩ := S.ground O
          exact get_own F O.K I fo.g fo.h a1 a2 gl (rv.handed fun b q => by rw [q] at hb; cases hb) (ansV S rv k q)
        · exact h.elim
      · exact h.elim
    · exact h.elim
  · exact h.elim
theorem JE_Attr {value : Expr} {attr : Str} {pos : Pos} (he : ∀ env, eval (.Attribute value attr pos) env = (do let o ← eval value env; standAt pos.atName; let r ← holding [o] (getAttr o attr true); letTemporaryGo value o r; pure r)) (h : JE X value σ fun a σ₁ => JAt X attr a σ₁ K) : JE X (.Attribute value attr pos) σ K := by
  intro ow ρ s S Q E q
  refine Attribute_any_ (h ow ρ s S _ _ fun a sa σ₁ ow₁ ρ₁ h₁ tk₁ e₁ S₁ r₁ k₁ => ?_) (he _)
  exact k₁ ow₁ ρ₁ { s with heap := h₁, toks := tk₁ } a S₁ r₁ _ _ fun v sv σ₂ ow₂ ρ₂ h₂ tk₂ e₂ S₂ r₂ k₂ => q v sv σ₂ ow₂ ρ₂ h₂ tk₂ (e₁.trans e₂) S₂ r₂ k₂
theorem JE_AttrN {x attr : Str} {px pos : Pos} (h : JE X (.Name x px) σ fun a σ₁ => JAt X attr a σ₁ K) : JE X (.Attribute (.Name x px) attr pos) σ K := JE_Attr (fun _ => rfl) h
theorem putL_ER {P : Addr → Obj → Prop} {w : World} {x : Str} {hsh : Int} {t : Tok} {v : Value} {d : SV} (hh : hsh = PyData.keyHash w.params x) (rv : VR P w v d) {es : List DictEntry} {fs : List (Str × SV)} (h : ER P w es fs) : ER P w (putL x hsh (.str x t) v es) (fput x d fs) := by
  induction h with
  | nil => subst hh; exact .cons rv .nil
  | cons hv r ih =>
    rename_i y t' v' sv es fs
    unfold putL fput
    show ER P w (if (Value.str y t').isStr x = true then _ else _) (match Fast.sEq x y with | true => _ | false => _)
    rw [key_isStr]
    cases Fast.sEq x y
    · exact .cons hv ih
    · exact .cons rv r
theorem fput_length (x : Str) (v : SV) : ∀ fs : List (Str × SV), (fput x v fs).length ≤ fs.length + 1
  | [] => Nat.le_refl _
  | p :: r => by
    unfold fput
    cases Fast.sEq x p.1
    · exact Nat.succ_le_succ (fput_length x v r)
    · exact Nat.le_succ _
theorem ER.length {P : Addr → Obj → Prop} {w : World} {es : List DictEntry} {fs : List (Str × SV)} (h : ER P w es fs) : es.length = fs.length := by
  induction h with
  | nil => rfl
  | cons _ _ ih => rw [List.length_cons, List.length_cons, ih]
theorem ER.some_get {P : Addr → Obj → Prop} {w : World} {x : Str} {es : List DictEntry} {fs : List (Str × SV)} (h : ER P w es fs) : (W.getL x es).isSome = true := by
  have := h.getL (x := x)
  split at this
  · obtain ⟨v, e, _⟩ := this; rw [e]; rfl
  · rw [this]; rfl
noncomputable def setD (name : Str) (a : AV) (v : SV) (σ : SS) (k : Addr → SS → Prop) : Prop := match a with
  | .c i => (match σ.cel[i]? with
    | some (.inst C j) => (match σ.cel[j]? with
      | some (.idict fs) => Gd (Nat.ble fs.length 900) (k C ⟨σ.loc, σ.cel.set j (.idict (fput name v fs))⟩)
      | _ => False)
    | _ => False)
  | _ => False
def JSetA (X : Fx) (name : Str) (a : AV) (v : AV) (σ : SS) (K : SS → Prop) : Prop := ∀ ow ρ s va vv, SR X ow ρ s.heap σ → AR (Pz s.heap ow) X.w ρ va a → AR (Pz s.heap ow) X.w ρ vv v → RunAt X ow ρ s RU (setAttr va name vv) (fun _ => K)
theorem setD_ok {name : Str} {a : AV} {v : SV} {K : SS → Prop} (O : X.Ok) (h : setD name a v σ fun C σ' => FieldOk X.w C name ∧ K σ') : JSetA X name a (.v v) σ K := by
  intro ow ρ s va vv S ra rv Q E q
  replace rv := rv.inv
  unfold setD at h
  split at h
  · rename_i i
    split at h
    · rename_i C j h1
      split at h
      · rename_i fs h2
        obtain ⟨g, fo, k⟩ := h.out
        have g := Nat.le_of_ble_eq_true g
        cases ra with | c hr =>
        rename_i a
        obtain ⟨dx, es, n, hj, ea, ed, er, I⟩ := inst_at S hr h1 h2
        obtain ⟨mf, F, back⟩ := S.ground O
        obtain ⟨news, N, all⟩ := wide_news X.h₀ s.heap X.L
        have od := S.off dx (List.mem_of_getElem? hj)
        have N' : News X.h₀ X.L s.heap ((dx, dictOf es n) :: news.filter fun p => !Nat.beq p.1 dx) := fun p hp => by
          rcases List.mem_cons.mp hp with rfl | hp
          · exact ⟨ed, od.2.2.1, od.2.1⟩
          · exact N p (List.mem_filter.mp hp).1
        have er' := putL_ER (t := s.toks + 1) (hsh := PyData.keyHash X.w.params name) rfl rv er
        refine set_dict (es' := putL name (PyData.keyHash X.w.params name) (.str name (s.toks + 1)) vv es) (n' := putN name es n) F O.K N' I rfl fo.s fo.p fo.t fo.h er.some_get rfl (.head fun p hp e => ?_) (by rw [er'.length]; have := fput_length name v fs; omega) fun h' F' M' => ?_
        · have := (List.mem_filter.mp hp).2
          rw [e, Nat.beq_refl] at this; cases this
        · have kp : ∀ b o, s.heap.get? b = some o → b ≠ X.L → b ∉ [dx] → h'.get? b = some o := fun b o e nb nd => by
            cases q : X.h₀.get? b with
            | some o' =>
              have := F.keep b o' q
              rw [e] at this; cases this
              exact F'.keep b _ q
            | none =>
              refine (M' (b, o) (.tail _ (List.mem_filter.mpr ⟨all b o e nb q, ?_⟩))).1
              cases z : Nat.beq b dx with
              | false => rfl
              | true => exact absurd (List.mem_singleton.mpr (Nat.eq_of_beq_eq_true z)) nd
          have gd := (M' _ (.head _)).1
          have lv : ∀ b o, s.heap.get? b = some o → ∃ o', h'.get? b = some o' := fun b o e => by
            by_cases hb : b = X.L
            · subst hb; obtain ⟨o', _, _, e', _⟩ := F'.ns; exact ⟨o', e'⟩
            · by_cases hd : b = dx
              · subst hd; exact ⟨_, gd⟩
              · exact ⟨o, kp b o e hb (fun m => hd (List.mem_singleton.mp m))⟩
          have sub : ∀ b ∈ [dx], b ∈ ρ := fun b m => by rw [List.mem_singleton.mp m]; exact List.mem_of_getElem? hj
          have hp : ∀ b o, Pz s.heap ow b o → Pz h' ow b o := fun b o e => ⟨kp b o e.1 (fun q => e.2 (q ▸ S.owL)) (fun m => e.2 (S.off b (sub b m)).1), e.2⟩
          obtain ⟨S', ex⟩ := back h' [dx] (σ.cel.set j (.idict (fput name v fs))) F' sub kp lv (by rw [List.length_set]; exact S.len) fun m b o f1 f2 => by
            by_cases hm : j = m
            · subst hm
              rw [hj] at f1; cases f1
              rw [List.getElem?_set_self (List.getElem?_eq_some_iff.mp h2).1] at f2; cases f2
              exact ⟨_, gd, .idict (er'.mono hp)⟩
            · rw [List.getElem?_set_ne hm] at f2
              obtain ⟨ob, e3, e4⟩ := S.cel m b o f1 f2
              refine ⟨ob, kp b ob e3 (S.off b (List.mem_of_getElem? f1)).2.2.1 (fun z => hm ?_), e4.mono hp (pfx ρ)⟩
              have e := List.mem_singleton.mp z
              subst e
              obtain ⟨l1, g1⟩ := List.getElem?_eq_some_iff.mp hj
              obtain ⟨l2, g2⟩ := List.getElem?_eq_some_iff.mp f1
              exact (List.getElem_inj S.nd).mp (g1.trans g2.symm)
          exact q () () _ ow ρ h' _ ex S' trivial k
      · exact h.elim
    · exact h.elim
  · exact h.elim
theorem JA_Attr {o : Expr} {attr : Str} {pos : Pos} {v : AV} {K : SS → Prop} (h : JE X o σ fun a σ₁ => JSetA X attr a v σ₁ K) : JA X (.Attribute o attr pos) v σ K := by
  intro ow ρ s va S r Q E q
  refine kas_attr (h ow ρ s S _ _ fun a sa σ₁ ow₁ ρ₁ h₁ tk₁ e₁ S₁ r₁ k₁ => ?_)
  exact k₁ ow₁ ρ₁ { s with heap := h₁, toks := tk₁ } a va S₁ r₁ (S.ar e₁ r) _ _ fun _ _ σ₂ ow₂ ρ₂ h₂ tk₂ e₂ S₂ _ k₂ => q () () σ₂ ow₂ ρ₂ h₂ tk₂ (e₁.trans e₂) S₂ trivial k₂
end
end
section
section
variable {X : Fx} {σ : SS} {K : AV → SS → Prop}
theorem JE_str {x : Str} {k : Nat} {pos : Pos} (h : K (.v (.str x)) σ) : JE X (.Constant (.str x) k pos) σ K := fun ow ρ s S Q E q => wpAny_Constant_str (ansV S (.str _ _) h q)
theorem JE_none {k : Nat} {pos : Pos} (h : K (.v .none) σ) : JE X (.Constant .none k pos) σ K := fun ow ρ s S Q E q => wpAny_Constant_none (q _ _ σ ow ρ s.heap s.toks .refl S (.v .none) h)
theorem JE_bool {b : Bool} {k : Nat} {pos : Pos} (h : K (.v (.bool b)) σ) : JE X (.Constant (.bool b) k pos) σ K := fun ow ρ s S Q E q => wpAny_Constant_bool (q _ _ σ ow ρ s.heap s.toks .refl S (.v (.bool b)) h)
theorem JE_bytes {x : List UInt8} {k : Nat} {pos : Pos} (h : K (.v (.bytes x)) σ) : JE X (.Constant (.bytes x) k pos) σ K := fun ow ρ s S Q E q => Constant_bytes (ansV S (.bytes x _) h q)
theorem JE_Or2 {a b : Expr} {pos : Pos} (h : JE X a σ fun v σ₁ => JTr X v σ₁ fun c σ₂ => Br c (v = v ∧ K v σ₂) (JE X b σ₂ K)) : JE X (.BoolOp .Or [a, b] pos) σ K := by
  intro ow ρ s S Q E q
  refine BoolOp_or (h ow ρ s S _ _ fun va sa σ₁ ow₁ ρ₁ h₁ tk₁ e₁ S₁ r₁ k₁ => ?_)
  refine k₁ ow₁ ρ₁ { s with heap := h₁, toks := tk₁ } va S₁ r₁ _ _ fun c c' σ₂ ow₂ ρ₂ h₂ tk₂ e₂ S₂ r₂ k₂ => ?_
  obtain rfl : c = c' := r₂
  cases c
  · rw [if_neg (by decide)]
    have one : eval (.BoolOp .Or [b] pos) X.env = eval b X.env := rfl
    rw [one]
    exact k₂ ow₂ ρ₂ { s with heap := h₂, toks := tk₂ } S₂ _ _ fun v sv σ₃ ow₃ ρ₃ h₃ tk₃ e₃ S₃ r₃ k₃ => q v sv σ₃ ow₃ ρ₃ h₃ tk₃ ((e₁.trans e₂).trans e₃) S₃ r₃ k₃
  · rw [if_pos rfl]
    exact q va sa σ₂ ow₂ ρ₂ h₂ tk₂ (e₁.trans e₂) S₂ (S₁.ar e₂ r₁) k₂.2
theorem JE_Not {x : Expr} {pos : Pos} (h : JE X x σ fun v σ₁ => JTr X v σ₁ fun b σ₂ => K (.v (.bool (!b))) σ₂) : JE X (.UnaryOp .Not x pos) σ K := JE_UnaryOp (h.mono fun v σ₁ k ow ρ s va S r Q E q =>
  not_value (k ow ρ s va S r _ _ fun b b' σ₂ ow₂ ρ₂ h₂ tk₂ e₂ S₂ r₂ k₂ => by
    obtain rfl : b = b' := r₂
    exact q _ _ σ₂ ow₂ ρ₂ h₂ tk₂ e₂ S₂ (.v (.bool _)) k₂))
theorem JE_USub {x : Expr} {pos : Pos} (h : JE X x σ fun v σ₁ => intD v fun i => K (.v (.int (-i))) σ₁) : JE X (.UnaryOp .USub x pos) σ K := JE_UnaryOp (h.mono fun v σ₁ k ow ρ s va S r Q E q => by
  obtain ⟨i, t, rfl, k⟩ := intD_out r k
  exact PyProof.Rows.neg_int (ansV S (.int _ _) k q))
def mOk (args : List Expr) (apos pos : Pos) : Bool := noStar args && Nat.ble args.length 20 && Nat.beq apos.endLine pos.line
def isBase : Expr → Bool
  | .Name _ _ => true
  | .Constant _ _ _ => true
  | _ => false
theorem mform {env : Env} {args : List Expr} {apos pos : Pos} (h : mOk args apos pos = true) : methodCallForm (args.length + ([] : List Keyword).length) (backTo pos (starEach args env)) (backToKw pos (keywordEach [] env)) = true := by
  unfold mOk at h
  obtain ⟨h, h3⟩ := Bool.and_eq_true_iff.mp h
  obtain ⟨h1, h2⟩ := Bool.and_eq_true_iff.mp h
  have h2 := Nat.le_of_ble_eq_true h2
  have np := noStar_plain (env := env) (pos := pos) h1
  unfold methodCallForm
  have e1 : (backTo pos (starEach args env)).all (!·.1) = true := by
    rw [List.all_eq_true]
    intro x hx
    have := List.any_eq_false.mp np x hx
    simpa using this
  have e2 : (backToKw pos (keywordEach [] env)) = [] := rfl
  rw [e1, e2]
  simp
  omega
theorem mcall {o : Expr} {name : Str} {apos pos : Pos} {args : List Expr} {env : Env} {M : Model} {A : Around} {s : Shared} {Q E : Value → Shared → Prop} (hb : isBase o = true) (h : mOk args apos pos = true)
    (k : ∀ pl, wpAny M A (eval o env) (fun ov s₁ => wpAny M A (getMethod ov name pl) (fun fx s₂ => wpAny M A (callWith pos fx.1 fx.2 (backTo pos (starEach args env)) []) Q E s₂) E s₁) E s) : wpAny M A (eval (.Call (.Attribute o name apos) args [] pos) env) Q E s := by
  have ab : attributeBase o name env (eval o env) = eval o env := by cases o <;> first | rfl | cases hb
  have e : eval (.Call (.Attribute o name apos) args [] pos) env = (do
    let ov ← attributeBase o name env (eval o env)
    standAt apos.atName
    methodCall o name apos pos env ov (args.length + ([] : List Keyword).length) (backTo pos (starEach args env)) (backToKw pos (keywordEach [] env))) := rfl
  have hl : (apos.endLine == pos.line) = true := by
    unfold mOk at h
    have := (Bool.and_eq_true_iff.mp h).2
    rw [Nat.eq_of_beq_eq_true this]; simp
  rw [e, ab]
  refine wpAny_bind (wpAny_mono (k (do return (← importBound o env).getD true)) (fun ov s₁ h₁ => wpAny_bind (wpAny_standAt ?_)) fun _ _ x => x)
  unfold methodCall
  rw [mform h]
  unfold calleeOf methodCallPos
  simp only [hl, if_true, Bool.not_true, Bool.or_true]
  exact wpAny_bind (wpAny_holding (wpAny_mono h₁ (fun fx s₂ h₂ => wpAny_bind (wpAny_pure h₂)) fun _ _ x => x))
noncomputable def methD (name : Str) (a : AV) (σ : SS) (k : Addr → Prop) : Prop := match a with
  | .c i => (match σ.cel[i]? with
    | some (.inst C j) => (match σ.cel[j]? with
      | some (.idict fs) => (match flk name fs with | none => k C | some _ => False)
      | _ => False)
    | _ => False)
  | _ => False
theorem run_meth {name : Str} {a : AV} {σ : SS} {C' : Addr → Prop} {ow : Addr → Prop} {ρ : List Addr} {s : Shared} {va : Value} {pl : Sem Bool} (O : X.Ok) (S : SR X ow ρ s.heap σ) (ra : AR (Pz s.heap ow) X.w ρ va a) (h : methD name a σ C') : ∃ C, C' C ∧ ∀ f, MethOk X.w C name f → ∀ (Q : Value × List Value → Shared → Prop) (E : Value → Shared → Prop), Q (.ref f, [va]) s → wpAny (model lawP X.w) X.A (getMethod va name pl) Q E s := by
  unfold methD at h
  split at h
  · split at h
    · rename_i h1
      split at h
      · rename_i h2
        split at h
        · rename_i e
          cases ra with | c hr =>
          obtain ⟨dx, es, n, _, _, _, er, I⟩ := inst_at S hr h1 h2
          refine ⟨_, h, fun f m Q E q => ?_⟩
          have gl := er.getL (x := name)
          rw [e] at gl
          obtain ⟨mf, F, _⟩ := S.ground O
          exact method_inst F O.K I m.g m.m m.t gl q
        · exact h.elim
      · exact h.elim
    · exact h.elim
  · exact h.elim
def JGm (X : Fx) (name : Str) (a : AV) (σ : SS) (id : String) : Prop := ∀ ow ρ s va pl, SR X ow ρ s.heap σ → AR (Pz s.heap ow) X.w ρ va a → ∀ (Q : Value × List Value → Shared → Prop) (E : Value → Shared → Prop), Q (.builtin id, [va]) s → wpAny (model lawP X.w) X.A (getMethod va name pl) Q E s
theorem JGm_list {name : Str} {id : String} {i : Nat} {l : List SV} (slot : Slot "list" name id) (hty : typeOf (.builtin id) = pure (.type "method_descriptor")) (hl : σ.cel[i]? = some (.lst l)) : JGm X name (.c i) σ id := by
  intro ow ρ s va pl S ra Q E q
  cases ra with | c hr =>
  obtain ⟨ob, e1, e2⟩ := S.cel _ _ _ hr hl
  cases e2 with | lst r =>
  exact getMethod_builtin ⟨_, e1, rfl⟩ PySem.F.plainAttrs_list slot hty (fun a e => by cases e; exact ⟨_, e1, rfl⟩) q
theorem JGm_dic {l : List (SV × SV)} : JGm X "get" (.v (.dic l)) σ "dict.get" := by
  intro ow ρ s va pl S ra Q E q
  obtain ⟨a, es, n, rfl, e1, lo, dr⟩ := dic_of ra.inv
  exact getMethod_builtin ⟨_, e1, rfl⟩ PySem.F.plainAttrs_dict PySem.F.slot_dict_get PySem.F.type_dict_get (fun a e => by cases e; exact ⟨_, e1, rfl⟩) q
theorem JGm_tup {l : List SV} : JGm X "index" (.v (.tup l)) σ "tuple.index" := by
  intro ow ρ s va pl S ra Q E q
  obtain ⟨a, es, n, rfl, e1, dr⟩ := tup_of ra.inv
  exact getMethod_builtin ⟨_, e1, rfl⟩ PySem.F.plainAttrs_tuple PySem.F.slot_tuple_index PySem.F.type_tuple_index (fun a e => by cases e; exact ⟨_, e1, rfl⟩) q
theorem lst_update {h : Heap} {a : Addr} {vs : List Value} {n : Nat} (e : h.get? a = some (listOf vs.toArray n)) (f : Array Value → Array Value) : ∃ m, (h.update a (Obj.mapSeq f)).get? a = some (listOf (f vs.toArray) m) := ⟨_, IsL.update e f⟩
theorem run_append {i : Nat} {l : List SV} {d : SV} (hl : σ.cel[i]? = some (.lst l)) (hz : l.length ≤ 1000) (h : K (.v .none) ⟨σ.loc, σ.cel.set i (.lst (l ++ [d]))⟩) : JCall X (.builtin "list.append") [.c i, .v d] σ K := by
  intro ow ρ s vs S R Q E q
  cases R with | cons r rs => cases rs with | cons r2 rs => cases rs with | nil =>
  cases r with | c hr =>
  rename_i a
  replace r2 := r2.inv
  rename_i v2
  obtain ⟨ob, e1, e2⟩ := S.cel _ _ _ hr hl
  cases e2 with | lst r1 =>
  rename_i vs n
  refine call_meets PySem.F.slot_list_append ⟨_, e1, rfl⟩ PySem.F.entry_list_append (PySem.F.args_list_append_2 _ _) (list_append a vs.toArray n v2 (by rw [List.size_toArray, r1.length]; exact Nat.le_trans hz (by decide))) ⟨e1, ?_⟩
  obtain ⟨m, em⟩ := lst_update e1 (fun x => x.push v2)
  have e : vs.toArray.push v2 = (vs ++ [v2]).toArray := by simp
  rw [e] at em
  obtain ⟨S', ex⟩ := S.setCell hr (Heap.SameBut.update ..) em (.lst (r1.append (.cons r2 .nil)))
  exact q _ _ _ _ _ _ s.toks ex S' (.v .none) h
theorem run_extend {i : Nat} {l l2 : List SV} (hl : σ.cel[i]? = some (.lst l)) (hz : l.length + l2.length ≤ 1000) (h : K (.v .none) ⟨σ.loc, σ.cel.set i (.lst (l ++ l2))⟩) : JCall X (.builtin "list.extend") [.c i, .v (.lst l2)] σ K := by
  intro ow ρ s vs S R Q E q
  cases R with | cons r rs => cases rs with | cons r2 rs => cases rs with | nil =>
  cases r with | c hr =>
  rename_i a
  obtain ⟨b, ws, m, rfl, eb, r2⟩ := lst_of r2.inv
  obtain ⟨ob, e1, e2⟩ := S.cel _ _ _ hr hl
  cases e2 with | lst r1 =>
  rename_i vs n
  have hsz' : vs.toArray.size + ws.toArray.size ≤ sizeLine := by rw [List.size_toArray, List.size_toArray, r1.length, r2.length]; exact Nat.le_trans hz (by decide)
  refine call_meets PySem.F.slot_list_extend ⟨_, e1, rfl⟩ PySem.F.entry_list_extend (PySem.F.args_list_extend_2 _ _) (AutoSeq1.list_extend_list_list_0 a vs.toArray n b ws.toArray m (extend_door hsz') (Nat.le_trans (Nat.le_add_right _ _) hsz')) ⟨e1, eb, ?_⟩
  obtain ⟨k, em⟩ := lst_update e1 (fun x => x ++ ws.toArray)
  have e : vs.toArray ++ ws.toArray = (vs ++ ws).toArray := by simp
  rw [e] at em
  obtain ⟨S', ex⟩ := S.setCell hr (Heap.SameBut.update ..) em (.lst (r1.append r2))
  exact q _ _ _ _ _ _ s.toks ex S' (.v .none) h
theorem run_get {l : List (SV × SV)} {x : Str} {d : SV} {o : Option SV} (ho : dlkS x l = some o) (h : K (.v (o.getD d)) σ) : JCall X (.builtin "dict.get") [.v (.dic l), .v (.str x), .v d] σ K := by
  intro ow ρ s vs S R Q E q
  cases R with | cons r rs => cases rs with | cons r2 rs => cases rs with | cons r3 rs => cases rs with | nil =>
  obtain ⟨a, es, n, rfl, e1, lo, dr⟩ := dic_of r.inv
  obtain ⟨t, rfl⟩ := r2.inv.str_inv
  replace r3 := r3.inv
  obtain ⟨hk, hf⟩ := dr.strs ho
  have hm := mapS (w := X.w) e1 hk
  refine call_meetsIn PySem.F.slot_dict_get hm.typeIs PySem.F.entry_dict_get (PySem.F.args_dict_get_3 _ _ _) (meets_dict_get_default _ a (strKind_is _ _ x t) lo _) ⟨_, hm, ?_⟩
  cases o with
  | none =>
    have hf : findBy Value.isStrOf es.toArray x = none := hf
    rw [hf]
    exact ansV S r3 h q
  | some d' =>
    obtain ⟨v, hf, rv⟩ := hf
    rw [hf]
    exact ansV S rv h q
end
end
section
section
variable {X : Fx} {σ : SS} {K : AV → SS → Prop}
theorem setItem_exact {prog : Program} {w : World} {A : Around} {E : Value → Shared → Prop} {s : Shared} {l : Addr} {items : Array Value} {n : Nat} {k : Int} {t : Tok} {v : Value} {Q : Unit → Shared → Prop} (ho : s.heap.get? l = some (listOf items n)) (h0 : 0 ≤ k) (hfit : k < 2 ^ 63) (hn : k < items.size)
    (hQ : ∀ h' m, h'.get? l = some (listOf (items.setIfInBounds k.toNat v) m) → Heap.SameBut l s.heap h' → Q () { s with heap := h' }) :
    wpAny (model prog w) A (setItem (.ref l) (.int k t) v) Q E s := by
  have hl : s.heap.IsList l items := ⟨_, ho, rfl, n, rfl⟩
  unfold setItem
  try with_reducible refine wpAny_holding ?_
  first | refine wpAny_bind (wpAny_pure ?_) | skip
  refine wpAny_bind (wpAny_sequenceKey hl.typeIs (by decide) ?_)
  refine wpAny_bind (wpAny_callSpecial?_slot (name := Str.ofString "__setitem__") hl.typeIs PySem.slot_list_setitem
    (wpAny_call_entry PySem.slot_list_setitem hl.typeIs PySem.entry_list_setitem ?_ (PySem.args_list_setitem _ _ _)))
  show wpAny _ _ (Builtin.List.listSubscript? (.int k t) >>= _) _ _ s
  refine wpAny_bind (wpAny_listSubscript_int (fitsIndex_of h0 hfit) ?_)
  clear hfit
  obtain ⟨j, rfl⟩ := Int.eq_ofNat_of_zero_le h0
  have hj : j < items.size := by omega
  have hx' : items[j]? = some items[j] := Array.getElem?_eq_getElem hj
  show wpAny _ _ ((seqItemAt l j >>= fun r => pure (r.map (j, ·))) >>= _) _ _ s
  refine wpAny_bind (wpAny_bind (wpAny_seqItemAt ho rfl (wpAny_pure ?_)))
  rw [hx']
  show wpAny _ _ (setSeqItemAt l j v >>= _) _ _ s
  have hfin := IsL.update (l := l) (items := items) (n := n) ho (·.setIfInBounds j v)
  refine wpAny_bind (wpAny_setSeqItemAt ho rfl ?_)
  first
    | exact wpAny_bind (wpAny_pure (wpAny_pure ⟨.none, rfl, wpAny_pure (hQ _ _ hfin (Heap.SameBut.update ..))⟩))
    | exact wpAny_pure ⟨.none, rfl, wpAny_pure (hQ _ _ hfin (Heap.SameBut.update ..))⟩
def setItD (a i : AV) (v : SV) (σ : SS) (k : SS → Prop) : Prop := match a with
  | .c n => (match σ.cel[n]? with
    | some (.lst l) => (match i with
      | .v (.int (.ofNat j)) => Gd (Nat.blt j l.length && Nat.ble l.length 1000) (k ⟨σ.loc, σ.cel.set n (.lst (l.set j v))⟩)
      | _ => False)
    | _ => False)
  | _ => False
theorem VRs.set {P : Addr → Obj → Prop} {w : World} {v : Value} {d : SV} (rv : VR P w v d) : ∀ {vs : List Value} {l : List SV} (j : Nat), VRs P w vs l → VRs P w (vs.set j v) (l.set j d)
  | _, _, _, .nil => .nil
  | _, _, 0, .cons _ r => .cons rv r
  | _, _, j + 1, .cons h r => .cons h (VRs.set rv j r)
def JSetI (X : Fx) (a i v : AV) (σ : SS) (K : SS → Prop) : Prop := ∀ ow ρ s va vi vv, SR X ow ρ s.heap σ → AR (Pz s.heap ow) X.w ρ va a → AR (Pz s.heap ow) X.w ρ vi i → AR (Pz s.heap ow) X.w ρ vv v → RunAt X ow ρ s RU (setItem va vi vv) (fun _ => K)
theorem setItD_ok {a i : AV} {v : SV} {K : SS → Prop} (h : setItD a i v σ K) : JSetI X a i (.v v) σ K := by
  intro ow ρ s va vi vv S ra ri rv Q E q
  replace rv := rv.inv
  unfold setItD at h
  split at h
  · split at h
    · rename_i hl
      split at h
      · rename_i j
        obtain ⟨g, h⟩ := h.out
        obtain ⟨g1, g2⟩ := Bool.and_eq_true_iff.mp g
        have g1 := Nat.le_of_ble_eq_true g1
        have g2 := Nat.le_of_ble_eq_true g2
        cases ra with | c hr =>
        obtain ⟨u, rfl⟩ := ri.inv.int_inv
        obtain ⟨ob, e1, e2⟩ := S.cel _ _ _ hr hl
        cases e2 with | lst r1 =>
        rename_i vs n
        refine setItem_exact e1 (by simp) (by simp; omega) (by rw [List.size_toArray, r1.length]; simp; exact g1) fun h' m em hs => ?_
        have e : vs.toArray.setIfInBounds (Int.ofNat j).toNat vv = (vs.set j vv).toArray := by simp
        rw [e] at em
        obtain ⟨S', ex⟩ := S.setCell hr hs em (.lst (VRs.set rv j r1))
        exact q () () _ _ _ _ s.toks ex S' trivial h
      · exact h.elim
    · exact h.elim
  · exact h.elim
theorem JS_AugA {o value : Expr} {attr : Str} {tpos pos : Pos} {K : SF → SS → Prop} (h : JE X o σ fun a σ₁ => JAt X attr a σ₁ fun old σ₂ => JE X value σ₂ fun v σ₃ => intD old fun x => intD v fun y => JSetA X attr a (.v (.int (x + y))) σ₃ fun σ₄ => K .next σ₄) : JS X (.AugAssign (.Attribute o attr tpos) .Add value pos) σ K := by
  intro ow ρ s S Q E q
  refine wpAny_AugAssign_AttributeAny (h ow ρ s S _ _ fun a sa σ₁ ow₁ ρ₁ h₁ tk₁ e₁ S₁ r₁ k₁ => ?_)
  refine k₁ ow₁ ρ₁ { s with heap := h₁, toks := tk₁ } a S₁ r₁ _ _ fun b sb σ₂ ow₂ ρ₂ h₂ tk₂ e₂ S₂ r₂ k₂ => ?_
  refine k₂ ow₂ ρ₂ { s with heap := h₂, toks := tk₂ } S₂ _ _ fun c sc σ₃ ow₃ ρ₃ h₃ tk₃ e₃ S₃ r₃ k₃ => ?_
  obtain ⟨x, t, rfl, k₃⟩ := intD_out r₂ k₃
  obtain ⟨y, u, rfl, k₃⟩ := intD_out r₃ k₃
  refine iadd_int ?_
  have ex := (e₁.trans e₂).trans e₃
  exact k₃ ow₃ ρ₃ { s with heap := h₃, toks := tk₃ + 1 } a _ S₃ (S₁.ar (e₂.trans e₃) r₁) (.v (.int _ _)) _ _ fun _ _ σ₄ ow₄ ρ₄ h₄ tk₄ e₄ S₄ _ k₄ => q .next .next σ₄ ow₄ ρ₄ h₄ tk₄ (ex.trans e₄) S₄ .next k₄
def constV : Expr → Option SV
  | .Constant (.str x) _ _ => some (.str x)
  | .Constant (.int i) _ _ => some (.int i)
  | _ => none
def constD : List (Option Expr) → List Expr → Option (List (Str × SV))
  | [], [] => some []
  | some (.Constant (.str x) _ _) :: ks, v :: vs => (match constV v with | some d => (constD ks vs).map ((x, d) :: ·) | none => none)
  | _, _ => none
inductive CPairs : List (Value × Value) → List (Str × SV) → Prop
  | nil : CPairs [] []
  | cons {x : Str} {t : Tok} {v : Value} {d : SV} {vs : List (Value × Value)} {ds : List (Str × SV)} : (∀ P w, VR P w v d) → CPairs vs ds → CPairs ((.str x t, v) :: vs) ((x, d) :: ds)
theorem constD_facts : ∀ {ks : List (Option Expr)} {vs : List Expr} {l : List (Str × SV)}, constD ks vs = some l → ks.all (·.isSome) = true ∧ ks.length = vs.length ∧ ks.length = l.length
  | [], [], l, e => by cases e; exact ⟨rfl, rfl, rfl⟩
  | [], _ :: _, _, e => by cases e
  | none :: _, _, _, e => by simp [constD] at e
  | some k :: ks, [], _, e => by unfold constD at e; split at e <;> simp_all
  | some k :: ks, v :: vs, l, e => by
    unfold constD at e
    split at e
    · rename_i q _; cases q
    · rename_i q1 q2
      cases q1; cases q2
      split at e
      · cases q : constD ks vs with
        | none => rw [q] at e; cases e
        | some l' =>
          rw [q] at e; cases e
          obtain ⟨a, b, c⟩ := constD_facts q
          exact ⟨by rw [List.all_cons, a]; rfl, by rw [List.length_cons, List.length_cons, b], by rw [List.length_cons, List.length_cons, c]⟩
      · cases e
    · cases e
theorem constD_run {prog : Program} {w : World} {A : Around} {E : Value → Shared → Prop} {env : Env} {pos : Pos} : ∀ {ks : List (Option Expr)} {vs : List Expr} {l : List (Str × SV)}, constD ks vs = some l → ∀ {s : Shared} {Q : List (Value × Value) → Shared → Prop}, (∀ ps tk, CPairs ps l → Q ps { s with toks := tk }) → wpAny (model prog w) A (evalPairs (pairTrees ks vs env pos)) Q E s
  | [], [], l, e, s, Q, q => by cases e; exact pairTrees_nil_walk (q [] s.toks .nil)
  | [], _ :: _, _, e, _, _, _ => by cases e
  | none :: _, _, _, e, _, _, _ => by simp [constD] at e
  | some k :: ks, [], _, e, _, _, _ => by unfold constD at e; split at e <;> simp_all
  | some k :: ks, v :: vs, l, e, s, Q, q => by
    unfold constD at e
    split at e
    · rename_i q1 _; cases q1
    · rename_i q1 q2
      cases q1; cases q2
      split at e
      · rename_i d hd
        cases q3 : constD ks vs with
        | none => rw [q3] at e; cases e
        | some l' =>
          rw [q3] at e; cases e
          refine pairTrees_cons_walk (wpAny_Constant_str ?_)
          unfold constV at hd
          split at hd
          · cases hd
            exact wpAny_Constant_str (constD_run q3 fun ps tk c => q _ tk (.cons (fun P w => .str _ _) c))
          · cases hd
            exact wpAny_Constant_int (constD_run q3 fun ps tk c => q _ tk (.cons (fun P w => .int _ _) c))
          · cases hd
      · cases e
    · cases e
theorem CPairs.all {ps : List (Value × Value)} {l : List (Str × SV)} (c : CPairs ps l) : allStrKeys ps = true ∧ (strPairs ps).map (·.1) = l.map (·.1) := by
  induction c with
  | nil => exact ⟨rfl, rfl⟩
  | cons _ _ ih => exact ⟨ih.1, by show _ :: _ = _ :: _; rw [ih.2]⟩
theorem CPairs.drs {P : Addr → Obj → Prop} {w : World} {ps : List (Value × Value)} {l : List (Str × SV)} (c : CPairs ps l) : ∀ {es : List DictEntry}, Pairs (strKind lawP w) es (strPairs ps) → (∀ e ∈ es, ∃ k, (strKind lawP w).is k e.key = true ∧ e.hash = (strKind lawP w).hash k) → DRs P w es (l.map fun p => (.str p.1, p.2)) := by
  induction c with
  | nil => intro es p _; cases p; exact .nil
  | cons hv _ ih =>
    rename_i x t v d vs ds c
    intro es p hk
    have p : Pairs (strKind lawP w) es ((x, v) :: strPairs vs) := p
    cases p with
    | cons h1 h2 h3 =>
      rename_i e es
      obtain ⟨u, hu⟩ := Value.isStrOf_shape h1
      obtain ⟨k, f1, f2⟩ := hk e (.head _)
      obtain ⟨u', hu'⟩ := Value.isStrOf_shape f1
      rw [hu] at hu'
      cases hu'
      exact .cons (.str hu f2) (by rw [h2]; exact hv _ _) (ih h3 fun e m => hk e (.tail _ m))
theorem JE_DictC {keys : List (Option Expr)} {values : List Expr} {pos : Pos} {l : List (Str × SV)} (O : X.Ok) (hc : constD keys values = some l) (hn : (nodupB (l.map (·.1)) && Nat.ble l.length 15 && Nat.ble 1 l.length) = true) (h : K (.v (.dic (l.map fun p => (.str p.1, p.2)))) σ) : JE X (.Dict keys values pos) σ K := by
  intro ow ρ s S Q E q
  obtain ⟨a1, a2, a3⟩ := constD_facts hc
  obtain ⟨hn, n3⟩ := Bool.and_eq_true_iff.mp hn
  obtain ⟨n1, n2⟩ := Bool.and_eq_true_iff.mp hn
  have n2 := Nat.le_of_ble_eq_true n2
  have n3 := Nat.le_of_ble_eq_true n3
  have S' := S.push { cls := .type "dict", data := .dict #[] }
  refine wpAny_Dict_walk (knd := strKind lawP X.w) a1 a2 (fun e => by rw [e] at a3; simp at a3; omega) (by omega) ?_
  refine constD_run hc fun ps tk c => ?_
  obtain ⟨c1, c2⟩ := c.all
  refine display_done_str c1 (by rw [c2]; exact nodupB_ok n1) (Heap.DictOf.new (knd := strKind lawP X.w) s.heap) fun h' hd hs => ?_
  obtain ⟨o, es, ep, ho, ⟨x1, x2, x3⟩, hd, hk, hp, _⟩ := hd
  have eo : o = dictOf es.toList ep := by
    obtain ⟨oc, od, odt, osl⟩ := o
    simp only at x1 x2 x3 hd
    subst x1 x2 x3 hd
    simp
  have up : ∀ b x, s.heap.get? b = some x → h'.get? b = some x := fun b x e => (hs.2 b (Nat.ne_of_lt (Heap.lt_size e))).trans (Heap.get?_push_of_some _ e)
  have nw : ¬ ow s.heap.objs.size := fun q => let ⟨_, e⟩ := S.low _ q; no_get e (none_size s.heap)
  have lo : (s.heap.objs.size == sysModules) = false := by
    obtain ⟨mf, F, _⟩ := S.ground O
    obtain ⟨mean, mg, mb, T⟩ := O.T
    have := F.notModules (modules_low T.nolimit)
    simpa using this
  exact q _ _ σ ow ρ h' _ (.grow up) (S.grow up) (.v (.dic ⟨by rw [ho, eo], nw⟩ lo (c.drs hp fun e m => hk e (by simpa using m)))) h
end
end
section
section
variable {X : Fx} {σ : SS} {K : SF → SS → Prop}
theorem SR.hid {ow₀ ow ow' : Addr → Prop} {ρ₀ ρ : List Addr} {hs h h' : Heap} {wr : List Addr} (S : SR X ow ρ h σ) (e : Ex X ow₀ ρ₀ hs ow ρ h) (kp : ∀ b o, b ∉ wr → h.get? b = some o → h'.get? b = some o)
    (hw : ∀ a ∈ wr, ow a ∧ hs.get? a = none ∧ a ∉ ρ ∧ a ≠ X.L ∧ a ≠ X.env.locals ∧ X.h₀.get? a = none) (h1 : ∀ b, ow' b → ow b) (h2 : ∀ b, ow b → ow' b ∨ (b ∉ ρ ∧ b ≠ X.L ∧ b ≠ X.env.locals ∧ ¬ ow₀ b)) (h3 : ∀ b, ow' b → b ∈ wr → ∃ o, h'.get? b = some o) : SR X ow' ρ h' σ ∧ Ex X ow₀ ρ₀ hs ow' ρ h' := by
  have hp : ∀ b o, Pz h ow b o → Pz h' ow' b o := fun b o p => ⟨kp b o (fun m => p.2 (hw b m).1) p.1, fun q => p.2 (h1 b q)⟩
  have nsk : ∀ {a : Addr} {m : Str → Option Value}, a ∉ wr → h.Ns a m → h'.Ns a m := fun na hn => by
    obtain ⟨o, es, ep, e, r⟩ := hn; exact ⟨o, es, ep, kp _ _ na e, r⟩
  obtain ⟨mf, ml, F, n, c1, c2, l⟩ := S.fr
  refine ⟨⟨⟨mf, ml, ⟨nsk (fun m => (hw _ m).2.2.2.1 rfl) F.ns, fun b o e => kp b o (fun m => no_get e (hw b m).2.2.2.2.2) (F.keep b o e), F.above⟩, nsk (fun m => (hw _ m).2.2.2.2.1 rfl) n, c1, c2, fun x sv e' => let ⟨v, e1, e2⟩ := l x sv e'; ⟨v, e1, e2.mono hp (pfx ρ)⟩⟩,
    S.len, fun i a so e1 e2 => ?_, S.nd, fun a ha => ⟨((h2 a (S.off a ha).1).resolve_right fun q => q.1 ha), (S.off a ha).2⟩, (h2 _ S.owL).resolve_right fun q => q.2.1 rfl, (h2 _ S.owl).resolve_right fun q => q.2.2.1 rfl, fun a q => ?_, S.var, fun a x e => hp a x (S.kf a x e)⟩,
    fun b q => (h2 b (e.own b q)).resolve_right fun z => z.2.2.2 q, fun b q => e.new b (h1 b q), e.pre, e.fresh, fun b o e' n1 n2 n3 => kp b o (fun m => no_get e' (hw b m).2.1) (e.keep b o e' n1 n2 n3), fun b o e' => ?_⟩
  · obtain ⟨ob, e3, e4⟩ := S.cel i a so e1 e2
    exact ⟨ob, kp a ob (fun m => (hw a m).2.2.1 (List.mem_of_getElem? e1)) e3, e4.mono hp (pfx ρ)⟩
  · by_cases m : a ∈ wr
    · exact h3 a q m
    · obtain ⟨o, e'⟩ := S.low a (h1 a q); exact ⟨o, kp a o m e'⟩
  · obtain ⟨o', e''⟩ := e.live b o e'
    exact ⟨o', kp b o' (fun m => no_get e' (hw b m).2.1) e''⟩
theorem SR.hide {ow : Addr → Prop} {ρ : List Addr} {h : Heap} (S : SR X ow ρ h σ) (o : Obj) (hf : o.isFreed = false) : SR X (fun b => ow b ∨ b = h.objs.size) ρ (h.push o) σ ∧ Ex X ow ρ h (fun b => ow b ∨ b = h.objs.size) ρ (h.push o) := by
  have up := push_up (h := h) o
  have nz := none_size h
  have hp : ∀ b x, Pz h ow b x → Pz (h.push o) (fun b => ow b ∨ b = h.objs.size) b x := fun b x e => ⟨up b x e.1, fun q => q.elim e.2 fun (q : b = h.objs.size) => no_get (q ▸ e.1) nz⟩
  obtain ⟨mf, ml, F, n, c1, c2, l⟩ := S.fr
  refine ⟨⟨⟨mf, ml, F.push o, by obtain ⟨o', es, ep, e, r⟩ := n; exact ⟨o', es, ep, up _ _ e, r⟩, c1, c2, fun x sv e => let ⟨v, e1, e2⟩ := l x sv e; ⟨v, e1, e2.mono hp (pfx ρ)⟩⟩,
    S.len, fun i a so e1 e2 => let ⟨ob, e3, e4⟩ := S.cel i a so e1 e2; ⟨ob, up _ _ e3, e4.mono hp (pfx ρ)⟩, S.nd, fun a ha => ⟨.inl (S.off a ha).1, (S.off a ha).2⟩, .inl S.owL, .inl S.owl, fun a q => ?_, S.var, fun a x e => hp a x (S.kf a x e)⟩,
    fun b q => .inl q, fun b q => q.imp id fun (q : b = h.objs.size) => q ▸ nz, pfx ρ, fun b q => .inl q, fun b x e _ _ _ => up b x e, fun b x e => ⟨x, up b x e⟩⟩
  rcases q with q | q
  · obtain ⟨x, e⟩ := S.low a q; exact ⟨x, up a x e⟩
  · exact ⟨o, by rw [q]; exact Heap.get?_push_size _ hf⟩
def quietIt (o : Obj) : Bool := match o.cls, o.data with
  | .type n, .fields _ => !(["enumerate", "zip", "dict_itemiterator", "dict_reverseitemiterator", "odict_iterator", "itertools.zip_longest", "itertools.pairwise"].contains n)
  | _, _ => true
theorem letOwned_quiet {M : Model} {A : Around} {E : Value → Shared → Prop} {s : Shared} {Q : Unit → Shared → Prop} {target : Expr} {I : Addr} {v : Value} {o : Obj} (ho : s.heap.get? I = some o) (hq : quietIt o = true) (h : Q () s) : wpAny M A (letOwnedTupleGo target (.ref I) v) Q E s := by
  have key : wpAny M A (match (Value.ref I, v) with
    | (.ref r, .ref a) => (do
      let o ← load r
      match o.cls, o.data with
      | .type n, .fields vs =>
        if ["enumerate", "zip", "dict_itemiterator", "dict_reverseitemiterator", "odict_iterator", "itertools.zip_longest", "itertools.pairwise"].contains n && vs[0]? == some (rawInt a) then
          rule "for.unpacks-the-owned-tuple"
          updateField r 0 .none
      | _, _ => pure ())
    | _ => (pure () : Sem Unit)) Q E s := by
    cases v <;> try exact wpAny_pure h
    refine wpAny_bind (wpAny_load ho ?_)
    unfold quietIt at hq
    split
    · rename_i n vs e1 e2
      rw [e1, e2] at hq
      have hq : (["enumerate", "zip", "dict_itemiterator", "dict_reverseitemiterator", "odict_iterator", "itertools.zip_longest", "itertools.pairwise"].contains n) = false := by simpa using hq
      rw [hq, Bool.false_and, if_neg Bool.false_ne_true]
      exact wpAny_pure h
    · exact wpAny_pure h
  unfold letOwnedTupleGo
  split
  · exact key
  · exact key
  · exact wpAny_pure h
structure Iter (X : Fx) (ow : Addr → Prop) (h : Heap) (va : Value) (its : List SV) (I : Addr) (fp : List Addr) (P : Nat → Value → Prop) (St : Nat → Heap → Prop) : Prop where
  W : Walks lawP X.w X.A I fp [I] its.length P St
  fp : ∀ b ∈ fp, b = I ∨ ∃ o, Pz h ow b o
  alive : ∀ i h, St i h → ∃ o, h.get? I = some o ∧ quietIt o = true
  val : ∀ i v, P i v → ∃ d, its[i]? = some d ∧ VR (Pz h ow) X.w v d
def Iters (X : Fx) (a : AV) (σ : SS) (its : List SV) : Prop := ∀ ow ρ s va, SR X ow ρ s.heap σ → AR (Pz s.heap ow) X.w ρ va a → ∀ (Q : Value → Shared → Prop) (E : Value → Shared → Prop),
  (∀ o fp P St, o.isFreed = false → Iter X ow s.heap va its s.heap.objs.size fp P St → St 0 (s.heap.push o) → Q (.ref s.heap.objs.size) { s with heap := s.heap.push o }) → wpAny (model lawP X.w) X.A (pyIter va) Q E s
def rngItems (a c : Int) : Nat → List SV
  | 0 => []
  | n + 1 => .int a :: rngItems (a + c) c n
theorem rngItems_get : ∀ (n : Nat) (a c : Int) (i : Nat), i < n → (rngItems a c n)[i]? = some (.int (a + i * c))
  | n + 1, a, c, 0, _ => by show some _ = some _; simp
  | n + 1, a, c, i + 1, h => by
    show (rngItems (a + c) c n)[i]? = _
    rw [rngItems_get n (a + c) c i (by omega)]
    congr 2
    have : ((i + 1 : Nat) : Int) = (i : Int) + 1 := by omega
    rw [this, Int.add_mul, Int.one_mul]; omega
theorem rngItems_length : ∀ (n : Nat) (a c : Int), (rngItems a c n).length = n
  | 0, _, _ => rfl
  | n + 1, a, c => by rw [rngItems, List.length_cons, rngItems_length n]
theorem Iters_lst {l : List SV} (O : X.Ok) : Iters X (.v (.lst l)) σ l := by
  intro ow ρ s va S ra Q E q
  obtain ⟨a, vs, n, rfl, e, r⟩ := lst_of ra.inv
  have nw : ¬ ow a := by cases ra.inv with | lst p _ => exact p.2
  have ha := Heap.lt_size e
  have W := Walks.list (prog := lawP) (w := X.w) (A := X.A) rfl s.heap.objs.size a (Nat.ne_of_lt ha) vs.toArray
  have hz : vs.toArray.size = l.length := by rw [List.size_toArray, r.length]
  rw [hz] at W
  have it : Iter X ow s.heap (.ref a) l s.heap.objs.size [s.heap.objs.size, a] (fun i v => vs.toArray[i]? = some v) (fun i h => h.IsListIter s.heap.objs.size a i ∧ h.IsList a vs.toArray) := by
    refine ⟨W, fun b hb => ?_, fun i h st => ?_, fun i v p => ?_⟩
    · rcases List.mem_cons.mp hb with h | hb
      · exact .inl h
      · exact .inr ⟨_, by rw [List.mem_singleton.mp hb]; exact ⟨e, nw⟩⟩
    · obtain ⟨o, e, c, d⟩ := st.1; exact ⟨o, e, by unfold quietIt; rw [c, d]; rfl⟩
    · exact r.get' (by simpa using p)
  exact wpAny_pyIter_list (isList_of e) (q _ _ _ _ rfl it ⟨⟨_, Heap.get?_push_size _ rfl, rfl, rfl⟩, (isList_of e).push _⟩)
theorem Iters_tup {l : List SV} (O : X.Ok) : Iters X (.v (.tup l)) σ l := by
  intro ow ρ s va S ra Q E q
  obtain ⟨a, vs, n, rfl, e, r⟩ := tup_of ra.inv
  have nw : ¬ ow a := by cases ra.inv with | tup p _ => exact p.2
  have ha := Heap.lt_size e
  have W := Walks.tuple (prog := lawP) (w := X.w) (A := X.A) rfl s.heap.objs.size a (Nat.ne_of_lt ha) vs.toArray
  have hz : vs.toArray.size = l.length := by rw [List.size_toArray, r.length]
  rw [hz] at W
  have it : Iter X ow s.heap (.ref a) l s.heap.objs.size [s.heap.objs.size, a] (fun i v => vs.toArray[i]? = some v) (fun i h => h.IsTupleIter s.heap.objs.size a i ∧ h.IsTuple a vs.toArray) := by
    refine ⟨W, fun b hb => ?_, fun i h st => ?_, fun i v p => ?_⟩
    · rcases List.mem_cons.mp hb with h | hb
      · exact .inl h
      · exact .inr ⟨_, by rw [List.mem_singleton.mp hb]; exact ⟨e, nw⟩⟩
    · obtain ⟨o, e, c, d⟩ := st.1; exact ⟨o, e, by unfold quietIt; rw [c, d]; rfl⟩
    · exact r.get' (by simpa using p)
  exact wpAny_pyIter_tuple (isTup_of e) (q _ _ _ _ rfl it ⟨⟨_, Heap.get?_push_size _ rfl, rfl, rfl⟩, (isTup_of e).push _⟩)
theorem Iters_rng {a b c : Int} (O : X.Ok) (hs : Builtin.Range.small a b c = true) (h0 : 0 ≤ Builtin.Range.rangeSize a b c) : Iters X (.v (.rng a b c)) σ (rngItems a c (Builtin.Range.rangeSize a b c).toNat) := by
  intro ow ρ s va S ra Q E q
  cases ra.inv with
  | rng p =>
    have W := Walks.range (prog := lawP) (w := X.w) (A := X.A) rfl s.heap.objs.size a c (Builtin.Range.rangeSize a b c).toNat
    have it : ∀ va, Iter X ow s.heap va (rngItems a c (Builtin.Range.rangeSize a b c).toNat) s.heap.objs.size [s.heap.objs.size] (fun i v => ∃ t, v = .int (a + i * c) t ∧ i < (Builtin.Range.rangeSize a b c).toNat) (fun i h => IsRangeIter h s.heap.objs.size (a + (i : Nat) * c) (((Builtin.Range.rangeSize a b c).toNat : Int) - (i : Nat)) c) := by
      intro va
      refine ⟨?_, fun b hb => .inl (List.mem_singleton.mp hb), fun i h st => ⟨_, st, rfl⟩, fun i v ⟨t, e, hi⟩ => ?_⟩
      · rw [rngItems_length]
        exact { sub := W.sub, frame := W.frame, item := fun i s Q E hi st hQ => W.item i s Q E hi st fun v h' tk ⟨t, e⟩ => hQ v h' tk ⟨t, e, hi⟩, done := W.done, self := W.self }
      · subst e
        exact ⟨_, rngItems_get _ _ _ _ hi, .int _ _⟩
    refine wpAny_pyIter_range p.1 hs (q _ _ _ _ rfl (it _) ?_)
    have e1 : a + ((0 : Nat) : Int) * c = a := by simp
    have e2 : (((Builtin.Range.rangeSize a b c).toNat : Int) - ((0 : Nat) : Int)) = Builtin.Range.rangeSize a b c := by omega
    show IsRangeIter _ _ (a + ((0 : Nat) : Int) * c) (((Builtin.Range.rangeSize a b c).toNat : Int) - ((0 : Nat) : Int)) c
    rw [e1, e2]
    exact Heap.get?_push_size _ rfl
def JFor (X : Fx) (target : Expr) (body : List Stmt) : List SV → SS → (SF → SS → Prop) → Prop
  | [], σ, K => K .next σ
  | d :: ds, σ, K => JA X target (.v d) σ fun σ₁ => JB X body σ₁ fun f σ₂ => match f with
    | .next => JFor X target body ds σ₂ K
    | .cont => JFor X target body ds σ₂ K
    | .brk => K .next σ₂
    | .ret v => K (.ret v) σ₂
theorem Iter.notOw {ow : Addr → Prop} {h : Heap} {va : Value} {its : List SV} {I : Addr} {fp : List Addr} {P : Nat → Value → Prop} {St : Nat → Heap → Prop} (it : Iter X ow h va its I fp P St) {b : Addr} (hb : b ∈ fp) : b = I ∨ ¬ ow b := (it.fp b hb).imp id fun ⟨_, p⟩ => p.2
theorem JS_For {target iter : Expr} {body : List Stmt} {pos : Pos} (O : X.Ok) (hs : ∀ x, foldedSetIterable iter X.env x = pure x) (h : JE X iter σ fun a σ₁ => ∃ its, Iters X a σ₁ its ∧ JFor X target body its σ₁ K) : JS X (.For target iter body [] pos) σ K := by
  intro ow ρ s S Q E q
  refine wpAny_For (h ow ρ s S _ _ fun a sa σ₁ ow₁ ρ₁ h₁ tk₁ e₁ S₁ r₁ k₁ => ?_) hs
  obtain ⟨its, hi, jf⟩ := k₁
  refine hi ow₁ ρ₁ { s with heap := h₁, toks := tk₁ } a S₁ r₁ _ _ fun o fp P St hof it st0 => ?_
  obtain ⟨S₂, e₂⟩ := S₁.hide o hof
  have In : ¬ ow₁ h₁.objs.size := fun z => let ⟨_, e⟩ := S₁.low _ z; no_get e (none_size h₁)
  have IL : h₁.objs.size ≠ X.L := fun z => In (z ▸ S₁.owL)
  have Il : h₁.objs.size ≠ X.env.locals := fun z => In (z ▸ S₁.owl)
  have Ih : X.h₀.get? h₁.objs.size = none := by
    obtain ⟨mf, _, F, _⟩ := S₁.fr
    cases z : X.h₀.get? h₁.objs.size with
    | none => rfl
    | some o => exact no_get (F.keep _ _ z) (none_size h₁)
  have Iρ : h₁.objs.size ∉ ρ₁ := fun z => In (S₁.off _ z).1
  let Inv : Nat → Shared → Prop := fun n s' => ∃ i ow' ρ' σ' h' tk', n = its.length - i ∧ i ≤ its.length ∧ s' = { s with heap := h', toks := tk' } ∧ SR X ow' ρ' h' σ' ∧ Ex X ow₁ ρ₁ h₁ ow' ρ' h' ∧ St i h' ∧ ow' h₁.objs.size ∧ h₁.objs.size ∉ ρ' ∧ JFor X target body (its.drop i) σ' K
  refine codeAny_forLoop_any Inv (fun n s' hI => ?_) its.length ⟨0, _, _, _, _, _, rfl, Nat.zero_le _, rfl, S₂, e₂, st0, .inr rfl, Iρ, jf⟩
  obtain ⟨i, ow', ρ', σ', h', tk', hn, hle, rfl, S', e', st, oI, nI, jf⟩ := hI
  have hw : ∀ a ∈ [h₁.objs.size], ow' a ∧ h₁.get? a = none ∧ a ∉ ρ' ∧ a ≠ X.L ∧ a ≠ X.env.locals ∧ X.h₀.get? a = none := fun a m => by
    rw [List.mem_singleton.mp m]; exact ⟨oI, none_size h₁, nI, IL, Il, Ih⟩
  by_cases hlt : i < its.length
  · refine it.W.item i _ _ _ hlt st fun v h'' tk'' hP st' kp => ?_
    obtain ⟨d, hd, rv⟩ := it.val i v hP
    obtain ⟨S'', e''⟩ := S'.hid e' (h' := h'') kp hw (fun _ z => z) (fun _ z => .inl z) (fun b _ m => by rw [List.mem_singleton.mp m]; exact let ⟨o, e, _⟩ := it.alive _ _ st'; ⟨o, e⟩)
    have dr : its.drop i = d :: its.drop (i + 1) := by rw [List.drop_eq_getElem_cons hlt, (List.getElem?_eq_some_iff.mp hd).2]
    rw [dr] at jf
    have rv' : AR (Pz h'' ow') X.w ρ' v (.v d) := .v (S₁.vr e'' rv)
    have keepSt : ∀ {ow₃ ρ₃ h₃}, Ex X ow' ρ' h'' ow₃ ρ₃ h₃ → St (i + 1) h₃ ∧ ow₃ h₁.objs.size ∧ h₁.objs.size ∉ ρ₃ := fun {ow₃ ρ₃ h₃} ex => by
      refine ⟨it.W.frame _ _ _ st' fun b hb o e => ?_, ex.own _ oI, fun m => (ex.fresh _ m).elim nI fun z => ?_⟩
      · rcases it.notOw hb with rfl | nb
        · exact ex.keep _ o e nI Il IL
        · refine ex.keep b o e (fun m => ?_) (fun z => nb (z ▸ S₁.owl)) (fun z => nb (z ▸ S₁.owL))
          obtain ⟨o', p⟩ := (it.fp b hb).resolve_left (fun z => by subst z; exact nI m)
          have ob := (S''.off b m).1
          exact (e''.new b ob).elim nb fun z => no_get p.1 z
      · obtain ⟨o, e, _⟩ := it.alive _ _ st'; exact no_get e z
    obtain ⟨oI', eI', qI'⟩ := it.alive _ _ st'
    refine letOwned_quiet (s := { s with heap := h'', toks := tk'' }) eI' qI' ?_
    refine jf ow' ρ' { s with heap := h'', toks := tk'' } v S'' rv' _ _ fun _ _ σ₃ ow₃ ρ₃ h₃ tk₃ e₃ S₃ _ k₃ => ?_
    refine k₃ ow₃ ρ₃ { s with heap := h₃, toks := tk₃ } S₃ _ _ fun f sf σ₄ ow₄ ρ₄ h₄ tk₄ e₄ S₄ r₄ k₄ => ?_
    have e34 := e₃.trans e₄
    obtain ⟨st4, o4, n4⟩ := keepSt e34
    have e14 := e''.trans e34
    have fin : ∀ {fl sfl}, RF X ow₄ ρ₄ h₄ fl sfl → K sfl σ₄ → Q fl { s with heap := h₄, toks := tk₄ } := fun r k => q _ _ _ _ _ _ tk₄ (e₁.trans e14) S₄ r k
    cases r₄ with
    | next => exact ⟨its.length - (i + 1), by omega, i + 1, ow₄, ρ₄, σ₄, h₄, tk₄, rfl, hlt, rfl, S₄, e14, st4, o4, n4, k₄⟩
    | cont => exact ⟨its.length - (i + 1), by omega, i + 1, ow₄, ρ₄, σ₄, h₄, tk₄, rfl, hlt, rfl, S₄, e14, st4, o4, n4, k₄⟩
    | brk => exact fin .next k₄
    | ret r => exact fin (.ret r) k₄
  · obtain rfl : i = its.length := by omega
    rw [List.drop_length] at jf
    refine it.W.done _ _ _ st fun h'' tk'' kp => wpAny_execs_nil ?_
    obtain ⟨S'', e''⟩ := S'.hid e' (h' := h'') (ow' := fun b => ow' b ∧ b ≠ h₁.objs.size) kp hw (fun _ z => z.1) (fun b z => by
      by_cases hb : b = h₁.objs.size
      · subst hb; exact .inr ⟨nI, IL, Il, In⟩
      · exact .inl ⟨z, hb⟩) (fun b z m => absurd (List.mem_singleton.mp m) z.2)
    exact q _ _ _ _ _ _ tk'' (e₁.trans e'') S'' .next jf
end
end
section
def frees : List (Str × NameKind) → List Str
  | [] => []
  | (n, .free) :: r => n :: frees r
  | _ :: r => frees r
def clAcc (env : Env) : List (Str × NameKind) → List (Str × Addr) → List (Str × Addr)
  | [], acc => acc
  | (n, .free) :: r, acc => clAcc env r ((n, (env.cells.lookup n).getD 0) :: acc)
  | _ :: r, acc => clAcc env r acc
noncomputable def vidC (names : List (Str × NameKind)) (vid : List (Str × Nat)) : List (Str × Nat) := (frees names).filterMap fun n => (lkN n vid).map fun i => (n, i)
noncomputable def freesOk (names : List (Str × NameKind)) (vid : List (Str × Nat)) : Bool := (frees names).all fun n => (lkN n vid).isSome
def relN (outer names : List (Str × NameKind)) : List (Str × NameKind) := names.map fun p => match p.2, outer.lookup p.1 with
  | .free, some .cell => (p.1, .cell)
  | k, _ => (p.1, k)
theorem closureFor_ok {scope : Scope} {env : Env} (h : ∀ n ∈ frees scope.names, ∃ c, env.cells.lookup n = some c) : closureFor scope env = pure (clAcc env scope.names []) := by
  have go : ∀ (names : List (Str × NameKind)) (acc : List (Str × Addr)) (f : Str × NameKind → List (Str × Addr) → Sem (ForInStep (List (Str × Addr)))),
      (∀ n k cs, f (n, k) cs = if (k == .free) = true then (do let c ← cellOf env n; pure (ForInStep.yield ((n, c) :: cs))) else pure (ForInStep.yield cs)) → (∀ n ∈ frees names, ∃ c, env.cells.lookup n = some c) → forIn names acc f = (pure (clAcc env names acc) : Sem _) := by
    intro names
    induction names with
    | nil => intro acc f hf _; rfl
    | cons p r ih =>
      obtain ⟨n, k⟩ := p
      intro acc f hf hc
      rw [List.forIn_cons, hf]
      cases k with
      | free =>
        obtain ⟨c, ec⟩ := hc n (.head _)
        have e0 : ((NameKind.free == NameKind.free) = true) = True := by simp
        simp only [e0, if_true]
        have e1 : cellOf env n = pure c := by unfold cellOf; rw [ec]
        rw [e1, pure_bind, pure_bind]
        show forIn r ((n, c) :: acc) f = _
        rw [ih _ f hf fun m hm => hc m (.tail _ hm)]
        show pure (clAcc env r ((n, c) :: acc)) = pure (clAcc env r ((n, (env.cells.lookup n).getD 0) :: acc))
        rw [ec]; rfl
      | «local» => rw [if_neg (by decide), pure_bind]; show forIn r acc f = _; rw [ih _ f hf fun m hm => hc m hm]; rfl
      | cell => rw [if_neg (by decide), pure_bind]; show forIn r acc f = _; rw [ih _ f hf fun m hm => hc m hm]; rfl
      | globalExplicit => rw [if_neg (by decide), pure_bind]; show forIn r acc f = _; rw [ih _ f hf fun m hm => hc m hm]; rfl
      | globalImplicit => rw [if_neg (by decide), pure_bind]; show forIn r acc f = _; rw [ih _ f hf fun m hm => hc m hm]; rfl
  unfold closureFor
  show (forIn scope.names ([] : List (Str × Addr)) _ >>= fun s => (pure s : Sem _)) = _
  rw [go scope.names [] _ (fun n k cs => by cases k <;> rfl) h]
  rfl
theorem clAcc_lookup {env : Env} {x : Str} {c : Addr} (hc : env.cells.lookup x = some c) : ∀ (names : List (Str × NameKind)) (acc : List (Str × Addr)), (x ∈ frees names ∨ acc.lookup x = some c) → (∀ a, acc.lookup x = some a → a = c) → (clAcc env names acc).lookup x = some c
  | [], acc, h, _ => h.resolve_left (fun m => nomatch m)
  | (n, .free) :: r, acc, h, u => by
    unfold clAcc
    by_cases hn : x = n
    · subst hn
      have e : (((x, (env.cells.lookup x).getD 0) :: acc).lookup x) = some c := by rw [List.lookup_cons, beq_self_eq_true, hc]; rfl
      exact clAcc_lookup hc r _ (.inr e) fun a ha => by rw [e] at ha; cases ha; rfl
    · have e : (((n, (env.cells.lookup n).getD 0) :: acc).lookup x) = acc.lookup x := by rw [List.lookup_cons, beq_eq_false_iff_ne.mpr hn]
      refine clAcc_lookup hc r _ (h.imp (fun m => ?_) fun q => e.trans q) fun a ha => u a (e.symm.trans ha)
      rcases List.mem_cons.mp m with m | m
      · exact absurd m hn
      · exact m
  | (n, .local) :: r, acc, h, u => clAcc_lookup hc r acc h u
  | (n, .cell) :: r, acc, h, u => clAcc_lookup hc r acc h u
  | (n, .globalExplicit) :: r, acc, h, u => clAcc_lookup hc r acc h u
  | (n, .globalImplicit) :: r, acc, h, u => clAcc_lookup hc r acc h u
theorem vidC_get {x : Str} {i : Nat} {vid : List (Str × Nat)} : ∀ {ns : List Str}, lkN x (ns.filterMap fun n => (lkN n vid).map fun i => (n, i)) = some i → x ∈ ns ∧ lkN x vid = some i
  | [], e => by cases e
  | n :: r, e => by
    rw [List.filterMap_cons] at e
    cases q : lkN n vid with
    | none => rw [q] at e; obtain ⟨a, b⟩ := vidC_get (ns := r) e; exact ⟨.tail _ a, b⟩
    | some j =>
      rw [q] at e
      simp only [Option.map] at e
      rw [lkN_cons] at e
      by_cases hx : x = n
      · subst hx; rw [if_pos rfl] at e; cases e; exact ⟨.head _, q⟩
      · rw [if_neg hx] at e; obtain ⟨a, b⟩ := vidC_get (ns := r) e; exact ⟨.tail _ a, b⟩
structure IsComp (X X' : Fx) (scope : Scope) : Prop where
  ok : X'.Ok
  w : X'.w = X.w
  D : X'.D = X.D
  U : X'.U = X.U
  names : X'.env.scope.names = relN X.env.scope.names scope.names
  vid : X'.vid = vidC scope.names X.vid
def asV (v : AV) (k : SV → Prop) : Prop := match v with
  | .v x => k x
  | .c _ => False
theorem asV_out {v : AV} {k : SV → Prop} (h : asV v k) : ∃ x, v = .v x ∧ k x := by
  unfold asV at h
  split at h
  · exact ⟨_, rfl, h⟩
  · exact h.elim
def JIfs (X : Fx) : List Expr → SS → (Bool → SS → Prop) → Prop
  | [], σ, K => K true σ
  | [c], σ, K => JT X c σ K
  | _, _, _ => False
def JCmp (X : Fx) (x : Str) (ifs : List Expr) (elt : Expr) : List SV → List SV → List SObj → (List SV → List SObj → Prop) → Prop
  | [], acc, cel, K => K acc cel
  | d :: ds, acc, cel, K => JIfs X ifs ⟨[(x, .v d)], cel⟩ fun b σ₁ => Br b (JE X elt σ₁ fun v σ₂ => asV v fun sv => JCmp X x ifs elt ds (acc ++ [sv]) σ₂.cel K) (JCmp X x ifs elt ds acc σ₁.cel K)
theorem SR.forget {X : Fx} {ow : Addr → Prop} {ρ : List Addr} {h : Heap} {σ : SS} (S : SR X ow ρ h σ) : SR X ow ρ h ⟨[], σ.cel⟩ := by
  obtain ⟨mf, ml, F, n, c1, c2, l⟩ := S.fr
  exact ⟨⟨mf, ml, F, n, c1, c2, fun x sv e => by cases e⟩, S.len, S.cel, S.nd, S.off, S.owL, S.owl, S.low, S.var, S.kf⟩
structure CompOut (X : Fx) (σ : SS) (ow₁ : Addr → Prop) (ρ₁ : List Addr) (h₁ : Heap) (K : List SV → List SObj → Prop) (D C : Addr) (h' : Heap) : Prop where
  out : ∃ ow' ρ' acc cel', SR X ow' ρ' h' ⟨σ.loc, cel'⟩ ∧ Ex X ow₁ ρ₁ h₁ ow' ρ' h' ∧ VR (Pz h' ow') X.w (.ref D) (.lst acc) ∧ K acc cel' ∧ ow' C ∧ C ∉ ρ'
  fresh : h₁.get? C = none
  ns : ∃ m, h'.Ns C m
section
variable {X : Fx} {σ : SS}
theorem run_comp (O : X.Ok) (hcomp : X.comp = none) {elt iter : Expr} {x : Str} {px : Pos} {ifs : List Expr} {scope : Scope} {pos : Pos} {ow₁ : Addr → Prop} {ρ₁ : List Addr} {s : Shared} {va : Value} {its : List SV} {oI : Obj} {fp : List Addr} {P : Nat → Value → Prop} {St : Nat → Heap → Prop} {K : List SV → List SObj → Prop} {E : Value → Shared → Prop} {RR : Value → Addr → Result → Shared → Prop}
    (hcell : ∀ y ∈ scope.names, y.2 ≠ .cell) (hkind : scope.kind = .function) (hx : scope.names.lookup x = some .local) (hfr : freesOk scope.names X.vid = true)
    (S₁ : SR X ow₁ ρ₁ s.heap σ) (hof : oI.isFreed = false) (it : Iter X ow₁ s.heap va its s.heap.objs.size fp P St) (st0 : St 0 (s.heap.push oI)) (hz : its.length ≤ 16384)
    (jc : ∀ X', IsComp X X' scope → JCmp X' x ifs elt its [] σ.cel K)
    (hRR : ∀ D C h' tk, CompOut X σ ow₁ ρ₁ s.heap K D C h' → RR (.ref D) C (.ok .next) { s with heap := h', toks := tk }) :
    wpAny (model lawP X.w) X.A (newList []) (fun acc s₃ => wpAny (model lawP X.w) X.A (newFunctionEnv scope X.env.globals (clAcc X.env scope.names []) [] X.env.qual none .none (some X.env)) (fun cenv s₄ =>
      codeAny (model lawP X.w) X.A (.compStart (.ListComp elt [⟨.Name x px, iter, ifs, 0⟩] scope pos) 0 (.ref s.heap.objs.size) acc { cenv with scope := relabel scope X.env }) (RR acc cenv.locals) s₄) E s₃) E { s with heap := s.heap.push oI } := by
  refine wpAny_newObj_type (wpAny_newFunctionEnv hcell (by intro y hy; simp at hy) (fun h₄ hns hsb => ?_) hkind)
  dsimp only at hns hsb ⊢
  generalize hI : s.heap.objs.size = I at *
  have hL : X.env.locals = X.L := O.here hcomp
  obtain ⟨S₂, e₂⟩ := S₁.hide oI hof
  rw [hI] at S₂ e₂
  obtain ⟨S₃, e₃⟩ := S₂.hide (listOf ([] : List Value).toArray 0) rfl
  have e₃' := e₂.trans e₃
  generalize hD : (s.heap.push oI).objs.size = D at *
  have hH3 : (s.heap.push oI).push { cls := .type "list", dict := none, data := .seq ([] : List Value).toArray } = (s.heap.push oI).push (listOf ([] : List Value).toArray 0) := rfl
  rw [hH3] at hns hsb ⊢
  generalize hh3 : (s.heap.push oI).push (listOf ([] : List Value).toArray 0) = H3 at *
  obtain ⟨S₄, e₄⟩ := S₃.hide { cls := .type "dict", data := .dict #[] } rfl
  have e₄' := e₃'.trans e₄
  generalize hC : H3.objs.size = C at *
  have szD : D = I + 1 := by rw [← hD, Heap.size_push, hI]
  have szC : C = D + 1 := by rw [← hC, ← hh3, Heap.size_push, hD]
  have new : ∀ a, I ≤ a → s.heap.get? a = none := fun a ha => Heap.get?_none_of_le (by rw [hI]; exact ha)
  have nI := new I (Nat.le_refl _)
  have nD := new D (by omega)
  have nC := new C (by omega)
  have fr : ∀ a, s.heap.get? a = none → ¬ ow₁ a ∧ a ≠ X.L ∧ a ≠ X.env.locals ∧ X.h₀.get? a = none ∧ a ∉ ρ₁ := fun a na => by
    have no : ¬ ow₁ a := fun z => let ⟨_, e⟩ := S₁.low _ z; no_get e na
    refine ⟨no, fun z => no (z ▸ S₁.owL), fun z => no (z ▸ S₁.owl), ?_, fun m => no (S₁.off _ m).1⟩
    obtain ⟨mf, _, F, _⟩ := S₁.fr
    cases z : X.h₀.get? a with
    | none => rfl
    | some o => exact no_get (F.keep _ _ z) na
  have nsC := hns
  obtain ⟨oC, _, _, gC, _⟩ := nsC
  obtain ⟨S₅, e₅⟩ := S₄.hid e₄' (h' := h₄) (wr := [C]) (fun b o nb e => (hsb.2 b (fun z => nb (by rw [z]; exact .head _))).trans e) (fun a m => by
    rw [List.mem_singleton.mp m]; exact ⟨.inr rfl, nC, (fr C nC).2.2.2.2, (fr C nC).2.1, (fr C nC).2.2.1, (fr C nC).2.2.2.1⟩) (fun _ z => z) (fun _ z => .inl z) (fun b _ m => by rw [List.mem_singleton.mp m]; exact ⟨oC, gC⟩)
  obtain ⟨mf, ml, F₅, n₅, c1, c2, l₅⟩ := S₅.fr
  obtain rfl := c1 hcomp
  generalize hX : ({ X with env := compEnvC scope (clAcc X.env scope.names []) C X.env, comp := some ml, vid := vidC scope.names X.vid } : Fx) = X'
  have ic : IsComp X X' scope := by
    subst hX
    refine { ok := { below := O.below, K := O.K, T := O.T, ck := O.ck, kind := hkind, glob := O.glob, bins := O.bins, here := fun e => (by cases e), there := fun m e => ⟨(fr C nC).2.1, (fr C nC).2.2.2.1⟩, room := O.room, units := O.units }, w := rfl, D := rfl, U := rfl, names := ?_, vid := rfl }
    show (relabel scope X.env).names = _
    unfold relabel relN
    refine List.map_congr_left fun p hp => ?_
    obtain ⟨n, k⟩ := p
    dsimp only
    have hk : X.env.kindOf n = X.env.scope.names.lookup n := rfl
    rw [hk, O.kind]
    cases k <;> cases q : X.env.scope.names.lookup n <;> first | rfl | (rename_i v; cases v <;> rfl)
  have jc := jc X' ic
  have hA : X'.A = X.A ∧ X'.w = X.w ∧ X'.L = X.L ∧ X'.h₀ = X.h₀ ∧ X'.env = compEnvC scope (clAcc X.env scope.names []) C X.env ∧ X'.comp = some ml ∧ X'.vid = vidC scope.names X.vid := by subst hX; exact ⟨rfl, rfl, rfl, rfl, rfl, rfl, rfl⟩
  obtain ⟨hA, hw, hXL, hXh, hXe, hXc, hXv⟩ := hA
  have hloc : X'.env.locals = C := by rw [hXe]; rfl
  have S' : SR X' (fun b => ((ow₁ b ∨ b = I) ∨ b = D) ∨ b = C) ρ₁ h₄ ⟨[], σ.cel⟩ := by
    refine ⟨⟨ml, _, by rw [hXh, hXL]; exact F₅, by rw [hloc]; exact hns, fun e => (by rw [hXc] at e; cases e), fun m e => (by rw [hXc] at e; cases e; rfl), fun x sv e => (by cases e)⟩, S₅.len, fun i a o e1 e2 => by rw [hw]; exact S₅.cel i a o e1 e2, S₅.nd, fun a ha => ⟨(S₅.off a ha).1, by rw [hXh]; exact (S₅.off a ha).2.1, by rw [hXL]; exact (S₅.off a ha).2.2.1, fun z => by
      rw [hloc] at z; subst z; exact (fr _ nC).2.2.2.2 ha⟩, by rw [hXL]; exact S₅.owL, .inr hloc, S₅.low, fun y i e => ?_, fun a o e => by rw [hw] at e; exact S₅.kf a o e⟩
    rw [hXv] at e
    obtain ⟨m, e⟩ := vidC_get e
    obtain ⟨c, e1, e2⟩ := S₅.var y i e
    exact ⟨c, by rw [hXe]; exact clAcc_lookup e1 scope.names [] (.inl m) (fun a ha => by cases ha), e2⟩
  have conv : ∀ {ow ρ h}, Ex X' ow₁ ρ₁ s.heap ow ρ h → Ex X ow₁ ρ₁ s.heap ow ρ h := fun {ow ρ h} e => ⟨e.own, e.new, e.pre, e.fresh, fun b o e1 n1 n2 n3 => e.keep b o e1 n1 (fun z => by rw [hloc] at z; subst z; exact no_get e1 nC) (by rw [hXL]; exact n3), e.live⟩
  have e' : Ex X' ow₁ ρ₁ s.heap (fun b => ((ow₁ b ∨ b = I) ∨ b = D) ∨ b = C) ρ₁ h₄ := ⟨e₅.own, e₅.new, e₅.pre, e₅.fresh, fun b o e1 n1 n2 n3 => e₅.keep b o e1 n1 (by rw [hL, ← hXL]; exact n3) (by rw [← hXL]; exact n3), e₅.live⟩
  have fr' : ∀ a, s.heap.get? a = none → a ≠ C → ¬ ow₁ a ∧ a ≠ X'.L ∧ a ≠ X'.env.locals ∧ X'.h₀.get? a = none ∧ a ∉ ρ₁ := fun a na nc => ⟨(fr a na).1, by rw [hXL]; exact (fr a na).2.1, by rw [hloc]; exact nc, by rw [hXh]; exact (fr a na).2.2.2.1, (fr a na).2.2.2.2⟩
  have IC : I ≠ C := by omega
  have DC : D ≠ C := by omega
  have ID : I ≠ D := by omega
  have old4 : ∀ b o, H3.get? b = some o → h₄.get? b = some o := fun b o e => (hsb.2 b (fun z => by rw [z, ← hC] at e; exact no_get e (none_size H3))).trans (Heap.get?_push_of_some _ e)
  have gD0 : h₄.get? D = some (listOf ([] : List Value).toArray 0) := old4 _ _ (by rw [← hh3, ← hD]; exact Heap.get?_push_size _ rfl)
  have st4 : St 0 h₄ := it.W.frame _ _ _ st0 fun b _ o e => old4 b o (by rw [← hh3]; exact Heap.get?_push_of_some _ e)
  let Inv : Nat → Shared → Prop := fun n s' => ∃ i ow' ρ' acc cel vs k h' tk', n = its.length - i ∧ i ≤ its.length ∧ acc.length ≤ i ∧ s' = { s with heap := h', toks := tk' } ∧ SR X' ow' ρ' h' ⟨[], cel⟩ ∧ Ex X' ow₁ ρ₁ s.heap ow' ρ' h' ∧ St i h' ∧ (ow' I ∧ ow' D) ∧ (I ∉ ρ' ∧ D ∉ ρ') ∧ h'.get? D = some (listOf (vs : List Value).toArray k) ∧ VRs (Pz h' ow') X'.w vs acc ∧ JCmp X' x ifs elt (its.drop i) acc cel K
  have loop : ∀ tk, codeAny (model lawP X'.w) X'.A (.compLoop (.ListComp elt [⟨.Name x px, iter, ifs, 0⟩] scope pos) 0 (.ref I) (.ref D) X'.env) (RR (.ref D) C) { s with heap := h₄, toks := tk } := by
    intro tk
    refine codeAny_compLoop_tests Inv (fun n s' hI' => ?_) its.length ⟨0, _, ρ₁, [], σ.cel, [], 0, h₄, tk, rfl, Nat.zero_le _, Nat.le_refl _, rfl, S', e', st4, ⟨.inl (.inl (.inr rfl)), .inl (.inr rfl)⟩, ⟨(fr I nI).2.2.2.2, (fr D nD).2.2.2.2⟩, gD0, .nil, jc⟩
    obtain ⟨i, ow', ρ', acc, cel, vs, k, h', tk', hn, hle, hal, rfl, S6, e6, st, ⟨oI', oD⟩, ⟨mI, mD⟩, gD, rvs, jc⟩ := hI'
    have hwI : ∀ a ∈ [I], ow' a ∧ s.heap.get? a = none ∧ a ∉ ρ' ∧ a ≠ X'.L ∧ a ≠ X'.env.locals ∧ X'.h₀.get? a = none := fun a m => by
      rw [List.mem_singleton.mp m]; have := fr' I nI IC; exact ⟨oI', nI, mI, this.2.1, this.2.2.1, this.2.2.2.1⟩
    by_cases hlt : i < its.length
    · have itW := it.W
      rw [← hA, ← hw] at itW
      refine itW.item i _ _ _ hlt st fun v h'' tk'' hP st' kp => ?_
      obtain ⟨d, hd, rv⟩ := it.val i v hP
      obtain ⟨S7, e7⟩ := S6.hid e6 (h' := h'') kp hwI (fun _ z => z) (fun _ z => .inl z) (fun b _ m => by rw [List.mem_singleton.mp m]; exact let ⟨o, e, _⟩ := it.alive _ _ st'; ⟨o, e⟩)
      have gD7 : h''.get? D = some (listOf vs.toArray k) := kp D _ (fun m => ID (List.mem_singleton.mp m).symm) gD
      have rvs7 : VRs (Pz h'' ow') X'.w vs acc := rvs.mono fun b o p => ⟨kp b o (fun m => p.2 (by rw [List.mem_singleton.mp m]; exact oI')) p.1, p.2⟩
      have dr : its.drop i = d :: its.drop (i + 1) := by rw [List.drop_eq_getElem_cons hlt, (List.getElem?_eq_some_iff.mp hd).2]
      rw [dr] at jc
      have rv' : AR (Pz h'' ow') X'.w ρ' v (.v d) := .v (by rw [hw]; exact S₁.vr (conv e7) rv)
      have keepSt : ∀ {ow₃ ρ₃ h₃}, Ex X' ow' ρ' h'' ow₃ ρ₃ h₃ → St (i + 1) h₃ ∧ (ow₃ I ∧ ow₃ D) ∧ (I ∉ ρ₃ ∧ D ∉ ρ₃) ∧ h₃.get? D = some (listOf vs.toArray k) := fun {ow₃ ρ₃ h₃} ex => by
        have fI := fr' I nI IC
        have fD := fr' D nD DC
        refine ⟨it.W.frame _ _ _ st' fun b hb o e => ?_, ⟨ex.own _ oI', ex.own _ oD⟩, ⟨fun m => (ex.fresh _ m).elim mI fun z => ?_, fun m => (ex.fresh _ m).elim mD fun z => no_get gD7 z⟩, ex.keep _ _ gD7 mD fD.2.2.1 fD.2.1⟩
        · rcases it.notOw hb with rfl | nb
          · exact ex.keep _ o e mI fI.2.2.1 fI.2.1
          · by_cases bI : b = I
            · subst bI; exact ex.keep _ o e mI fI.2.2.1 fI.2.1
            obtain ⟨o', p⟩ := (it.fp b hb).resolve_left bI
            refine ex.keep b o e (fun m => ?_) (fun z => by rw [hloc] at z; subst z; exact no_get p.1 nC) (fun z => by rw [hXL] at z; exact nb (z ▸ S₁.owL))
            have ob := (S7.off b m).1
            exact (e7.new b ob).elim nb fun z => no_get p.1 z
        · obtain ⟨o, e, _⟩ := it.alive _ _ st'; exact no_get e z
      have hx' : X'.env.kindOf x = some .local := by rw [hXe]; exact lookup_relabel_local hx
      refine JA_Name (JStore_loc ic.ok hx' (K := fun σ' => σ' = ⟨[(x, .v d)], cel⟩) rfl) ow' ρ' { s with heap := h'', toks := tk'' } v S7 rv' _ _ fun _ _ σ₃ ow₃ ρ₃ h₃ tk₃ e₃ S₃ _ k₃ => ?_
      subst k₃
      have tests : RunAt X' ow₃ ρ₃ { s with heap := h₃, toks := tk₃ } RB (forIn ifs true fun c r => if r = true then do let ok ← isTrue c X'.env (eval c X'.env); pure (ForInStep.yield ok) else pure (ForInStep.yield r)) (fun b σ₁ => Br b (JE X' elt σ₁ fun v σ₂ => asV v fun sv => JCmp X' x ifs elt (its.drop (i + 1)) (acc ++ [sv]) σ₂.cel K) (JCmp X' x ifs elt (its.drop (i + 1)) acc σ₁.cel K)) := by
        intro Q E q
        have jc : JIfs X' ifs ⟨[(x, .v d)], cel⟩ _ := jc
        unfold JIfs at jc
        split at jc
        · exact wpAny_tests_nil (q true true _ _ _ _ tk₃ .refl S₃ rfl jc)
        · exact wpAny_tests_one (jc ow₃ ρ₃ { s with heap := h₃, toks := tk₃ } S₃ Q E q)
        · exact jc.elim
      refine tests _ _ fun b b' σ₄ ow₄ ρ₄ h₄' tk₄ e₄ S₄ r₄ k₄ => ?_
      obtain rfl : b = b' := r₄
      have e34 := e₃.trans e₄
      cases b with
      | false =>
        rw [if_neg (by decide)]
        obtain ⟨a1, a2, a3, a4⟩ := keepSt e34
        exact ⟨its.length - (i + 1), by omega, i + 1, ow₄, ρ₄, acc, σ₄.cel, vs, k, h₄', tk₄, rfl, hlt, by omega, rfl, S₄.forget, e7.trans e34, a1, a2, a3, a4, S7.vrs e34 rvs7, k₄⟩
      | true =>
        rw [if_pos rfl]
        refine k₄ ow₄ ρ₄ { s with heap := h₄', toks := tk₄ } S₄ _ _ fun y sy σ₅ ow₅ ρ₅ h₅ tk₅ e₅ S₅ r₅ k₅ => ?_
        have e35 := e34.trans e₅
        obtain ⟨a1, ⟨a2, a2'⟩, ⟨a3, a3'⟩, a4⟩ := keepSt e35
        obtain ⟨sv, rfl, k₅⟩ := asV_out k₅
        have ry := r₅.inv
        have hvl : vs.toArray.size ≤ sizeLine := by rw [List.size_toArray, rvs.length]; exact Nat.le_trans (Nat.le_trans hal (Nat.le_trans hle hz)) (by decide)
        refine call_meets PySem.F.slot_list_append ⟨_, a4, rfl⟩ PySem.F.entry_list_append (PySem.F.args_list_append_2 _ _) (list_append D vs.toArray k y hvl) ⟨a4, ?_⟩
        obtain ⟨m, em⟩ := lst_update a4 (fun x => x.push y)
        have ee : vs.toArray.push y = (vs ++ [y]).toArray := by simp
        rw [ee] at em
        have kpD : ∀ b o, b ∉ [D] → h₅.get? b = some o → (h₅.update D (Obj.mapSeq fun x => x.push y)).get? b = some o := fun b o nb e => ((Heap.SameBut.update ..).2 b (fun z => nb (by rw [z]; exact .head _))).trans e
        have fD := fr' D nD DC
        obtain ⟨S8, e8⟩ := S₅.hid (e7.trans e35) (wr := [D]) kpD (fun a m => by rw [List.mem_singleton.mp m]; exact ⟨a2', nD, a3', fD.2.1, fD.2.2.1, fD.2.2.2.1⟩) (fun _ z => z) (fun _ z => .inl z) (fun b _ m => by rw [List.mem_singleton.mp m]; exact ⟨_, em⟩)
        have up : ∀ b o, Pz h₅ ow₅ b o → Pz (h₅.update D (Obj.mapSeq fun x => x.push y)) ow₅ b o := fun b o p => ⟨kpD b o (fun m => p.2 (by rw [List.mem_singleton.mp m]; exact a2')) p.1, p.2⟩
        have stD : St (i + 1) (h₅.update D (Obj.mapSeq fun x => x.push y)) := it.W.frame _ _ _ a1 fun b hb o e => kpD b o (fun m => by
          rw [List.mem_singleton.mp m] at hb
          rcases it.fp D hb with z | ⟨_, p⟩
          · exact ID z.symm
          · exact no_get p.1 nD) e
        exact ⟨its.length - (i + 1), by omega, i + 1, ow₅, ρ₅, acc ++ [sv], σ₅.cel, vs ++ [y], m, _, tk₅, rfl, hlt, by rw [List.length_append]; simp; omega, rfl, S8.forget, e8, stD, ⟨a2, a2'⟩, ⟨a3, a3'⟩, em, ((S7.vrs e35 rvs7).mono up).append (.cons (ry.mono up) .nil), k₅⟩
    · obtain rfl : i = its.length := by omega
      rw [List.drop_length] at jc
      have itW := it.W
      rw [← hA, ← hw] at itW
      refine itW.done _ _ _ st fun h'' tk'' kp => ?_
      obtain ⟨S7, e7⟩ := S6.hid e6 (h' := h'') (ow' := fun b => ow' b ∧ b ≠ I ∧ b ≠ D) kp hwI (fun _ z => z.1) (fun b z => by
        by_cases hb : b = I
        · subst hb; have := fr' b nI IC; exact .inr ⟨mI, this.2.1, this.2.2.1, this.1⟩
        · by_cases hb' : b = D
          · subst hb'; have := fr' b nD DC; exact .inr ⟨mD, this.2.1, this.2.2.1, this.1⟩
          · exact .inl ⟨z, hb, hb'⟩) (fun b z m => absurd (List.mem_singleton.mp m) z.2.1)
      have gD7 : h''.get? D = some (listOf vs.toArray k) := kp D _ (fun m => ID (List.mem_singleton.mp m).symm) gD
      have rvs7 : VRs (Pz h'' fun b => ow' b ∧ b ≠ I ∧ b ≠ D) X'.w vs acc := rvs.mono fun b o p => ⟨kp b o (fun m => p.2 (by rw [List.mem_singleton.mp m]; exact oI')) p.1, fun z => p.2 z.1⟩
      refine hRR D C h'' tk'' ⟨⟨_, ρ', acc, cel, ?_, conv e7, by rw [← hw]; exact .lst ⟨gD7, fun z => z.2.2 rfl⟩ rvs7, jc, ?_, ?_⟩, nC, ?_⟩
      · obtain ⟨mf', ml', F7, n7, d1, d2, l7⟩ := S7.fr
        obtain rfl := d2 ml hXc
        rw [hXh, hXL] at F7
        obtain ⟨mf₁, ml₁, F₁, n₁, b1, b2, l₁⟩ := S₁.fr
        obtain rfl := b1 hcomp
        have same : mf' = ml₁ := by
          have x1 := F₅.ns
          have x2 : h₄.Ns X.L ml₁ := by
            obtain ⟨o, es, ep, e1, r⟩ := F₁.ns
            refine ⟨o, es, ep, old4 _ _ ?_, r⟩
            rw [← hh3]
            exact Heap.get?_push_of_some _ (Heap.get?_push_of_some _ e1)
          funext z
          obtain ⟨o, es, ep, e1, e2, _, e3⟩ := x1
          obtain ⟨o', es', ep', f1, f2, _, f3⟩ := x2
          rw [e1] at f1; cases f1; rw [e2] at f2; cases f2
          rw [← e3 z, ← f3 z]
        subst same
        exact ⟨⟨mf', mf', F7, by rw [hL]; exact F7.ns, fun _ => rfl, fun m e => (by rw [hcomp] at e; cases e), fun y sv e => let ⟨v, f1, f2⟩ := l₁ y sv e; ⟨v, f1, S₁.ar (conv e7) f2⟩⟩, S7.len, fun i a o f1 f2 => by rw [← hw]; exact S7.cel i a o f1 f2, S7.nd, fun a ha => ⟨(S7.off a ha).1, by rw [← hXh]; exact (S7.off a ha).2.1, by rw [← hXL]; exact (S7.off a ha).2.2.1, by rw [hL, ← hXL]; exact (S7.off a ha).2.2.1⟩, by rw [← hXL]; exact S7.owL, by rw [hL, ← hXL]; exact S7.owL, S7.low, fun y i e => by
          obtain ⟨c, f1, f2⟩ := S₁.var y i e
          refine ⟨c, f1, ?_⟩
          obtain ⟨t, rfl⟩ := e7.pre
          rw [List.getElem?_append_left (List.getElem?_eq_some_iff.mp f2).1]; exact f2, fun a o e => by rw [← hw] at e; exact S7.kf a o e⟩
      · exact ⟨by have := S6.owl; rw [hloc] at this; exact this, IC.symm, DC.symm⟩
      · exact fun m => (S7.off _ m).2.2.2 hloc.symm
      · obtain ⟨_, ml', _, n7, _⟩ := S7.fr
        rw [hloc] at n7
        exact ⟨ml', n7⟩
  have env : ({ newEnv scope C X.env.globals (clAcc X.env scope.names []) X.env.qual none .none (some X.env) X.env.builtins with scope := relabel scope X.env } : Env) = X'.env := by rw [hXe]; rfl
  have lp := loop s.toks
  rw [hA, hw] at lp
  rw [hXe] at lp
  have W0 := it.W.self 0 { s with heap := h₄, toks := s.toks }
  exact codeAny_compStart_list lp (W0 _ _ st4 lp)
end
end
section
section
variable {X : Fx} {σ : SS}
def scopeOk (sc : Scope) (x : Str) : Bool := sc.names.all (fun p => match p.2 with
    | .cell => false
    | .local => decide (sc.names.lookup p.1 = some .local)
    | _ => true) && decide (sc.kind = .function) && decide (sc.names.lookup x = some .local)
theorem scopeOk_out {sc : Scope} {x : Str} (h : scopeOk sc x = true) : (∀ y ∈ sc.names, y.2 ≠ .cell) ∧ (∀ y ∈ sc.names, y.2 = .local → sc.names.lookup y.1 = some .local) ∧ sc.kind = .function ∧ sc.names.lookup x = some .local := by
  unfold scopeOk at h
  obtain ⟨h, h3⟩ := Bool.and_eq_true_iff.mp h
  obtain ⟨h1, h2⟩ := Bool.and_eq_true_iff.mp h
  refine ⟨fun y hy e => ?_, fun y hy e => ?_, of_decide_eq_true h2, of_decide_eq_true h3⟩
  · have := List.all_eq_true.mp h1 y hy
    rw [e] at this; cases this
  · have := List.all_eq_true.mp h1 y hy
    rw [e] at this; exact of_decide_eq_true this
theorem clos_ok {ow : Addr → Prop} {ρ : List Addr} {h : Heap} (S : SR X ow ρ h σ) {sc : Scope} (hf : freesOk sc.names X.vid = true) : closureFor sc X.env = pure (clAcc X.env sc.names []) := closureFor_ok fun n hn => by
  have := List.all_eq_true.mp hf n hn
  obtain ⟨i, e⟩ := Option.isSome_iff_exists.mp this
  obtain ⟨c, e1, _⟩ := S.var n i e
  exact ⟨c, e1⟩
theorem drop_C {K : List SV → List SObj → Prop} {ow₁ : Addr → Prop} {ρ₁ : List Addr} {h₁ h' h'' : Heap} {D C : Addr} (S₁ : SR X ow₁ ρ₁ h₁ σ) (co : CompOut X σ ow₁ ρ₁ h₁ K D C h') (hs : Heap.SameBut C h' h'') : ∃ ow' ρ' acc cel', SR X ow' ρ' h'' ⟨σ.loc, cel'⟩ ∧ Ex X ow₁ ρ₁ h₁ ow' ρ' h'' ∧ VR (Pz h'' ow') X.w (.ref D) (.lst acc) ∧ K acc cel' := by
  obtain ⟨⟨ow', ρ', acc, cel', S, e, v, k, oC, nC⟩, fr, _⟩ := co
  have no : ¬ ow₁ C := fun z => let ⟨_, e⟩ := S₁.low _ z; no_get e fr
  have cL : C ≠ X.L := fun z => no (z ▸ S₁.owL)
  have cl : C ≠ X.env.locals := fun z => no (z ▸ S₁.owl)
  have ch : X.h₀.get? C = none := by
    obtain ⟨mf, _, F, _⟩ := S₁.fr
    cases z : X.h₀.get? C with
    | none => rfl
    | some o => exact no_get (F.keep _ _ z) fr
  have kp : ∀ b o, b ∉ [C] → h'.get? b = some o → h''.get? b = some o := fun b o nb e => (hs.2 b (fun z => nb (by rw [z]; exact .head _))).trans e
  obtain ⟨S', e'⟩ := S.hid e (h' := h'') (wr := [C]) (ow' := fun b => ow' b ∧ b ≠ C) kp (fun a m => by rw [List.mem_singleton.mp m]; exact ⟨oC, fr, nC, cL, cl, ch⟩) (fun _ z => z.1) (fun b z => by
    by_cases hb : b = C
    · subst hb; exact .inr ⟨nC, cL, cl, no⟩
    · exact .inl ⟨z, hb⟩) (fun b z m => absurd (List.mem_singleton.mp m) z.2)
  exact ⟨_, ρ', acc, cel', S', e', v.mono fun b o p => ⟨kp b o (fun m => p.2 (by rw [List.mem_singleton.mp m]; exact oC)) p.1, fun z => p.2 z.1⟩, k⟩
theorem JE_ListComp {K : AV → SS → Prop} {elt iter : Expr} {x : Str} {px : Pos} {ifs : List Expr} {scope : Scope} {pos : Pos} (O : X.Ok) (hcomp : X.comp = none) (hok : scopeOk scope x = true) (hfr : freesOk scope.names X.vid = true) (hs : ∀ v, foldedSetIterable iter X.env v = pure v)
    (h : JE X iter σ fun a σ₁ => ∃ its, Iters X a σ₁ its ∧ its.length ≤ 16384 ∧ ∀ X', IsComp X X' scope → JCmp X' x ifs elt its [] σ₁.cel fun acc cel => K (.v (.lst acc)) ⟨σ₁.loc, cel⟩) : JE X (.ListComp elt [⟨.Name x px, iter, ifs, 0⟩] scope pos) σ K := by
  obtain ⟨a1, a2, a3, a4⟩ := scopeOk_out hok
  intro ow ρ s S Q E q
  rw [eval_ListComp]
  refine wpAny_comprehension_free (use := none) rfl hs (clos_ok S hfr) a3 a2 (h ow ρ s S _ _ fun a sa σ₁ ow₁ ρ₁ h₁ tk₁ e₁ S₁ r₁ k₁ => ?_)
  obtain ⟨its, hi, hz, jc⟩ := k₁
  refine hi ow₁ ρ₁ { s with heap := h₁, toks := tk₁ } a S₁ r₁ _ _ fun o fp P St hof it st0 => ?_
  refine run_comp (RR := fun acc C => compPost (model lawP X.w) X.A E none Q acc C) (s := { s with heap := h₁, toks := tk₁ }) O hcomp a1 a3 a4 hfr S₁ hof it st0 hz jc fun D C h' tk co => ?_
  obtain ⟨m', hn⟩ := co.ns
  refine ⟨m', hn, fun h'' hs => ?_⟩
  obtain ⟨ow', ρ', acc, cel', S', e', v, k⟩ := drop_C S₁ co hs
  exact q _ _ _ _ _ _ tk (e₁.trans e') S' (.v v) k
theorem swaps_true {elt : Expr} {gens : List Comprehension} {scope : Scope} {pos py : Pos} {y : Str} {line : Nat} {env : Env} (hk : env.scope.kind = .function) (hy : env.kindOf y = some .local) (hl : Nat.beq py.line pos.line = true) (hn : (scope.names.any fun p => Fast.sEq p.1 y && (p.2 == .local || p.2 == .cell)) = false) : swapsWith (.ListComp elt gens scope pos) (some (.Name y py)) line env = pure true := by
  have e : swapsWith (.ListComp elt gens scope pos) (some (.Name y py)) line env = pure (env.blockKind == .function && env.kindOf y == some .local && py.line == (Expr.ListComp elt gens scope pos).pos.line && !(scope.names.any fun (n, k) => n == y && (k == .local || k == .cell))) := rfl
  have h1 : (scope.names.any fun (n, k) => n == y && (k == .local || k == .cell)) = false := by
    rw [← hn]
    congr 1
    funext p
    rw [← str_beq]
  have h2 : env.blockKind = .function := by unfold Env.blockKind; rw [hk]; rfl
  have h3 : py.line = (Expr.ListComp elt gens scope pos).pos.line := Nat.eq_of_beq_eq_true hl
  rw [e, h1, h2, hy, h3]
  simp
theorem JS_AssignComp {K : SF → SS → Prop} {elt iter : Expr} {x y : Str} {px py : Pos} {ifs : List Expr} {scope : Scope} {pos spos : Pos} (O : X.Ok) (hcomp : X.comp = none) (hok : scopeOk scope x = true) (hfr : freesOk scope.names X.vid = true) (hs : ∀ v, foldedSetIterable iter X.env v = pure v)
    (hy : X.env.kindOf y = some .local) (hl : Nat.beq py.line pos.line = true) (hn : (scope.names.any fun p => Fast.sEq p.1 y && (p.2 == .local || p.2 == .cell)) = false)
    (h : JE X iter σ fun a σ₁ => ∃ its, Iters X a σ₁ its ∧ its.length ≤ 16384 ∧ ∀ X', IsComp X X' scope → JCmp X' x ifs elt its [] σ₁.cel fun acc cel => K .next ⟨(y, .v (.lst acc)) :: σ₁.loc, cel⟩) : JS X (.Assign [.Name y py] (.ListComp elt [⟨.Name x px, iter, ifs, 0⟩] scope pos) spos) σ K := by
  obtain ⟨a1, a2, a3, a4⟩ := scopeOk_out hok
  intro ow ρ s S Q E q
  rw [exec_Assign_Name_used _ _ _ _ (swaps_true O.kind hy hl hn)]
  refine wpAny_bind (wpAny_standAt (wpAny_bind ?_))
  show wpAny _ X.A (do let _ ← comprehension (.ListComp elt [⟨.Name x px, iter, ifs, 0⟩] scope pos) scope X.env _ (newList []) false (eval iter X.env) (some (assign (.Name y py) X.env))) _ _ s
  refine wpAny_bind (wpAny_mono (wpAny_comprehension_free (use := some (assign (.Name y py) X.env)) (Q := fun _ s' => Q .next s') rfl hs (clos_ok S hfr) a3 a2
    (h ow ρ s S _ _ fun a sa σ₁ ow₁ ρ₁ h₁ tk₁ e₁ S₁ r₁ k₁ => ?_)) (fun _ s' hq => wpAny_pure (wpAny_pure hq)) fun _ _ e => e)
  obtain ⟨its, hi, hz, jc⟩ := k₁
  refine hi ow₁ ρ₁ { s with heap := h₁, toks := tk₁ } a S₁ r₁ _ _ fun o fp P St hof it st0 => ?_
  refine run_comp (RR := fun acc C => compPost (model lawP X.w) X.A E (some (assign (.Name y py) X.env)) (fun _ s' => Q .next s') acc C) (s := { s with heap := h₁, toks := tk₁ }) O hcomp a1 a3 a4 hfr S₁ hof it st0 hz jc fun D C h' tk co => ?_
  obtain ⟨⟨ow', ρ', acc, cel', S', e', v, k, oC, nC⟩, fr, m', hnC⟩ := co
  have no : ¬ ow₁ C := fun z => let ⟨_, e⟩ := S₁.low _ z; no_get e fr
  have cl : C ≠ X.env.locals := fun z => no (z ▸ S₁.owl)
  show wpAny _ X.A (assign (.Name y py) X.env (.ref D)) _ _ _
  refine JA_Name (JStore_loc O hy (K := fun σ' => σ' = ⟨(y, .v (.lst acc)) :: σ₁.loc, cel'⟩) rfl) ow' ρ' { s with heap := h', toks := tk } (.ref D) S' (.v v) _ _ fun _ _ σ₃ ow₃ ρ₃ h₃ tk₃ e₃ S₃ _ k₃ => ?_
  subst k₃
  have cL : C ≠ X.L := fun z => no (z ▸ S₁.owL)
  have oC₃ := e₃.own C oC
  have nC₃ : C ∉ ρ₃ := fun m => (e₃.fresh C m).elim nC fun z => by obtain ⟨o, _, _, e, _⟩ := hnC; exact no_get e z
  obtain ⟨oc, es, ep, gC, rC⟩ := hnC
  have gC₃ := e₃.keep C oc gC nC cl cL
  refine ⟨m', ⟨oc, es, ep, gC₃, rC⟩, fun h₄ hs₄ => ?_⟩
  have kp : ∀ b o, b ∉ [C] → h₃.get? b = some o → h₄.get? b = some o := fun b o nb e => (hs₄.2 b (fun z => nb (by rw [z]; exact .head _))).trans e
  have ch : X.h₀.get? C = none := by
    obtain ⟨mf, _, F, _⟩ := S₁.fr
    cases z : X.h₀.get? C with
    | none => rfl
    | some o => exact no_get (F.keep _ _ z) fr
  obtain ⟨S₄, e₄⟩ := S₃.hid (e'.trans e₃) (h' := h₄) (wr := [C]) (ow' := fun b => ow₃ b ∧ b ≠ C) kp (fun a m => by rw [List.mem_singleton.mp m]; exact ⟨oC₃, fr, nC₃, cL, cl, ch⟩) (fun _ z => z.1) (fun b z => by
    by_cases hb : b = C
    · subst hb; exact .inr ⟨nC₃, cL, cl, no⟩
    · exact .inl ⟨z, hb⟩) (fun b z m => absurd (List.mem_singleton.mp m) z.2)
  exact q _ _ _ _ _ _ tk₃ (e₁.trans e₄) S₄ .next k
end
end
section
section
variable {X : Fx} {σ : SS}
theorem JT.mono {e : Expr} {K K' : Bool → SS → Prop} (h : JT X e σ K) (k : ∀ b σ, K b σ → K' b σ) : JT X e σ K' := fun ow ρ s S => (h ow ρ s S).mono k
theorem JL.mono {pos : Pos} {e : List Expr} {K K' : List AV → SS → Prop} (h : JL X pos e σ K) (k : ∀ b σ, K b σ → K' b σ) : JL X pos e σ K' := fun ow ρ s S => (h ow ρ s S).mono k
theorem JS.mono {e : Stmt} {K K' : SF → SS → Prop} (h : JS X e σ K) (k : ∀ b σ, K b σ → K' b σ) : JS X e σ K' := fun ow ρ s S => (h ow ρ s S).mono k
theorem JB.mono {e : List Stmt} {K K' : SF → SS → Prop} (h : JB X e σ K) (k : ∀ b σ, K b σ → K' b σ) : JB X e σ K' := fun ow ρ s S => (h ow ρ s S).mono k
theorem JA.mono {e : Expr} {v : AV} {K K' : SS → Prop} (h : JA X e v σ K) (k : ∀ σ, K σ → K' σ) : JA X e v σ K' := fun ow ρ s va S r => (h ow ρ s va S r).mono fun _ σ => k σ
theorem JPart.mono {o : Option Expr} {K K' : Option Int → SS → Prop} (h : JPart X o σ K) (k : ∀ b σ, K b σ → K' b σ) : JPart X o σ K' := fun ow ρ s S => (h ow ρ s S).mono k
theorem Br.mono {b : Bool} {P Q P' Q' : Prop} (h : Br b P Q) (f : P → P') (g : Q → Q') : Br b P' Q' := by cases b; exact g h; exact f h
theorem Gd.mono {b : Bool} {P P' : Prop} (h : Gd b P) (f : P → P') : Gd b P' := by cases b; exact h.elim; exact f h
theorem Gd.mk {b : Bool} {P : Prop} (h : b = true) (p : P) : Gd b P := by subst h; exact p
def JWh (X : Fx) (test : Expr) (body : List Stmt) : Nat → SS → (SF → SS → Prop) → Prop
  | 0, _, _ => False
  | n + 1, σ, K => JT X test σ fun b σ₁ => Br b (JB X body σ₁ fun f σ₂ => match f with
    | .next => JWh X test body n σ₂ K
    | .cont => JWh X test body n σ₂ K
    | .brk => K .next σ₂
    | .ret v => K (.ret v) σ₂) (K .next σ₁)
theorem JS_While {test : Expr} {body : List Stmt} {pos : Pos} {K : SF → SS → Prop} (n : Nat) (h : JWh X test body n σ K) : JS X (.While test body [] pos) σ K := by
  intro ow ρ s S Q E q
  refine wpAny_While ?_
  let Inv : Nat → Shared → Prop := fun n s' => ∃ ow' ρ' σ' h' tk', s' = { s with heap := h', toks := tk' } ∧ SR X ow' ρ' h' σ' ∧ Ex X ow ρ s.heap ow' ρ' h' ∧ JWh X test body n σ' K
  refine codeAny_whileLoop Inv (fun n s' hI => ?_) n ⟨ow, ρ, σ, s.heap, s.toks, rfl, S, .refl, h⟩
  obtain ⟨ow', ρ', σ', h', tk', rfl, S', e', jw⟩ := hI
  cases n with
  | zero => exact jw.elim
  | succ n =>
    have jw : JT X test σ' _ := jw
    refine jw ow' ρ' { s with heap := h', toks := tk' } S' _ _ fun b b' σ₁ ow₁ ρ₁ h₁ tk₁ e₁ S₁ r₁ k₁ => ?_
    obtain rfl : b = b' := r₁
    cases b with
    | false =>
      rw [if_neg (by decide)]
      exact wpAny_execs_nil (q _ _ _ _ _ _ tk₁ (e'.trans e₁) S₁ .next k₁)
    | true =>
      rw [if_pos rfl]
      refine k₁ ow₁ ρ₁ { s with heap := h₁, toks := tk₁ } S₁ _ _ fun f sf σ₂ ow₂ ρ₂ h₂ tk₂ e₂ S₂ r₂ k₂ => ?_
      have ee := (e'.trans e₁).trans e₂
      cases r₂ with
      | next => exact ⟨n, Nat.lt_succ_self n, ow₂, ρ₂, σ₂, h₂, tk₂, rfl, S₂, ee, k₂⟩
      | cont => exact ⟨n, Nat.lt_succ_self n, ow₂, ρ₂, σ₂, h₂, tk₂, rfl, S₂, ee, k₂⟩
      | brk => exact q _ _ _ _ _ _ tk₂ ee S₂ .next k₂
      | ret r => exact q _ _ _ _ _ _ tk₂ ee S₂ (.ret r) k₂
def isComp : Expr → Bool
  | .ListComp _ _ _ _ => true
  | .SetComp _ _ _ _ => true
  | .DictComp _ _ _ _ _ => true
  | _ => false
theorem swaps_false {value : Expr} {t : Option Expr} {line : Nat} {env : Env} (h : isComp value = false) : swapsWith value t line env = pure false := by
  cases value <;> first | rfl | cases h
theorem swapsSole_false {value t : Expr} {line : Nat} {env : Env} (h : isComp value = false) : swapsWithSole [t] value line env = pure false := by
  cases value <;> first | rfl | cases h
def isTupE : Expr → Bool
  | .Tuple _ _ _ => true
  | _ => false
theorem swapped_none {value : Expr} {ts : List Expr} {k : Nat} {tp : Pos} {env : Env} (h : isTupE value = false) : swappedStores [.Tuple ts k tp] value env = pure none := by
  cases value <;> first | rfl | cases h
def swapNs (names : List (Str × NameKind)) (ts vs : List Expr) : Option (List Str) :=
  match ((ts.length == 2 || ts.length == 3) && vs.length == ts.length && noStar vs && (ts.filterMap fun
    | .Name id pos => if names.lookup id == some .local && pos.line == (ts.head?.map (·.pos.line)).getD 0 then some id else none
    | _ => none).length == ts.length && (ts.filterMap fun
    | .Name id pos => if names.lookup id == some .local && pos.line == (ts.head?.map (·.pos.line)).getD 0 then some id else none
    | _ => none).eraseDups.length == (ts.filterMap fun
    | .Name id pos => if names.lookup id == some .local && pos.line == (ts.head?.map (·.pos.line)).getD 0 then some id else none
    | _ => none).length && !(vs.all (foldedForSure 8)) && !(vs.all (constantsAlone 8))) with
  | true => some (ts.filterMap fun
    | .Name id pos => if names.lookup id == some .local && pos.line == (ts.head?.map (·.pos.line)).getD 0 then some id else none
    | _ => none)
  | false => none
theorem noStar_any : ∀ {vs : List Expr}, noStar vs = true → (vs.any fun | .Starred .. => true | _ => false) = false
  | [], _ => rfl
  | e :: r, h => by
    have ih := noStar_any (noStar_tail h)
    rw [List.any_cons, ih]
    cases e <;> first | rfl | (exact absurd h (by unfold noStar; exact Bool.false_ne_true))
theorem swapped_ok {ts vs : List Expr} {k j : Nat} {tp vp : Pos} {env : Env} {ns : List Str} (hk : env.scope.kind = .function) (h : swapNs env.scope.names ts vs = some ns) : swappedStores [.Tuple ts k tp] (.Tuple vs j vp) env = pure (some ns) := by
  unfold swapNs at h
  split at h
  · rename_i g
    cases h
    obtain ⟨g, g7⟩ := Bool.and_eq_true_iff.mp g
    obtain ⟨g, g6⟩ := Bool.and_eq_true_iff.mp g
    obtain ⟨g, g5⟩ := Bool.and_eq_true_iff.mp g
    obtain ⟨g, g4⟩ := Bool.and_eq_true_iff.mp g
    obtain ⟨g, g3⟩ := Bool.and_eq_true_iff.mp g
    obtain ⟨g1, g2⟩ := Bool.and_eq_true_iff.mp g
    have g7 : vs.all (constantsAlone 8) = false := by simpa using g7
    have g6 : vs.all (foldedForSure 8) = false := by simpa using g6
    have hb : (env.blockKind != .function) = false := by unfold Env.blockKind; rw [hk]; rfl
    have hst := noStar_any g3
    unfold swappedStores
    dsimp only
    have c1 : (!(ts.length == 2 || ts.length == 3) || vs.length != ts.length || env.blockKind != .function) = false := by
      rw [g1, hb, bne, g2]; rfl
    rw [c1, if_neg Bool.false_ne_true]
    refine (if_neg fun e => Bool.false_ne_true (hst.symm.trans e)).trans ?_
    have c2 : ∀ (nm : List Str), (nm.length == ts.length) = true → (nm.eraseDups.length == nm.length) = true → (nm.length != ts.length || nm.eraseDups.length != nm.length) = false := fun nm a b => by rw [bne, a, bne, b]; rfl
    refine (if_neg fun e => Bool.false_ne_true ((c2 _ g4 g5).symm.trans e)).trans ?_
    rw [g6, if_neg Bool.false_ne_true, g7, if_neg Bool.false_ne_true]
    rfl
  · cases h
theorem assignEach_map {env : Env} : ∀ {es : List Expr}, noStar es = true → assignEach es env = es.map fun e => (false, assign e env)
  | [], _ => by unfold assignEach; rfl
  | e :: r, h => by
    have ih : noStar r = true → assignEach r env = r.map fun e => (false, assign e env) := assignEach_map
    cases e <;> first | (exact absurd h (by unfold noStar; exact Bool.false_ne_true)) | (unfold noStar at h; unfold assignEach; rw [ih h]; rfl)
theorem assignEach_cons {env : Env} {e : Expr} {es : List Expr} (h : noStar (e :: es) = true) : assignEach (e :: es) env = (false, assign e env) :: assignEach es env := by
  rw [assignEach_map h, assignEach_map (noStar_tail h)]; rfl
theorem assignEach_idx {env : Env} {es : List Expr} (h : noStar es = true) : (assignEach es env).findIdx? (·.1) = none := by
  rw [assignEach_map h, List.findIdx?_eq_none_iff]
  intro x hx
  obtain ⟨e, _, rfl⟩ := List.mem_map.mp hx
  rfl
theorem assignEach_len {env : Env} {es : List Expr} (h : noStar es = true) : (assignEach es env).length = es.length := by rw [assignEach_map h, List.length_map]
theorem JS_AssignAttr {o value : Expr} {attr : Str} {p pos : Pos} {K : SF → SS → Prop} (hc : isComp value = false) (h : JE X value σ fun v σ₁ => JE X o σ₁ fun a σ₂ => JSetA X attr a v σ₂ fun σ₃ => K .next σ₃) : JS X (.Assign [.Attribute o attr p] value pos) σ K := by
  intro ow ρ s S Q E q
  refine plainObj_wpAny_Assign_Attribute (h ow ρ s S _ _ fun v sv σ₁ ow₁ ρ₁ h₁ tk₁ e₁ S₁ r₁ k₁ => ?_) (swaps_false hc)
  refine k₁ ow₁ ρ₁ { s with heap := h₁, toks := tk₁ } S₁ _ _ fun a sa σ₂ ow₂ ρ₂ h₂ tk₂ e₂ S₂ r₂ k₂ => ?_
  exact k₂ ow₂ ρ₂ { s with heap := h₂, toks := tk₂ } a v S₂ r₂ (S₁.ar e₂ r₁) _ _ fun _ _ σ₃ ow₃ ρ₃ h₃ tk₃ e₃ S₃ _ k₃ => q .next .next σ₃ ow₃ ρ₃ h₃ tk₃ ((e₁.trans e₂).trans e₃) S₃ .next k₃
theorem JS_AssignSub {o i value : Expr} {p pos : Pos} {K : SF → SS → Prop} (hc : isComp value = false) (h : JE X value σ fun v σ₁ => JE X o σ₁ fun a σ₂ => JE X i σ₂ fun b σ₃ => JSetI X a b v σ₃ fun σ₄ => K .next σ₄) : JS X (.Assign [.Subscript o i p] value pos) σ K := by
  intro ow ρ s S Q E q
  refine wpAny_Assign_Subscript (h ow ρ s S _ _ fun v sv σ₁ ow₁ ρ₁ h₁ tk₁ e₁ S₁ r₁ k₁ => ?_) (swaps_false hc)
  refine k₁ ow₁ ρ₁ { s with heap := h₁, toks := tk₁ } S₁ _ _ fun a sa σ₂ ow₂ ρ₂ h₂ tk₂ e₂ S₂ r₂ k₂ => ?_
  refine k₂ ow₂ ρ₂ { s with heap := h₂, toks := tk₂ } S₂ _ _ fun b sb σ₃ ow₃ ρ₃ h₃ tk₃ e₃ S₃ r₃ k₃ => ?_
  exact k₃ ow₃ ρ₃ { s with heap := h₃, toks := tk₃ } a b v S₃ (S₂.ar e₃ r₂) r₃ (S₁.ar (e₂.trans e₃) r₁) _ _ fun _ _ σ₄ ow₄ ρ₄ h₄ tk₄ e₄ S₄ _ k₄ => q .next .next σ₄ ow₄ ρ₄ h₄ tk₄ (((e₁.trans e₂).trans e₃).trans e₄) S₄ .next k₄
noncomputable def nlk (x : Str) : List (Str × NameKind) → Option NameKind
  | [] => none
  | p :: r => match Fast.sEq x p.1 with
    | true => some p.2
    | false => nlk x r
theorem nlk_lookup (x : Str) : ∀ l : List (Str × NameKind), nlk x l = l.lookup x
  | [] => rfl
  | (y, v) :: r => by
    show (match Fast.sEq x y with | true => some v | false => nlk x r) = _
    rw [List.lookup_cons, nlk_lookup x r]
    by_cases h : x = y
    · subst h; rw [sEq_self, beq_self_eq_true]
    · rw [sEq_false h, beq_eq_false_iff_ne.mpr h]
end
end
section
open Builtin
theorem take_eq {id : String} {b : Array UInt8} {t : Tok} : Bytes.takeBuffer? id (.bytes b t) 0 = pure (some (b, none)) := by
  unfold Bytes.takeBuffer?
  rw [KBy.special_eq KBy.look_buffer, KBy.own_buffer]
  simp only [pure_bind]
  show (do return (← Bytes.buffer? id (.bytes b t) (full := (0 : Int) == Bytes.fullReadOnly)).map (·, none)) = _
  have : ((0 : Int) == Bytes.fullReadOnly) = false := by decide
  rw [this, KBy.buffer_eq]
  rfl
theorem takeQuiet_eq {id : String} {b : Array UInt8} {t : Tok} : Bytes.takeBufferQuiet? id (.bytes b t) 0 = pure (some (b, none)) := by
  unfold Bytes.takeBufferQuiet?
  rw [take_eq]
  rfl
open Builtin
inductive BytesAre : List Value → List (List UInt8) → Prop
  | nil : BytesAre [] []
  | cons {b : List UInt8} {t : Tok} {vs : List Value} {bs : List (List UInt8)} : BytesAre vs bs → BytesAre (.bytes ⟨b⟩ t :: vs) (b :: bs)
theorem BytesAre.length {vs : List Value} {bs : List (List UInt8)} (h : BytesAre vs bs) : vs.length = bs.length := by
  induction h with
  | nil => rfl
  | cons _ ih => rw [List.length_cons, List.length_cons, ih]
theorem BytesAre.get {vs : List Value} {bs : List (List UInt8)} (h : BytesAre vs bs) : ∀ {i : Nat} (hi : i < vs.length), ∃ b t, vs[i] = .bytes ⟨b⟩ t ∧ bs[i]? = some b := by
  induction h with
  | nil => intro i hi; exact absurd hi (Nat.not_lt_zero _)
  | cons _ ih =>
    intro i hi
    cases i with
    | zero => exact ⟨_, _, rfl, rfl⟩
    | succ i => exact ih (Nat.lt_of_succ_lt_succ hi)
theorem BytesAre.noHeap {vs : List Value} {bs : List (List UInt8)} (h : BytesAre vs bs) : ∀ (i : Nat), ((vs.take i).map fun v => (v, (none : Option Value))).any (fun x => x.1.onHeap) = false := by
  induction h with
  | nil => intro i; cases i <;> rfl
  | cons _ ih =>
    intro i
    cases i with
    | zero => rfl
    | succ i => rw [List.take_succ_cons, List.map_cons, List.any_cons, ih i]; rfl
theorem one_not {γ : Sort _} (a : Array Value) (f : Value → γ) (g : Array Value → γ) (h : a.size ≠ 1) : Bytes.joinM.match_1 (fun _ => γ) a f g = g a := by
  unfold Bytes.joinM.match_1
  rw [dif_neg h]
theorem join_go {prog : Program} {w : World} {A : Around} {E : Value → Shared → Prop} {s : Shared} {l : Addr} {vs : List Value} {n : Nat} {t : Tok} {bs : List (List UInt8)} {Q : Fin → Shared → Prop} (e : s.heap.get? l = some (listOf vs.toArray n)) (hb : BytesAre vs bs) (h2 : vs.length ≠ 1) (hz : (bs.map (·.length)).sum ≤ 16777216)
    (h : ∀ t' k, Q (.done (.ret (.bytes ⟨bs.flatten⟩ t'))) { s with toks := k }) : wpAny (model prog w) A (Builtin.«bytes.join» ⟨[.bytes ⟨[]⟩ t, .ref l], []⟩) Q E s := by
  have hT : s.TypeIs (.ref l) "list" := ⟨_, e, rfl⟩
  unfold Builtin.«bytes.join» Bytes.joinM
  dsimp only
  refine wpAny_bind (wpAny_of_eq (a := (.bytes ⟨[]⟩ t, .ref l)) rfl ?_)
  dsimp only
  have hk : (Bytes.Kind.bytes == Bytes.Kind.bytes) = true := by decide
  have hk2 : (Bytes.Kind.bytes == Bytes.Kind.bytearray) = false := by decide
  rw [if_pos hk]
  refine wpAny_bind ?_
  unfold Bytes.joinItems
  refine wpAny_bind (wpAny_typeOf hT ?_)
  have ht : (Value.type "list" == Value.type "list" || Value.type "list" == Value.type "tuple") = true := by decide
  rw [if_pos ht]
  refine wpAny_pure ?_
  refine wpAny_bind (wpAny_seqItems e rfl ?_)
  dsimp only
  rw [if_pos hk, one_not _ _ _ (by simpa using h2)]
  rw [Std.Legacy.Range.forIn_eq_forIn_range']
  refine wpAny_bind ?_
  have hr : (List.range' [:vs.toArray.size].start [:vs.toArray.size].size [:vs.toArray.size].step) = List.range' 0 vs.length 1 := by simp [Std.Legacy.Range.size]
  rw [hr]
  have hl := hb.length
  refine wpAny_forIn_list _ (fun rest st s' => ∃ i, i ≤ vs.length ∧ rest = List.range' i (vs.length - i) 1 ∧ st = (((bs.take i).map fun b => (⟨b⟩ : Array UInt8)).toArray, (vs.take i).map fun v => (v, none)) ∧ s' = s) _ (fun i rest st s' hI => ?_) (fun st s' hI => ?_) _ _ ⟨0, Nat.zero_le _, rfl, rfl, rfl⟩
  · obtain ⟨j, hj, e1, rfl, rfl⟩ := hI
    have hlt : j < vs.length := by
      rcases Nat.lt_or_ge j vs.length with h | h
      · exact h
      · rw [Nat.sub_eq_zero_of_le h] at e1; cases e1
    have e2 : vs.length - j = (vs.length - (j + 1)) + 1 := by omega
    rw [e2, List.range'_succ] at e1
    obtain ⟨rfl, rfl⟩ := List.cons.inj e1
    obtain ⟨b, t', ev, eb⟩ := hb.get hlt
    refine wpAny_bind (wpAny_seqItems e rfl ?_)
    dsimp only
    have ha : ((vs.take i).map fun v => (v, (none : Option Value))).any (fun x => x.1.onHeap) = false := hb.noHeap i
    have hg : vs.toArray.getD i .none = .bytes ⟨b⟩ t' := by
      simp [Array.getD, hlt, ev]
    rw [hk2, ha, Bool.false_or, if_neg Bool.false_ne_true, hg]
    refine wpAny_bind (wpAny_holding (wpAny_of_eq takeQuiet_eq ?_))
    dsimp only
    refine wpAny_bind (wpAny_seqItems e rfl ?_)
    dsimp only
    rw [if_neg (by simp)]
    refine wpAny_pure ⟨i + 1, hlt, rfl, ?_, rfl⟩
    rw [List.take_add_one, List.take_add_one, eb, List.getElem?_eq_getElem hlt, ev]
    simp
  · obtain ⟨i, hi, e1, rfl, rfl⟩ := hI
    have hie : i = vs.length := by
      rcases Nat.lt_or_ge i vs.length with h | h
      · have : vs.length - i = (vs.length - i - 1) + 1 := by omega
        rw [this, List.range'_succ] at e1; cases e1
      · omega
    subst hie
    rw [hl, List.take_length, ← hl, List.take_length]
    refine wpAny_bind (wpAny_of_eq (a := (⟨[]⟩ : Array UInt8)) rfl ?_)
    have hj : ∀ (l : List (List UInt8)) (k : Nat) (acc : Array UInt8), ((l.map fun b => (⟨b⟩ : Array UInt8)).zipIdx k).foldl (fun out (p, i) => (if i > 0 then out ++ (⟨[]⟩ : Array UInt8) else out) ++ p) acc = acc ++ (⟨l.flatten⟩ : Array UInt8) := by
      intro l
      induction l with
      | nil => intro k acc; simp
      | cons b l ih =>
        intro k acc
        rw [List.map_cons, List.zipIdx_cons, List.foldl_cons, ih]
        have : (if k > 0 then acc ++ (⟨[]⟩ : Array UInt8) else acc) = acc := by split <;> simp
        dsimp only
        rw [this]
        simp
    have hf : ∀ (l : List (List UInt8)) (acc : Nat), (l.map fun b => (⟨b⟩ : Array UInt8)).foldl (fun a b => a + b.size) acc = acc + (l.map (·.length)).sum := by
      intro l
      induction l with
      | nil => intro acc; simp
      | cons b l ih => intro acc; rw [List.map_cons, List.foldl_cons, ih]; simp; omega
    have ht' : Bytes.tooLong (Array.foldl (fun x1 x2 => x1 + x2.size) ((⟨[]⟩ : Array UInt8).size * (((bs.map fun b => (⟨b⟩ : Array UInt8)).toArray).size - 1)) (bs.map fun b => (⟨b⟩ : Array UInt8)).toArray) = false := by
      refine KBy.tooLong_not ?_
      rw [List.foldl_toArray, hf]
      simpa using hz
    rw [ht', if_neg Bool.false_ne_true]
    have hjd : Bytes.joined ⟨[]⟩ ((bs.map fun b => (⟨b⟩ : Array UInt8)).toArray).toList = ⟨bs.flatten⟩ := by
      unfold Bytes.joined
      rw [hj]; simp
    rw [hjd]
    have hsz : (⟨bs.flatten⟩ : Array UInt8).size ≤ sizeLine := by
      have h1 : (⟨bs.flatten⟩ : Array UInt8).size = (bs.map (·.length)).sum := by
        show bs.flatten.length = _
        rw [List.length_flatten]
      rw [h1]; exact hz
    refine wpAny_bind (wpAny_mkBytes ?_ hsz)
    refine wpAny_bind (wpAny_holding (wpAny_point ?_))
    have hlg : ∀ (l : List Value) (keep : List Value) (Q' : Unit → Shared → Prop) (s' : Shared), Q' () s' → wpAny (model prog w) A (Bytes.joinLetGo (l.map fun v => (v, none)) keep) Q' E s' := by
      intro l keep
      induction l with
      | nil => intro Q' s' h; exact wpAny_pure h
      | cons v l ih =>
        intro Q' s' h
        rw [List.map_cons, Bytes.joinLetGo]
        · exact wpAny_bind (wpAny_letGo (ih Q' s' h))
        · intro _ e; cases e
    refine wpAny_bind (hlg _ _ _ _ ?_)
    exact wpAny_pure (h _ _)
end
section
open Builtin
theorem slot_bytes_join : Slot "bytes" "join" "bytes.join" :=
  .of (owner := "bytes") (n := "join") (by rw [typeLookup_type, builtinLookup_eq_fast]; kernel_rfl) (by decide +kernel) (by decide +kernel) (by decide +kernel)
    (by first | exact .inl (by decide +kernel) | exact .inr (by decide +kernel)) (by rw [isSubtype_type]; kernel_rfl)
theorem type_bytes_join : typeOf (.builtin "bytes.join") = pure (.type "method_descriptor") := by show builtinType _ = _; rw [builtinType_eq_fast]; kernel_rfl
theorem entry_bytes_join : entryFor table "bytes.join" = some Builtin.«bytes.join» := entryFor_of_tree (by kernel_rfl)
theorem args_bytes_join_2 (a b : Value) : argsOk "bytes.join" ⟨[a, b], []⟩ := by
  unfold argsOk; rw [signature?_of (id := "bytes.join") (n := ['n', 'i', 'o', 'j']) (o := ['s', 'e', 't', 'y', 'b']) (by kernel_rfl) FB.owner_bytes]; kernel_rfl
theorem join_one {prog : Program} {w : World} {A : Around} {E : Value → Shared → Prop} {s : Shared} {l : Addr} {b : List UInt8} {t' : Tok} {n : Nat} {t : Tok} {Q : Fin → Shared → Prop} (e : s.heap.get? l = some (listOf #[.bytes ⟨b⟩ t'] n))
    (h : Q (.done (.ret (.bytes ⟨b⟩ t'))) s) : wpAny (model prog w) A (Builtin.«bytes.join» ⟨[.bytes ⟨[]⟩ t, .ref l], []⟩) Q E s := by
  have hT : s.TypeIs (.ref l) "list" := ⟨_, e, rfl⟩
  unfold Builtin.«bytes.join» Bytes.joinM
  dsimp only
  refine wpAny_bind (wpAny_of_eq (a := (.bytes ⟨[]⟩ t, .ref l)) rfl ?_)
  dsimp only
  have hk : (Bytes.Kind.bytes == Bytes.Kind.bytes) = true := by decide
  rw [if_pos hk]
  refine wpAny_bind ?_
  unfold Bytes.joinItems
  refine wpAny_bind (wpAny_typeOf hT ?_)
  have ht : (Value.type "list" == Value.type "list" || Value.type "list" == Value.type "tuple") = true := by decide
  rw [if_pos ht]
  refine wpAny_pure ?_
  refine wpAny_bind (wpAny_seqItems e rfl ?_)
  dsimp only
  rw [if_pos hk]
  refine wpAny_bind (wpAny_typeOf (typeIs_bytes s ⟨b⟩ t') ?_)
  have ht2 : (Value.type "bytes" == Value.type "bytes") = true := by decide
  rw [if_pos ht2]
  refine wpAny_bind (wpAny_rule ?_)
  exact wpAny_pure h
end
section
section
variable {X : Fx} {σ : SS} {K : AV → SS → Prop}
def bytesOf : List SV → Option (List (List UInt8))
  | [] => some []
  | .bytes y :: r => (bytesOf r).map (y :: ·)
  | _ => none
theorem bytesOf_map (l : List (List UInt8)) : bytesOf (l.map .bytes) = some l := by
  induction l with
  | nil => rfl
  | cons a l ih => rw [List.map_cons, bytesOf, ih]; rfl
theorem bytesOf_ok {P : Addr → Obj → Prop} {w : World} : ∀ {vs : List Value} {l : List SV} {bs : List (List UInt8)}, VRs P w vs l → bytesOf l = some bs → BytesAre vs bs
  | _, _, _, .nil, e => by cases e; exact .nil
  | _, d :: ds, bs, .cons h r, e => by
    unfold bytesOf at e
    cases h <;> try (cases e)
    dsimp only at e
    cases q : bytesOf ds with
    | none => rw [q] at e; cases e
    | some l => rw [q] at e; cases e; exact .cons (bytesOf_ok r q)
def sumLen : List (List UInt8) → Nat
  | [] => 0
  | b :: r => b.length + sumLen r
theorem sumLen_eq (l : List (List UInt8)) : sumLen l = (l.map (·.length)).sum := by
  induction l with
  | nil => rfl
  | cons a l ih => rw [sumLen, ih]; rfl
def joinD (as : List AV) (k : SV → Prop) : Prop := match as with
  | [.v (.lst l)] => (match bytesOf l with | some bs => Gd (Nat.ble (sumLen bs) 1048576) (k (.bytes bs.flatten)) | none => False)
  | _ => False
theorem JGm_join {b : List UInt8} : JGm X "join" (.v (.bytes b)) σ "bytes.join" := by
  intro ow ρ s va pl S ra Q E q
  cases ra with | v r =>
  obtain ⟨t, rfl⟩ := r.bytes_inv
  exact getMethod_builtin (typeIs_bytes s _ _) FB.plainAttrs_bytes slot_bytes_join type_bytes_join (fun a e => by cases e) q
theorem run_join {as : List AV} (h : joinD as fun v => K (.v v) σ) : JCall X (.builtin "bytes.join") (.v (.bytes []) :: as) σ K := by
  intro ow ρ s vs S R Q E q
  unfold joinD at h
  split at h
  · split at h
    · rename_i bs e
      obtain ⟨g, h⟩ := h.out
      have g := Nat.le_of_ble_eq_true g
      cases R with | cons r rs => cases rs with | cons r2 rs => cases rs with | nil =>
      obtain ⟨t, rfl⟩ := r.inv.bytes_inv
      obtain ⟨a, vs, n, rfl, e1, r1⟩ := lst_of r2.inv
      have hb := bytesOf_ok r1 e
      refine wpAny_call_entry slot_bytes_join (typeIs_bytes s _ _) entry_bytes_join ?_ (args_bytes_join_2 _ _)
      by_cases h1 : vs.length = 1
      · match vs, bs, hb, h1 with
        | [_], [_], .cons (b := b) (t := t') .nil, _ =>
          refine join_one e1 ⟨_, rfl, ?_⟩
          have e : [b].flatten = b := by simp
          rw [e] at h
          exact ansV S (.bytes _ _) h q
      · refine join_go e1 hb h1 (Nat.le_trans (by rw [← sumLen_eq]; exact g) (by decide)) fun t' k => ⟨_, rfl, ?_⟩
        exact ansV S (.bytes _ _) h q
    · exact h.elim
  · exact h.elim
end
end
section
section
variable {X : Fx} {σ : SS} {K : AV → SS → Prop}
open Builtin in
theorem index_go {prog : Program} {w : World} {A : Around} {E : Value → Shared → Prop} {s : Shared} {a : Addr} {vs : List Value} {n : Nat} {ns : List Int} {x : Int} {t : Tok} {j : Nat} {Q : Fin → Shared → Prop} (e : s.heap.get? a = some (tupObj vs n)) (hi : IntsAre vs ns) (hj : ns[j]? = some x) (hn : ∀ i < j, ns[i]? ≠ some x)
    (h : ∀ tk, Q (.done (.ret (.int j s.toks))) { s with toks := tk }) : wpAny (model prog w) A (Builtin.«tuple.index» ⟨[.ref a, .int x t], []⟩) Q E s := by
  unfold Builtin.«tuple.index»
  refine wpAny_bind (wpAny_of_eq (a := (.ref a, [.int x t])) rfl ?_)
  dsimp only
  refine wpAny_bind ?_
  unfold Tuple.tupleItemsOf
  refine wpAny_bind (wpAny_seqItems e rfl ?_)
  refine wpAny_pure ?_
  refine wpAny_bind (wpAny_pure ?_)
  refine wpAny_bind (wpAny_pure ?_)
  rw [Nat.min_self, Std.Legacy.Range.forIn_eq_forIn_range']
  have hr : (List.range' [:vs.toArray.size].start [:vs.toArray.size].size [:vs.toArray.size].step) = List.range' 0 vs.length 1 := by simp [Std.Legacy.Range.size]
  rw [hr]
  have hl : vs.length = ns.length := hi.length
  have hjl : j < ns.length := (List.getElem?_eq_some_iff.mp hj).1
  refine wpAny_bind ?_
  refine wpAny_forIn_list _ (fun rest st s' => ∃ i, i ≤ j ∧ rest = List.range' i (vs.length - i) 1 ∧ st = (none, ()) ∧ s' = s) _ (fun i rest st s' hI => ?_) (fun st s' hI => ?_) _ _ ⟨0, Nat.zero_le _, rfl, rfl, rfl⟩
  · obtain ⟨i', hi', e1, rfl, rfl⟩ := hI
    have e2 : vs.length - i' = (vs.length - (i' + 1)) + 1 := by omega
    rw [e2, List.range'_succ] at e1
    obtain ⟨rfl, rfl⟩ := List.cons.inj e1
    obtain ⟨v, hv⟩ : ∃ v, vs[i]? = some v := ⟨vs[i]'(by omega), List.getElem?_eq_getElem (by omega)⟩
    obtain ⟨y, u, rfl, hy⟩ := IntsAre.at hi i v hv
    have hva : vs.toArray[i]? = some (.int y u) := by simpa using hv
    rw [hva]
    dsimp only
    refine wpAny_bind (wpAny_eqBool_int ?_)
    by_cases hyx : y = x
    · subst hyx
      have hij : i = j := by
        rcases Nat.lt_or_ge i j with q | q
        · exact absurd hy (hn i q)
        · omega
      subst hij
      rw [if_pos (beq_self_eq_true _)]
      refine wpAny_bind (wpAny_bind (wpAny_mkInt (wpAny_pure (wpAny_pure ?_))))
      dsimp only
      exact wpAny_pure (h _)
    · rw [if_neg (by simpa using hyx)]
      refine wpAny_pure ⟨i + 1, ?_, rfl, rfl, rfl⟩
      rcases Nat.lt_or_ge i j with q | q
      · exact q
      · have : i = j := by omega
        subst this
        rw [hj] at hy
        exact absurd (Option.some.inj hy).symm hyx
  · obtain ⟨i', hi', e1, rfl, rfl⟩ := hI
    have e2 : vs.length - i' = (vs.length - (i' + 1)) + 1 := by omega
    rw [e2, List.range'_succ] at e1
    cases e1
end
end
section
def codeG (M : Model) (A : Around) (c : Code) (R : Result → Shared → Prop) (s : Shared) : Prop :=
  ∀ Γ p, Γ.code = c → Γ.Below A → GS Γ.below → wpCode M Γ R p s
section
variable {α β : Type} {M : Model} {A : Around} {E : Value → Shared → Prop} {s : Shared}
theorem wpG_pure {a : α} {Q : α → Shared → Prop} (h : Q a s) : wpG M A (pure a) Q E s := fun _ _ _ _ _ => h
theorem wpG.monoQ {t : Sem α} {Q Q' : α → Shared → Prop} (h : wpG M A t Q E s) (hQ : ∀ a s, Q a s → Q' a s) : wpG M A t Q' E s := h.mono hQ fun _ _ x => x
theorem wpG_then {m : Sem α} {f : α → Sem β} {Q : β → Shared → Prop} (h : wpAny M A m (fun a s' => wpG M A (f a) Q E s') E s) : wpG M A (m >>= f) Q E s := wpG_bind (.of h)
theorem wpG_onRaise {m : Sem α} {k : Value → Sem Unit} {Q : α → Shared → Prop} (h : wpG M A m Q (fun e s' => wpG M A (k e) (fun _ s'' => E e s'') E s') s) : wpG M A (m.onRaise k) Q E s := fun Γ p a b c => by
  rw [Sem.wp_onRaise]
  exact Sem.wp_mono M Γ m (fun _ _ _ h' => h') (fun e p' s' h' => h' Γ p' a b c) p s (h Γ p a b c)
theorem wpG_holding {vs : List Value} {m : Sem α} {Q : α → Shared → Prop} (h : wpG M A m Q E s) : wpG M A (holding vs m) Q E s := fun Γ p a b c => by rw [Sem.wp_holding]; exact h Γ p a b c
theorem wpG_keep {vs : List Value} {m : Sem α} {Q : α → Shared → Prop} (h : wpG M A m Q E s) : wpG M A (m.keep vs) Q E s := fun Γ p a b c => by rw [Sem.wp_keep]; exact h Γ p a b c
theorem wpG_of_eq {t : Sem α} {a : α} {Q : α → Shared → Prop} (h : t = pure a) (q : Q a s) : wpG M A t Q E s := by subst h; exact wpG_pure q
theorem wpG_standAt {pos : Pos} {Q : Unit → Shared → Prop} (h : Q () s) : wpG M A (standAt pos) Q E s := fun _ _ _ _ _ => h
theorem wpG_point {Q : Unit → Shared → Prop} (h : Q () s) : wpG M A point Q E s := fun _ _ _ _ _ => h
theorem wpG_rule {tag : String} {Q : Unit → Shared → Prop} (h : Q () s) : wpG M A (rule tag) Q E s := fun _ _ _ _ _ => h
theorem wpG_if {c : Bool} {a b : Sem α} {Q : α → Shared → Prop} (h : if c = true then wpG M A a Q E s else wpG M A b Q E s) : wpG M A (if c = true then a else b) Q E s := by cases c <;> exact h
theorem wpG_runValue {c : Code} {Q : Value → Shared → Prop} (hc : codeG M A c (fun r s' => match r with | .ok (.ret v) => Q v s' | .ok _ => False | .error e => E e s') s) : wpG M A (runValue c) Q E s := fun Γ p a b d => by
  rw [Sem.wp_runValue]
  refine hc _ p rfl (a.enter c none p (by intro x; cases x)) fun x hx => ?_
  rcases List.mem_cons.mp hx with rfl | hx
  · exact b
  · exact d x hx
theorem wpG_run {c : Code} {h : Option Value} {Q : Flow → Shared → Prop} (hc : codeG M (A.mark h) c (fun r s' => match r with | .ok f => Q f s' | .error e => E e s') s) (hnb : h ≠ some byPass := by intro x; cases x) : wpG M A (run c h) Q E s := fun Γ p a b d => by
  rw [Sem.wp_run]
  refine hc _ p rfl (a.enter c h p hnb) fun x hx => ?_
  rcases List.mem_cons.mp hx with rfl | hx
  · exact b
  · exact d x hx
theorem wpG_call {f : Value} {pos : List Value} {kw : List (Str × Value)} {Q : Value → Shared → Prop} (hc : codeG M A (.call f ⟨pos, kw⟩) (fun r s' => match r with | .ok (.ret v) => Q v s' | .ok _ => False | .error e => E e s') s) : wpG M A (call f pos kw) Q E s := wpG_runValue hc
theorem codeG_of_tree {c : Code} {R : Result → Shared → Prop} (hok : okC c = true)
    (h : wpG M (A.under c) (M.den c) (fun fin s' => match fin with | .done f => R (.ok f) s' | .again c' => c'.quiet = true ∧ codeG M A c' R s') (fun e s' => R (.error e) s') s) : codeG M A c R s := fun Γ p hc hΓ g => by
  rw [wpCode_iff_wp, hc]
  refine Sem.wp_mono M Γ _ (fun fin p' s' h' => ?_) (fun _ _ _ h' => h') p s (h Γ p (hc ▸ hΓ.in) (hc ▸ hok) g)
  cases fin with
  | done f => exact h'
  | again c' => exact ⟨h'.1, h'.2 (Γ.goto c') p' rfl (hΓ.goto c') g⟩
theorem codeG_mono {c : Code} {R R' : Result → Shared → Prop} (h : codeG M A c R s) (hR : ∀ r s, R r s → R' r s) : codeG M A c R' s := fun Γ p a b d => wpCode_mono hR (h Γ p a b d)
theorem codeG_loop {c : Code} {R : Result → Shared → Prop} (hok : okC c = true) (hq : c.quiet = true) (I : Nat → Shared → Prop)
    (turn : ∀ n s, I n s → wpG M (A.under c) (M.den c) (fun fin s' => match fin with | .done f => R (.ok f) s' | .again c' => c' = c ∧ ∃ m, m < n ∧ I m s') (fun e s' => R (.error e) s') s)
    (n : Nat) (h : I n s) : codeG M A c R s := by
  induction n using Nat.strongRecOn generalizing s with
  | ind n ih =>
    refine codeG_of_tree hok ((turn n s h).mono (fun fin s' hf => ?_) fun _ _ h' => h')
    cases fin with
    | done f => exact hf
    | again c' => obtain ⟨rfl, m, hm, hI⟩ := hf; exact ⟨hq, ih m hm hI⟩
theorem wpG_stackAny {f : Code × Pos → Bool} {Q : Bool → Shared → Prop} (hf : ∀ c p, okC c = true → f (c, p) = false) (h : Q false s) : wpG M A (do return (← stack).any f) Q E s := fun Γ p _ b c => by
  show Q (((Γ.code, p) :: Γ.below).any f) s
  have e : ((Γ.code, p) :: Γ.below).any f = false := by
    rw [List.any_eq_false]
    intro x hx
    rcases List.mem_cons.mp hx with rfl | hx
    · rw [hf _ _ b]; exact Bool.false_ne_true
    · obtain ⟨c', p'⟩ := x
      rw [hf c' p' (c _ hx)]; exact Bool.false_ne_true
  rw [e]; exact h
end
end
section
abbrev F0 : Value → Shared → Prop := fun _ _ => False
section
variable {α β : Type} {M : Model} {A : Around} {s : Shared} {env : Env}
theorem wpG_onRaise0 {E : Value → Shared → Prop} {m : Sem α} {k : Value → Sem Unit} {Q : α → Shared → Prop} (h : wpG M A m Q F0 s) : wpG M A (m.onRaise k) Q E s := wpG_onRaise (h.mono (fun _ _ x => x) fun _ _ x => x.elim)
theorem wpG_operate {vs : List Value} {m : Sem Value} {E : Value → Shared → Prop} {Q : Value → Shared → Prop} (h : wpG M A m Q E s) : wpG M A (operate vs m) Q E s := fun Γ p a b c => by
  rw [Sem.wp_operate]; exact h Γ p a b c
theorem G_BinOp {l r : Expr} {op : Operator} {pos : Pos} {Q : Value → Shared → Prop}
    (h : wpG M A (eval l env) (fun a s₁ => wpG M A (eval r env) (fun b s₂ => wpG M A (binaryOp op a b) Q F0 s₂) F0 s₁) F0 s) : wpG M A (eval (.BinOp l op r pos) env) Q F0 s := by
  rw [eval_BinOp]
  exact wpG_bind (h.monoQ fun a s₁ h₁ => wpG_bind (wpG_holding (h₁.monoQ fun b s₂ h₂ => wpG_bind (wpG_standAt (wpG_operate h₂)))))
theorem G_Compare1 {l r : Expr} {op : CmpOp} {pos : Pos} {Q : Value → Shared → Prop} (hm : behindInMarks op r = false)
    (h : wpG M A (eval l env) (fun a s₁ => wpG M A (eval r env) (fun b s₂ => wpG M A (compareOp op a b) Q F0 s₂) F0 s₁) F0 s) : wpG M A (eval (.Compare l [op] [r] pos) env) Q F0 s := by
  rw [eval_Compare1, markedBehindIn_of_false hm]
  exact wpG_bind (h.monoQ fun a s₁ h₁ => wpG_bind (wpG_holding (h₁.monoQ fun b s₂ h₂ => wpG_bind (wpG_standAt (wpG_operate h₂)))))
theorem G_isTrue_Compare1 {l r : Expr} {op : CmpOp} {pos : Pos} {whole : Sem Value} {Q : Bool → Shared → Prop} (hm : behindInMarks op r = false)
    (h : wpG M A (eval l env) (fun a s₁ => wpG M A (eval r env) (fun b s₂ => wpG M A (compareOp op a b) (fun c s₃ => wpG M A (truthy c) Q F0 s₃) F0 s₂) F0 s₁) F0 s) : wpG M A (isTrue (.Compare l [op] [r] pos) env whole) Q F0 s := by
  rw [isTrue_Compare1, markedBehindIn_of_false hm]
  exact wpG_bind (h.monoQ fun a s₁ h₁ => wpG_bind (wpG_holding (h₁.monoQ fun b s₂ h₂ => wpG_bind (wpG_standAt (wpG_bind (wpG_operate (h₂.monoQ fun c s₃ h₃ => wpG_holding h₃)))))))
theorem G_isTrue_plain {e : Expr} {whole : Sem Value} {Q : Bool → Shared → Prop} (h : wpG M A whole (fun v s₁ => wpG M A (truthy v) Q F0 s₁) F0 s)
    (he : isTrue e env whole = (do let v ← whole; standAt e.pos; holding [v] (truthy v))) : wpG M A (isTrue e env whole) Q F0 s := by
  rw [he]
  exact wpG_bind (h.monoQ fun v s₁ h₁ => wpG_bind (wpG_standAt (wpG_holding h₁)))
theorem G_isTrue_not {x : Expr} {pos : Pos} {whole : Sem Value} {Q : Bool → Shared → Prop} (h : wpG M A (isTrue x env (eval x env)) (fun c s' => Q (!c) s') F0 s) : wpG M A (isTrue (.UnaryOp .Not x pos) env whole) Q F0 s := by
  show wpG M A (do return !(← isTrue x env (eval x env))) Q F0 s
  exact wpG_bind (h.monoQ fun c s' h' => wpG_pure h')
theorem G_isTrue_BoolOp {op : BoolOp} {values : List Expr} {pos : Pos} {whole : Sem Value} {Q : Bool → Shared → Prop} (h : wpG M A (allTrue op values env) Q F0 s) : wpG M A (isTrue (.BoolOp op values pos) env whole) Q F0 s := by
  rw [arm_isTrue_BoolOp]; exact h
theorem G_allTrue_And_cons {x : Expr} {rest : List Expr} {Q : Bool → Shared → Prop} (h : wpG M A (isTrue x env (eval x env)) (fun b s₁ => if b then wpG M A (allTrue .And rest env) Q F0 s₁ else Q false s₁) F0 s) : wpG M A (allTrue .And (x :: rest) env) Q F0 s := by
  show wpG M A (do match BoolOp.And, ← isTrue x env (eval x env) with | .And, false => pure false | .Or, true => pure true | _, _ => allTrue .And rest env) Q F0 s
  refine wpG_bind (h.monoQ fun b s₁ h₁ => ?_)
  cases b
  · exact wpG_pure h₁
  · exact h₁
theorem G_allTrue_Or_cons {x : Expr} {rest : List Expr} {Q : Bool → Shared → Prop} (h : wpG M A (isTrue x env (eval x env)) (fun b s₁ => if b then Q true s₁ else wpG M A (allTrue .Or rest env) Q F0 s₁) F0 s) : wpG M A (allTrue .Or (x :: rest) env) Q F0 s := by
  show wpG M A (do match BoolOp.Or, ← isTrue x env (eval x env) with | .And, false => pure false | .Or, true => pure true | _, _ => allTrue .Or rest env) Q F0 s
  refine wpG_bind (h.monoQ fun b s₁ h₁ => ?_)
  cases b
  · exact h₁
  · exact wpG_pure h₁
theorem G_BoolOp_or {e₁ e₂ : Expr} {rest : List Expr} {pos : Pos} {Q : Value → Shared → Prop}
    (h : wpG M A (eval e₁ env) (fun v s₁ => wpG M A (truthy v) (fun c s₂ => if c then Q v s₂ else wpG M A (eval (.BoolOp .Or (e₂ :: rest) pos) env) Q F0 s₂) F0 s₁) F0 s) : wpG M A (eval (.BoolOp .Or (e₁ :: e₂ :: rest) pos) env) Q F0 s := by
  show wpG M A (do
    let v ← eval e₁ env
    standAt pos
    let c ← holding [v] (truthy v)
    match BoolOp.Or, c with
    | .And, false | .Or, true => pure v
    | _, _ => boolOp pos .Or (eval e₂ env :: evalEach rest env)) Q F0 s
  refine wpG_bind (h.monoQ fun v s₁ h₁ => wpG_bind (wpG_standAt (wpG_bind (wpG_holding (h₁.monoQ fun c s₂ h₂ => ?_)))))
  cases c with
  | false => exact h₂
  | true => exact wpG_pure h₂
theorem G_IfExp {test body orelse : Expr} {pos : Pos} {Q : Value → Shared → Prop}
    (h : wpG M A (isTrue test env (eval test env)) (fun c s₂ => if c then wpG M A (eval body env) Q F0 s₂ else wpG M A (eval orelse env) Q F0 s₂) F0 s) : wpG M A (eval (.IfExp test body orelse pos) env) Q F0 s := by
  rw [eval_IfExp]
  refine wpG_bind (h.monoQ fun c s₂ h₂ => ?_)
  cases c <;> exact h₂
theorem G_If {test : Expr} {body orelse : List Stmt} {pos : Pos} {Q : Flow → Shared → Prop}
    (h : wpG M A (isTrue test env (eval test env)) (fun b s₂ => if b then wpG M A (execs body env) Q F0 s₂ else wpG M A (execs orelse env) Q F0 s₂) F0 s) : wpG M A (exec (.If test body orelse pos) env) Q F0 s := by
  rw [exec_If]
  refine wpG_bind (wpG_standAt (wpG_bind (h.monoQ fun b s₂ h₂ => ?_)))
  cases b <;> exact h₂
theorem G_Return {e : Expr} {pos : Pos} {Q : Flow → Shared → Prop} (h : wpG M A (eval e env) (fun v => Q (.ret v)) F0 s) : wpG M A (exec (.Return (some e) pos) env) Q F0 s := by
  rw [exec_Return_some]
  exact wpG_bind (wpG_standAt (wpG_bind (h.monoQ fun v s' h' => wpG_pure h')))
theorem G_bindName {x : Str} {v : Value} {Q : Unit → Shared → Prop} (h : wpG M A (storeName env x v) Q F0 s) : wpG M A (bindName env x v) Q F0 s := fun Γ p a b c => by
  rw [Sem.wp_bindName]; exact h Γ p a b c
theorem G_Assign_Name {x : Str} {pos' : Pos} {value : Expr} {pos : Pos} {Q : Flow → Shared → Prop}
    (h : wpG M A (eval value env) (fun v s₁ => wpG M A (storeName env x v) (fun _ => Q .next) F0 s₁) F0 s) (hs : swapsWith value (some (.Name x pos')) pos.line env = pure false) : wpG M A (exec (.Assign [.Name x pos'] value pos) env) Q F0 s := by
  rw [exec_Assign_Name env x pos' value pos hs]
  refine wpG_bind (wpG_standAt (wpG_bind (h.monoQ fun v s₁ h₁ => wpG_bind (wpG_standAt (wpG_bind ?_)))))
  exact G_bindName (h₁.monoQ fun _ s' h' => wpG_pure h')
theorem G_execs_nil {Q : Flow → Shared → Prop} (h : Q .next s) : wpG M A (execs [] env) Q F0 s := wpG.of (wpAny_execs_nil h)
theorem G_execs_cons {st : Stmt} {rest : List Stmt} {Q : Flow → Shared → Prop}
    (h : wpG M A (exec st env) (fun f s' => match f with | .next => wpG M A (execs rest env) Q F0 s' | f => Q f s') F0 s) : wpG M A (execs (st :: rest) env) Q F0 s := by
  rw [execs_cons]
  refine wpG_bind (h.monoQ fun f s' h' => ?_)
  cases f <;> first | exact h' | exact wpG_pure h'
theorem G_spliced_cons {x : Sem Value} {rest : List (Bool × Sem Value)} {Q : List Value → Shared → Prop} (h : wpG M A x (fun v s₁ => wpG M A (spliced rest) (fun vs s₂ => Q (v :: vs) s₂) F0 s₁) F0 s) : wpG M A (spliced ((false, x) :: rest)) Q F0 s := by
  rw [spliced]
  refine wpG_bind (h.monoQ fun v s₁ h₁ => ?_)
  simp only [Bool.false_eq_true, if_false]
  exact wpG_bind (wpG_pure (wpG_bind (wpG_holding (h₁.monoQ fun vs s₂ h₂ => wpG_pure h₂))))
theorem G_evalArgs {f : Value} {x : Sem Value} {rest : List (Bool × Sem Value)} {Q : Args → Shared → Prop} (h : wpG M A (spliced ((false, x) :: rest)) (fun vs s' => Q ⟨vs, []⟩ s') F0 s) : wpG M A (evalArgs f true ((false, x) :: rest) []) Q F0 s := by
  unfold evalArgs
  show wpG M A (spliced ((false, x) :: rest) >>= _) Q F0 s
  refine wpG_bind (h.monoQ fun vs s' h' => ?_)
  refine wpG_holding ?_
  exact wpG_bind (wpG_pure (wpG_bind (wpG_pure (wpG_pure h'))))
theorem G_callWith_builtin {pos : Pos} {id : String} {first : List Value} {args : List (Bool × Sem Value)} {Q : Value → Shared → Prop} (hplain : args.any (·.1) = false)
    (h : wpG M A (evalArgs (.builtin id) true args []) (fun a s₁ => wpG M A (call (.builtin id) (first ++ a.pos) a.kw) Q F0 s₁) F0 s) : wpG M A (callWith pos (.builtin id) first args []) Q F0 s := by
  unfold callWith
  refine wpG_bind (wpG_holding (h.monoQ fun a s₁ h₁ => wpG_bind (wpG_standAt ?_)))
  simp only [hplain, List.any_nil, Bool.or_false]
  refine wpG_bind (wpG_pure ?_)
  exact wpG_bind (h₁.monoQ fun r s₂ hr => wpG_bind (wpG_holding (wpG_point (wpG_pure hr))))
theorem G_callWith_type {pos : Pos} {T : String} {first : List Value} {args : List (Bool × Sem Value)} {Q : Value → Shared → Prop} (hplain : args.any (·.1) = false)
    (h : wpG M A (evalArgs (.type T) true args []) (fun a s₁ => wpG M A (call (.type T) (first ++ a.pos) a.kw) Q F0 s₁) F0 s) : wpG M A (callWith pos (.type T) first args []) Q F0 s := by
  unfold callWith
  refine wpG_bind (wpG_holding (h.monoQ fun a s₁ h₁ => wpG_bind (wpG_standAt ?_)))
  simp only [hplain, List.any_nil, Bool.or_false]
  refine wpG_bind (wpG_pure ?_)
  exact wpG_bind (h₁.monoQ fun r s₂ hr => wpG_bind (wpG_holding (wpG_point (wpG_pure hr))))
theorem G_callWith_K {K : Frag} {f : Value} {pos : Pos} {first : List Value} {args : List (Bool × Sem Value)} {Q : Value → Shared → Prop} (hplain : args.any (·.1) = false) (hk : keepIn K f = true)
    (h : wpG M A (evalArgs f true args []) (fun a s₁ => K.In s₁.heap ∧ wpG M A (call f (first ++ a.pos) a.kw) Q F0 s₁) F0 s) : wpG M A (callWith pos f first args []) Q F0 s := by
  unfold callWith
  refine wpG_bind (wpG_holding (h.monoQ fun a s₁ h₁ => wpG_bind (wpG_standAt ?_)))
  obtain ⟨k, hk', L⟩ := keeps_K (M := M) hk _ h₁.1
  have hpl : (args.any (·.1) || ([] : List (Option Str × Sem Value)).any (·.1.isNone)) = false := by rw [hplain]; rfl
  simp only [hpl]
  refine wpG_then (L.here ?_)
  have tail : ∀ {t : Sem Value}, wpG M A t Q F0 s₁ → wpG M A (t >>= fun r => holding [r] point >>= fun _ => pure r) Q F0 s₁ :=
    fun ht => wpG_bind (ht.monoQ fun r s₂ hr => wpG_bind (wpG_holding (wpG_point (wpG_pure hr))))
  have marked (mk : Value) : wpG M A (callMarked mk f (first ++ a.pos) a.kw) Q F0 s₁ := by unfold callMarked; exact wpG_keep h₁.2
  rcases hk' with rfl | rfl | rfl <;> dsimp only <;> first | exact tail h₁.2 | (split <;> first | exact tail h₁.2 | exact tail (marked _))
theorem G_Call {x : Str} {px : Pos} {args : List Expr} {pos : Pos} {Q : Value → Shared → Prop} (h : wpG M A (eval (.Name x px) env) (fun f s₁ => wpG M A (callWith pos f [] (backTo pos (starEach args env)) []) Q F0 s₁) F0 s) : wpG M A (eval (.Call (.Name x px) args [] pos) env) Q F0 s := by
  have he : eval (.Call (.Name x px) args [] pos) env = (do callWith pos (← eval (.Name x px) env) [] (backTo pos (starEach args env)) (backToKw pos (keywordEach [] env))) := rfl
  rw [he]; exact wpG_bind h
theorem G_mcall {o : Expr} {name : Str} {apos pos : Pos} {args : List Expr} {Q : Value → Shared → Prop} (hb : isBase o = true) (h : mOk args apos pos = true)
    (k : ∀ pl, wpG M A (eval o env) (fun ov s₁ => wpG M A (getMethod ov name pl) (fun fx s₂ => wpG M A (callWith pos fx.1 fx.2 (backTo pos (starEach args env)) []) Q F0 s₂) F0 s₁) F0 s) : wpG M A (eval (.Call (.Attribute o name apos) args [] pos) env) Q F0 s := by
  have ab : attributeBase o name env (eval o env) = eval o env := by cases o <;> first | rfl | cases hb
  have e : eval (.Call (.Attribute o name apos) args [] pos) env = (do
    let ov ← attributeBase o name env (eval o env)
    standAt apos.atName
    methodCall o name apos pos env ov (args.length + ([] : List Keyword).length) (backTo pos (starEach args env)) (backToKw pos (keywordEach [] env))) := rfl
  have hl : (apos.endLine == pos.line) = true := by
    unfold mOk at h
    have := (Bool.and_eq_true_iff.mp h).2
    rw [Nat.eq_of_beq_eq_true this]; simp
  rw [e, ab]
  refine wpG_bind ((k (do return (← importBound o env).getD true)).monoQ fun ov s₁ h₁ => wpG_bind (wpG_standAt ?_))
  unfold methodCall
  rw [mform h]
  unfold calleeOf methodCallPos
  simp only [hl, if_true, Bool.not_true, Bool.or_true]
  exact wpG_bind (wpG_holding (h₁.monoQ fun fx s₂ h₂ => wpG_bind (wpG_pure h₂)))
end
end
section
def RunAtG {α β : Type} (X : Fx) (ow : Addr → Prop) (ρ : List Addr) (s : Shared) (R : (Addr → Prop) → List Addr → Heap → α → β → Prop) (t : Sem α) (K : β → SS → Prop) : Prop :=
  ∀ Q, (∀ a b σ' ow' ρ' h' tk', Ex X ow ρ s.heap ow' ρ' h' → SR X ow' ρ' h' σ' → R ow' ρ' h' a b → K b σ' → Q a { s with heap := h', toks := tk' }) → wpG (model lawP X.w) X.A t Q F0 s
def JEG (X : Fx) (e : Expr) (σ : SS) (K : AV → SS → Prop) : Prop := ∀ ow ρ s, SR X ow ρ s.heap σ → RunAtG X ow ρ s (RV X) (eval e X.env) K
def JTG (X : Fx) (e : Expr) (σ : SS) (K : Bool → SS → Prop) : Prop := ∀ ow ρ s, SR X ow ρ s.heap σ → RunAtG X ow ρ s RB (isTrue e X.env (eval e X.env)) K
def JTLG (X : Fx) (op : BoolOp) (es : List Expr) (σ : SS) (K : Bool → SS → Prop) : Prop := ∀ ow ρ s, SR X ow ρ s.heap σ → RunAtG X ow ρ s RB (allTrue op es X.env) K
def JLG (X : Fx) (pos : Pos) (es : List Expr) (σ : SS) (K : List AV → SS → Prop) : Prop := ∀ ow ρ s, SR X ow ρ s.heap σ → RunAtG X ow ρ s (RVs X) (spliced (backTo pos (starEach es X.env))) K
def JSG (X : Fx) (st : Stmt) (σ : SS) (K : SF → SS → Prop) : Prop := ∀ ow ρ s, SR X ow ρ s.heap σ → RunAtG X ow ρ s (RF X) (exec st X.env) K
def JBG (X : Fx) (st : List Stmt) (σ : SS) (K : SF → SS → Prop) : Prop := ∀ ow ρ s, SR X ow ρ s.heap σ → RunAtG X ow ρ s (RF X) (execs st X.env) K
def JCallG (X : Fx) (f : Value) (as : List AV) (σ : SS) (K : AV → SS → Prop) : Prop :=
  ∀ ow ρ s vs, SR X ow ρ s.heap σ → ARs (Pz s.heap ow) X.w ρ vs as → RunAtG X ow ρ s (RV X) (call f vs) K
section
variable {X : Fx} {σ : SS} {α β : Type} {ow : Addr → Prop} {ρ : List Addr} {s : Shared} {R : (Addr → Prop) → List Addr → Heap → α → β → Prop} {t : Sem α}
theorem RunAtG.of {K : β → SS → Prop} (h : RunAt X ow ρ s R t K) : RunAtG X ow ρ s R t K := fun Q q => .of (h Q F0 q)
theorem RunAtG.mono {K K' : β → SS → Prop} (h : RunAtG X ow ρ s R t K) (k : ∀ b σ, K b σ → K' b σ) : RunAtG X ow ρ s R t K' := fun Q q => h Q fun a b σ' ow' ρ' h' tk' e S r kk => q a b σ' ow' ρ' h' tk' e S r (k _ _ kk)
theorem JEG.of {e : Expr} {K : AV → SS → Prop} (h : JE X e σ K) : JEG X e σ K := fun ow ρ s S => .of (h ow ρ s S)
theorem JTG.of {e : Expr} {K : Bool → SS → Prop} (h : JT X e σ K) : JTG X e σ K := fun ow ρ s S => .of (h ow ρ s S)
theorem JTLG.of {op : BoolOp} {e : List Expr} {K : Bool → SS → Prop} (h : JTL X op e σ K) : JTLG X op e σ K := fun ow ρ s S => .of (h ow ρ s S)
theorem JLG.of {pos : Pos} {e : List Expr} {K : List AV → SS → Prop} (h : JL X pos e σ K) : JLG X pos e σ K := fun ow ρ s S => .of (h ow ρ s S)
theorem JSG.of {e : Stmt} {K : SF → SS → Prop} (h : JS X e σ K) : JSG X e σ K := fun ow ρ s S => .of (h ow ρ s S)
theorem JBG.of {e : List Stmt} {K : SF → SS → Prop} (h : JB X e σ K) : JBG X e σ K := fun ow ρ s S => .of (h ow ρ s S)
theorem JCallG.of {f : Value} {as : List AV} {K : AV → SS → Prop} (h : JCall X f as σ K) : JCallG X f as σ K := fun ow ρ s vs S r => .of (h ow ρ s vs S r)
theorem JEG.mono {e : Expr} {K K' : AV → SS → Prop} (h : JEG X e σ K) (k : ∀ b σ, K b σ → K' b σ) : JEG X e σ K' := fun ow ρ s S => (h ow ρ s S).mono k
theorem JTG.mono {e : Expr} {K K' : Bool → SS → Prop} (h : JTG X e σ K) (k : ∀ b σ, K b σ → K' b σ) : JTG X e σ K' := fun ow ρ s S => (h ow ρ s S).mono k
theorem JLG.mono {pos : Pos} {e : List Expr} {K K' : List AV → SS → Prop} (h : JLG X pos e σ K) (k : ∀ b σ, K b σ → K' b σ) : JLG X pos e σ K' := fun ow ρ s S => (h ow ρ s S).mono k
theorem JSG.mono {e : Stmt} {K K' : SF → SS → Prop} (h : JSG X e σ K) (k : ∀ b σ, K b σ → K' b σ) : JSG X e σ K' := fun ow ρ s S => (h ow ρ s S).mono k
end
section
variable {X : Fx} {σ : SS} {K : AV → SS → Prop}
theorem JEG_BinOp {l r : Expr} {op : Operator} {pos : Pos} (h : JEG X l σ fun a σ₁ => JEG X r σ₁ fun b σ₂ => J2 X (binaryOp op) a b σ₂ K) : JEG X (.BinOp l op r pos) σ K := by
  intro ow ρ s S Q q
  refine G_BinOp (h ow ρ s S _ fun a sa σ₁ ow₁ ρ₁ h₁ tk₁ e₁ S₁ r₁ k₁ => k₁ ow₁ ρ₁ _ S₁ _ fun b sb σ₂ ow₂ ρ₂ h₂ tk₂ e₂ S₂ r₂ k₂ => ?_)
  exact .of (k₂ ow₂ ρ₂ _ a b S₂ (S₁.ar e₂ r₁) r₂ _ _ fun v sv σ₃ ow₃ ρ₃ h₃ tk₃ e₃ S₃ r₃ k₃ => q v sv σ₃ ow₃ ρ₃ h₃ tk₃ ((e₁.trans e₂).trans e₃) S₃ r₃ k₃)
theorem JEG_Compare {l r : Expr} {op : CmpOp} {pos : Pos} (hm : behindInMarks op r = false) (h : JEG X l σ fun a σ₁ => JEG X r σ₁ fun b σ₂ => J2 X (compareOp op) a b σ₂ K) : JEG X (.Compare l [op] [r] pos) σ K := by
  intro ow ρ s S Q q
  refine G_Compare1 hm (h ow ρ s S _ fun a sa σ₁ ow₁ ρ₁ h₁ tk₁ e₁ S₁ r₁ k₁ => k₁ ow₁ ρ₁ _ S₁ _ fun b sb σ₂ ow₂ ρ₂ h₂ tk₂ e₂ S₂ r₂ k₂ => ?_)
  exact .of (k₂ ow₂ ρ₂ _ a b S₂ (S₁.ar e₂ r₁) r₂ _ _ fun v sv σ₃ ow₃ ρ₃ h₃ tk₃ e₃ S₃ r₃ k₃ => q v sv σ₃ ow₃ ρ₃ h₃ tk₃ ((e₁.trans e₂).trans e₃) S₃ r₃ k₃)
theorem JTG_Compare {l r : Expr} {op : CmpOp} {pos : Pos} {K : Bool → SS → Prop} (hm : behindInMarks op r = false) (h : JEG X l σ fun a σ₁ => JEG X r σ₁ fun b σ₂ => J2 X (compareOp op) a b σ₂ fun c σ₃ => JTr X c σ₃ K) : JTG X (.Compare l [op] [r] pos) σ K := by
  intro ow ρ s S Q q
  refine G_isTrue_Compare1 hm (h ow ρ s S _ fun a sa σ₁ ow₁ ρ₁ h₁ tk₁ e₁ S₁ r₁ k₁ => k₁ ow₁ ρ₁ _ S₁ _ fun b sb σ₂ ow₂ ρ₂ h₂ tk₂ e₂ S₂ r₂ k₂ => ?_)
  exact .of (k₂ ow₂ ρ₂ _ a b S₂ (S₁.ar e₂ r₁) r₂ _ _ fun v sv σ₃ ow₃ ρ₃ h₃ tk₃ e₃ S₃ r₃ k₃ => .of (k₃ ow₃ ρ₃ _ v S₃ r₃ _ _ fun c sc σ₄ ow₄ ρ₄ h₄ tk₄ e₄ S₄ r₄ k₄ => q c sc σ₄ ow₄ ρ₄ h₄ tk₄ (((e₁.trans e₂).trans e₃).trans e₄) S₄ r₄ k₄))
theorem JEG_IfExp {t a b : Expr} {pos : Pos} (h : JTG X t σ fun c σ₁ => Br c (JEG X a σ₁ K) (JEG X b σ₁ K)) : JEG X (.IfExp t a b pos) σ K := by
  intro ow ρ s S Q q
  refine G_IfExp (h ow ρ s S _ fun c sc σ₁ ow₁ ρ₁ h₁ tk₁ e₁ S₁ r₁ k₁ => ?_)
  obtain rfl : c = sc := r₁
  cases c with
  | true => exact k₁ ow₁ ρ₁ _ S₁ _ fun v sv σ₃ ow₃ ρ₃ h₃ tk₃ e₃ S₃ r₃ k₃ => q v sv σ₃ ow₃ ρ₃ h₃ tk₃ (e₁.trans e₃) S₃ r₃ k₃
  | false => exact k₁ ow₁ ρ₁ _ S₁ _ fun v sv σ₃ ow₃ ρ₃ h₃ tk₃ e₃ S₃ r₃ k₃ => q v sv σ₃ ow₃ ρ₃ h₃ tk₃ (e₁.trans e₃) S₃ r₃ k₃
theorem JTG_plain {e : Expr} {K : Bool → SS → Prop} (h : JEG X e σ fun a σ₁ => JTr X a σ₁ K)
    (hp : isTrue e X.env (eval e X.env) = (do let v ← eval e X.env; standAt (Expr.pos e); holding [v] (truthy v))) : JTG X e σ K := by
  intro ow ρ s S Q q
  refine G_isTrue_plain (h ow ρ s S _ fun a sa σ₁ ow₁ ρ₁ h₁ tk₁ e₁ S₁ r₁ k₁ => ?_) hp
  exact .of (k₁ ow₁ ρ₁ _ a S₁ r₁ _ _ fun v sv σ₃ ow₃ ρ₃ h₃ tk₃ e₃ S₃ r₃ k₃ => q v sv σ₃ ow₃ ρ₃ h₃ tk₃ (e₁.trans e₃) S₃ r₃ k₃)
theorem JTG_Not {x : Expr} {pos : Pos} {K : Bool → SS → Prop} (h : JTG X x σ fun b σ => K (!b) σ) : JTG X (.UnaryOp .Not x pos) σ K := fun ow ρ s S Q q =>
  G_isTrue_not (h ow ρ s S _ fun a b σ₁ ow₁ ρ₁ h₁ tk₁ e₁ S₁ r₁ k₁ => q _ _ σ₁ ow₁ ρ₁ h₁ tk₁ e₁ S₁ (by show (!a) = !b; rw [show a = b from r₁]) k₁)
theorem JTG_BoolOp {op : BoolOp} {es : List Expr} {pos : Pos} {K : Bool → SS → Prop} (h : JTLG X op es σ K) : JTG X (.BoolOp op es pos) σ K := fun ow ρ s S Q q => G_isTrue_BoolOp (h ow ρ s S Q q)
theorem JTLG_cons {op : BoolOp} {x : Expr} {rest : List Expr} {K : Bool → SS → Prop} (h : JTG X x σ fun b σ₁ => match op with | .And => Br b (JTLG X op rest σ₁ K) (K false σ₁) | .Or => Br b (K true σ₁) (JTLG X op rest σ₁ K)) : JTLG X op (x :: rest) σ K := fun ow ρ s S Q q => by
  cases op
  · refine G_allTrue_And_cons (h ow ρ s S _ fun a b σ₁ ow₁ ρ₁ h₁ tk₁ e₁ S₁ r₁ k₁ => ?_)
    obtain rfl : a = b := r₁
    cases a
    · exact q _ _ σ₁ ow₁ ρ₁ h₁ tk₁ e₁ S₁ rfl k₁
    · exact k₁ ow₁ ρ₁ { s with heap := h₁, toks := tk₁ } S₁ _ fun v sv σ₂ ow₂ ρ₂ h₂ tk₂ e₂ S₂ r₂ k₂ => q v sv σ₂ ow₂ ρ₂ h₂ tk₂ (e₁.trans e₂) S₂ r₂ k₂
  · refine G_allTrue_Or_cons (h ow ρ s S _ fun a b σ₁ ow₁ ρ₁ h₁ tk₁ e₁ S₁ r₁ k₁ => ?_)
    obtain rfl : a = b := r₁
    cases a
    · exact k₁ ow₁ ρ₁ { s with heap := h₁, toks := tk₁ } S₁ _ fun v sv σ₂ ow₂ ρ₂ h₂ tk₂ e₂ S₂ r₂ k₂ => q v sv σ₂ ow₂ ρ₂ h₂ tk₂ (e₁.trans e₂) S₂ r₂ k₂
    · exact q _ _ σ₁ ow₁ ρ₁ h₁ tk₁ e₁ S₁ rfl k₁
theorem JEG_Or2 {a b : Expr} {pos : Pos} (h : JEG X a σ fun v σ₁ => JTr X v σ₁ fun c σ₂ => Br c (v = v ∧ K v σ₂) (JEG X b σ₂ K)) : JEG X (.BoolOp .Or [a, b] pos) σ K := by
  intro ow ρ s S Q q
  refine G_BoolOp_or (h ow ρ s S _ fun va sa σ₁ ow₁ ρ₁ h₁ tk₁ e₁ S₁ r₁ k₁ => ?_)
  refine .of (k₁ ow₁ ρ₁ { s with heap := h₁, toks := tk₁ } va S₁ r₁ _ _ fun c c' σ₂ ow₂ ρ₂ h₂ tk₂ e₂ S₂ r₂ k₂ => ?_)
  obtain rfl : c = c' := r₂
  cases c
  · rw [if_neg (by decide)]
    have one : eval (.BoolOp .Or [b] pos) X.env = eval b X.env := rfl
    rw [one]
    exact k₂ ow₂ ρ₂ { s with heap := h₂, toks := tk₂ } S₂ _ fun v sv σ₃ ow₃ ρ₃ h₃ tk₃ e₃ S₃ r₃ k₃ => q v sv σ₃ ow₃ ρ₃ h₃ tk₃ ((e₁.trans e₂).trans e₃) S₃ r₃ k₃
  · rw [if_pos rfl]
    exact q va sa σ₂ ow₂ ρ₂ h₂ tk₂ (e₁.trans e₂) S₂ (S₁.ar e₂ r₁) k₂.2
theorem JLG_nil {pos : Pos} {K : List AV → SS → Prop} (h : K [] σ) : JLG X pos [] σ K := .of (JL_nil h)
theorem JLG_cons {pos : Pos} {e : Expr} {es : List Expr} {K : List AV → SS → Prop} (hs : starEach (e :: es) X.env = (false, eval e X.env) :: starEach es X.env)
    (h : JEG X e σ fun a σ₁ => JLG X pos es σ₁ fun as σ₂ => K (a :: as) σ₂) : JLG X pos (e :: es) σ K := by
  intro ow ρ s S Q q
  rw [hs]
  refine G_spliced_cons (h ow ρ s S _ fun a sa σ₁ ow₁ ρ₁ h₁ tk₁ e₁ S₁ r₁ k₁ => ?_)
  exact k₁ ow₁ ρ₁ _ S₁ _ fun v sv σ₃ ow₃ ρ₃ h₃ tk₃ e₃ S₃ r₃ k₃ => q (a :: v) (sa :: sv) σ₃ ow₃ ρ₃ h₃ tk₃ (e₁.trans e₃) S₃ (.cons (S₁.ar e₃ r₁) r₃) k₃
theorem JBG_nil {K : SF → SS → Prop} (k : K .next σ) : JBG X [] σ K := .of (JB_nil k)
theorem JBG_cons {st : Stmt} {rest : List Stmt} {K : SF → SS → Prop} (h : JSG X st σ fun f σ₁ => match f with | .next => JBG X rest σ₁ K | f => K f σ₁) : JBG X (st :: rest) σ K := by
  intro ow ρ s S Q q
  refine G_execs_cons (h ow ρ s S _ fun a sa σ₁ ow₁ ρ₁ h₁ tk₁ e₁ S₁ r₁ k₁ => ?_)
  cases r₁ with
  | next => exact k₁ ow₁ ρ₁ _ S₁ _ fun a sa σ₂ ow₂ ρ₂ h₂ tk₂ e₂ S₂ r₂ k₂ => q a sa σ₂ ow₂ ρ₂ h₂ tk₂ (e₁.trans e₂) S₂ r₂ k₂
  | brk => exact q _ _ σ₁ ow₁ ρ₁ h₁ tk₁ e₁ S₁ .brk k₁
  | cont => exact q _ _ σ₁ ow₁ ρ₁ h₁ tk₁ e₁ S₁ .cont k₁
  | ret r => exact q _ _ σ₁ ow₁ ρ₁ h₁ tk₁ e₁ S₁ (.ret r) k₁
theorem JSG_If {t : Expr} {a b : List Stmt} {pos : Pos} {K : SF → SS → Prop} (h : JTG X t σ fun c σ₁ => Br c (JBG X a σ₁ K) (JBG X b σ₁ K)) : JSG X (.If t a b pos) σ K := by
  intro ow ρ s S Q q
  refine G_If (h ow ρ s S _ fun c sc σ₁ ow₁ ρ₁ h₁ tk₁ e₁ S₁ r₁ k₁ => ?_)
  obtain rfl : c = sc := r₁
  cases c with
  | true => exact k₁ ow₁ ρ₁ _ S₁ _ fun a sa σ₂ ow₂ ρ₂ h₂ tk₂ e₂ S₂ r₂ k₂ => q a sa σ₂ ow₂ ρ₂ h₂ tk₂ (e₁.trans e₂) S₂ r₂ k₂
  | false => exact k₁ ow₁ ρ₁ _ S₁ _ fun a sa σ₂ ow₂ ρ₂ h₂ tk₂ e₂ S₂ r₂ k₂ => q a sa σ₂ ow₂ ρ₂ h₂ tk₂ (e₁.trans e₂) S₂ r₂ k₂
theorem JSG_Return {e : Expr} {pos : Pos} {K : SF → SS → Prop} (h : JEG X e σ fun v σ₁ => K (.ret v) σ₁) : JSG X (.Return (some e) pos) σ K := by
  intro ow ρ s S Q q
  exact G_Return (h ow ρ s S _ fun a sa σ₁ ow₁ ρ₁ h₁ tk₁ e₁ S₁ r₁ k₁ => q _ _ σ₁ ow₁ ρ₁ h₁ tk₁ e₁ S₁ (.ret r₁) k₁)
theorem JSG_AssignName {x : Str} {px pos : Pos} {value : Expr} {K : SF → SS → Prop} (hs : swapsWith value (some (.Name x px)) pos.line X.env = pure false) (h : JEG X value σ fun v σ₁ => JStore X x v σ₁ fun σ₂ => K .next σ₂) : JSG X (.Assign [.Name x px] value pos) σ K := by
  intro ow ρ s S Q q
  refine G_Assign_Name (h ow ρ s S _ fun a sa σ₁ ow₁ ρ₁ h₁ tk₁ e₁ S₁ r₁ k₁ => ?_) hs
  exact .of (k₁ ow₁ ρ₁ { s with heap := h₁, toks := tk₁ } a S₁ r₁ _ _ fun _ _ σ₂ ow₂ ρ₂ h₂ tk₂ e₂ S₂ _ k₂ => q .next .next σ₂ ow₂ ρ₂ h₂ tk₂ (e₁.trans e₂) S₂ .next k₂)
theorem runG_callWith {f : Value} {first : List Value} {fas : List AV} {e : Expr} {args : List Expr} {pos : Pos} {ow : Addr → Prop} {ρ : List Addr} {s : Shared} (hs : noStar (e :: args) = true) (hk : keepIn (tp.heap_1 X.w.params) f = true) (S : SR X ow ρ s.heap σ) (rf : ARs (Pz s.heap ow) X.w ρ first fas)
    (h : JLG X pos (e :: args) σ fun as σ₁ => JCallG X f (fas ++ as) σ₁ K) : RunAtG X ow ρ s (RV X) (callWith pos f first (backTo pos (starEach (e :: args) X.env)) []) K := by
  intro Q q
  refine G_callWith_K (noStar_plain hs) hk ?_
  have sp : backTo pos (starEach (e :: args) X.env) = (false, eval e X.env) :: backTo pos (starEach args X.env) := by rw [starEach_cons hs]; rfl
  rw [sp]
  refine G_evalArgs ?_
  rw [← sp]
  refine h ow ρ s S _ fun vs as σ₁ ow₁ ρ₁ h₁ tk₁ e₁ S₁ r₁ k₁ => ⟨S₁.kin, ?_⟩
  exact k₁ ow₁ ρ₁ { s with heap := h₁, toks := tk₁ } _ S₁ (ARs.append r₁ (S.ars e₁ rf)) _ fun v sv σ₂ ow₂ ρ₂ h₂ tk₂ e₂ S₂ r₂ k₂ => q v sv σ₂ ow₂ ρ₂ h₂ tk₂ (e₁.trans e₂) S₂ r₂ k₂
theorem runG_callBi {id : String} {first : List Value} {fas : List AV} {e : Expr} {args : List Expr} {pos : Pos} {ow : Addr → Prop} {ρ : List Addr} {s : Shared} (hs : noStar (e :: args) = true) (S : SR X ow ρ s.heap σ) (rf : ARs (Pz s.heap ow) X.w ρ first fas)
    (h : JLG X pos (e :: args) σ fun as σ₁ => JCallG X (.builtin id) (fas ++ as) σ₁ K) : RunAtG X ow ρ s (RV X) (callWith pos (.builtin id) first (backTo pos (starEach (e :: args) X.env)) []) K := by
  intro Q q
  refine G_callWith_builtin (noStar_plain hs) ?_
  have sp : backTo pos (starEach (e :: args) X.env) = (false, eval e X.env) :: backTo pos (starEach args X.env) := by rw [starEach_cons hs]; rfl
  rw [sp]
  refine G_evalArgs ?_
  rw [← sp]
  refine h ow ρ s S _ fun vs as σ₁ ow₁ ρ₁ h₁ tk₁ e₁ S₁ r₁ k₁ => ?_
  exact k₁ ow₁ ρ₁ { s with heap := h₁, toks := tk₁ } _ S₁ (ARs.append r₁ (S.ars e₁ rf)) _ fun v sv σ₂ ow₂ ρ₂ h₂ tk₂ e₂ S₂ r₂ k₂ => q v sv σ₂ ow₂ ρ₂ h₂ tk₂ (e₁.trans e₂) S₂ r₂ k₂
theorem runG_callTy {id : String} {e : Expr} {args : List Expr} {pos : Pos} {ow : Addr → Prop} {ρ : List Addr} {s : Shared} (hs : noStar (e :: args) = true) (S : SR X ow ρ s.heap σ)
    (h : JLG X pos (e :: args) σ fun as σ₁ => JCallG X (.type id) as σ₁ K) : RunAtG X ow ρ s (RV X) (callWith pos (.type id) [] (backTo pos (starEach (e :: args) X.env)) []) K := by
  intro Q q
  refine G_callWith_type (noStar_plain hs) ?_
  have sp : backTo pos (starEach (e :: args) X.env) = (false, eval e X.env) :: backTo pos (starEach args X.env) := by rw [starEach_cons hs]; rfl
  rw [sp]
  refine G_evalArgs ?_
  rw [← sp]
  refine h ow ρ s S _ fun vs as σ₁ ow₁ ρ₁ h₁ tk₁ e₁ S₁ r₁ k₁ => ?_
  exact k₁ ow₁ ρ₁ { s with heap := h₁, toks := tk₁ } _ S₁ r₁ _ fun v sv σ₂ ow₂ ρ₂ h₂ tk₂ e₂ S₂ r₂ k₂ => q v sv σ₂ ow₂ ρ₂ h₂ tk₂ (e₁.trans e₂) S₂ r₂ k₂
def CallKG (X : Fx) (pos : Pos) (args : List Expr) (fv : AV) (σ : SS) (K : AV → SS → Prop) : Prop := match fv with
  | .v (.ref f) => keepIn (tp.heap_1 X.w.params) (.ref f) = true ∧ JLG X pos args σ fun as σ₂ => JCallG X (.ref f) as σ₂ K
  | .v (.bi id) => JLG X pos args σ fun as σ₂ => JCallG X (.builtin id.id) as σ₂ K
  | .v (.ty n) => JLG X pos args σ fun as σ₂ => JCallG X (.type n.id) as σ₂ K
  | _ => False
theorem JEG_Call {x : Str} {px pos : Pos} {e : Expr} {args : List Expr} (hs : noStar (e :: args) = true) (h : JE X (.Name x px) σ fun fv σ₁ => CallKG X pos (e :: args) fv σ₁ K) : JEG X (.Call (.Name x px) (e :: args) [] pos) σ K := by
  intro ow ρ s S Q q
  refine G_Call (.of (h ow ρ s S _ _ fun a sa σ₁ ow₁ ρ₁ h₁ tk₁ e₁ S₁ r₁ k₁ => ?_))
  cases r₁ with
  | c => exact k₁.elim
  | v r => cases r with
    | ref f =>
      have k₁ : keepIn (tp.heap_1 X.w.params) (.ref f) = true ∧ JLG X pos (e :: args) σ₁ fun as σ₂ => JCallG X (.ref f) as σ₂ K := k₁
      exact runG_callWith (s := { s with heap := h₁, toks := tk₁ }) hs k₁.1 S₁ .nil k₁.2 _ fun v sv σ₂ ow₂ ρ₂ h₂ tk₂ e₂ S₂ r₂ k₂ => q v sv σ₂ ow₂ ρ₂ h₂ tk₂ (e₁.trans e₂) S₂ r₂ k₂
    | bi id =>
      have k₁ : JLG X pos (e :: args) σ₁ fun as σ₂ => JCallG X (.builtin id.id) as σ₂ K := k₁
      exact runG_callBi (s := { s with heap := h₁, toks := tk₁ }) hs S₁ .nil k₁ _ fun v sv σ₂ ow₂ ρ₂ h₂ tk₂ e₂ S₂ r₂ k₂ => q v sv σ₂ ow₂ ρ₂ h₂ tk₂ (e₁.trans e₂) S₂ r₂ k₂
    | ty id =>
      have k₁ : JLG X pos (e :: args) σ₁ fun as σ₂ => JCallG X (.type id.id) as σ₂ K := k₁
      exact runG_callTy (s := { s with heap := h₁, toks := tk₁ }) hs S₁ k₁ _ fun v sv σ₂ ow₂ ρ₂ h₂ tk₂ e₂ S₂ r₂ k₂ => q v sv σ₂ ow₂ ρ₂ h₂ tk₂ (e₁.trans e₂) S₂ r₂ k₂
    | _ => exact k₁.elim
theorem JEG_MethB {o : Expr} {name : Str} {apos pos : Pos} {e : Expr} {args : List Expr} (hb : isBase o = true) (ho : mOk (e :: args) apos pos = true) (h : JE X o σ fun a σ₁ => ∃ id, JGm X name a σ₁ id ∧ JLG X pos (e :: args) σ₁ fun as σ₂ => JCallG X (.builtin id) (a :: as) σ₂ K) : JEG X (.Call (.Attribute o name apos) (e :: args) [] pos) σ K := by
  have hs : noStar (e :: args) = true := by unfold mOk at ho; exact (Bool.and_eq_true_iff.mp (Bool.and_eq_true_iff.mp ho).1).1
  intro ow ρ s S Q q
  refine G_mcall hb ho fun pl => .of (h ow ρ s S _ _ fun va a σ₁ ow₁ ρ₁ h₁ tk₁ e₁ S₁ r₁ k₁ => ?_)
  obtain ⟨id, gm, k⟩ := k₁
  refine .of (gm ow₁ ρ₁ { s with heap := h₁, toks := tk₁ } va pl S₁ r₁ _ _ ?_)
  exact runG_callBi (s := { s with heap := h₁, toks := tk₁ }) hs S₁ (.cons r₁ .nil) k _ fun v sv σ₂ ow₂ ρ₂ h₂ tk₂ e₂ S₂ r₂ k₂ => q v sv σ₂ ow₂ ρ₂ h₂ tk₂ (e₁.trans e₂) S₂ r₂ k₂
end
end
section
section
variable {prog : Program} {w : World} {M : Model} {A : Around} {s : Shared} {env : Env} {R : Result → Shared → Prop}
def compPostG (Q : Value → Shared → Prop) (acc : Value) (C : Addr) (r : Result) (s' : Shared) : Prop := match r with
  | .ok _ => ∃ m, s'.heap.Ns C m ∧ ∀ h', Heap.SameBut C s'.heap h' → Q acc { s' with heap := h' }
  | .error _ => False
theorem wpG_attempt {α : Type} {m : Sem α} {E : Value → Shared → Prop} {Q : Except Value α → Shared → Prop} (h : wpG M A m (fun a => Q (.ok a)) (fun e => Q (.error e)) s) : wpG M A m.attempt Q E s := fun Γ p a b c => by rw [Sem.wp_attempt]; exact h Γ p a b c
theorem G_comprehension {e : Expr} {scope : Scope} {pos : Pos} {newAcc first : Sem Value} {g : Comprehension} {gs : List Comprehension} {cl : List (Str × Addr)} {Q : Value → Shared → Prop}
    (hcl : clausesOf e = g :: gs) (hs : ∀ x, foldedSetIterable g.iter env x = pure x) (hclos : closureFor scope env = pure cl)
    (hkind : scope.kind = .function) (hnames : ∀ x ∈ scope.names, x.2 = .local → scope.names.lookup x.1 = some .local)
    (h : wpAny M A first (fun x s₁ => wpAny M A (pyIter x) (fun it s₂ => wpAny M A newAcc (fun acc s₃ =>
      wpAny M A (newFunctionEnv scope env.globals cl [] env.qual none .none (some env)) (fun cenv s₄ =>
        codeG M A (.compStart e 0 it acc { cenv with scope := relabel scope env }) (compPostG Q acc cenv.locals) s₄) F0 s₃) F0 s₂) F0 s₁) F0 s) :
    wpG M A (comprehension e scope env pos newAcc false first none) Q F0 s := by
  unfold comprehension
  rw [hclos, hcl]
  refine wpG_then (wpAny_mono h (fun x s₁ h₁ => wpG_bind (wpG_standAt (wpG_bind (wpG_of_eq (hs x) (wpG_bind (wpG_holding (wpG.of (wpAny_mono h₁ (fun it s₂ h₂ => ?_) fun _ _ h' => h')))))))) fun _ _ h' => h')
  refine wpG_then (wpAny_mono h₂ (fun acc s₃ h₃ => wpG_bind (wpG_pure (wpG_then (wpAny_mono h₃ (fun cenv s₄ h₄ => ?_) fun _ _ h' => h')))) fun _ _ h' => h')
  dsimp only
  have hv : ∀ x ∈ (scope.names.filter fun x => (x.2 == .local || x.2 == .cell) && x.1 != (".0" : Str)).reverse, x.2 = .local →
      Env.kindOf { cenv with scope := relabel scope env } x.1 = some .local := fun x hx hl => lookup_relabel_local (hnames x (List.mem_filter.mp (List.mem_reverse.mp hx)).1 hl)
  refine wpG_holding (wpG_bind (wpG_attempt (wpG_holding (wpG_run (codeG_mono h₄ fun r s' hr => ?_)))))
  cases r with
  | ok f =>
    obtain ⟨m, hn, hr⟩ := hr
    exact wpG_then (wpAny_holding (wpAny_comp_letGo (cenv := { cenv with scope := relabel scope env }) hkind _ s' m hv hn fun h' m' _ hs' => wpG_pure (hr h' hs')))
  | error x => exact hr.elim
theorem codeG_compStart {elt target iter : Expr} {ifs : List Expr} {rest : List Comprehension} {scope : Scope} {pos : Pos} {it acc : Value}
    (h0 : codeG (model prog w) A (.compLoop (.ListComp elt (⟨target, iter, ifs, 0⟩ :: rest) scope pos) 0 it acc env) R s)
    (h : wpAny (model prog w) A (pyIter it) (fun it' s' => codeG (model prog w) A (.compLoop (.ListComp elt (⟨target, iter, ifs, 0⟩ :: rest) scope pos) 0 it' acc env) R s') F0 s) :
    codeG (model prog w) A (.compStart (.ListComp elt (⟨target, iter, ifs, 0⟩ :: rest) scope pos) 0 it acc env) R s := by
  refine codeG_of_tree rfl ?_
  show wpG _ _ ((compStart (.ListComp elt (⟨target, iter, ifs, 0⟩ :: rest) scope pos) 0 it acc env).onRaise (fun x => do noteFrame x env; standAt theWindowsPlace)) _ _ s
  refine wpG_onRaise0 ?_
  unfold compStart
  show wpG _ _ (ask >>= _) _ _ s
  refine wpG_then (wpAny_askSetting ?_)
  refine wpG_if ?_
  split
  · first
      | exact wpG_bind (wpG_pure (wpG_pure (And.intro rfl h0)))
      | exact wpG_pure (And.intro rfl h0)
  · first
      | exact wpG_bind (wpG_rule (wpG_bind (wpG_standAt (wpG_then (wpAny_mono h (fun it' s' h' => wpG_pure (And.intro rfl h')) fun _ _ x => x)))))
      | (refine wpG_bind (wpG_rule ?_); show wpG _ _ (standAt iter.pos >>= _) _ _ s; exact wpG_bind (wpG_standAt (wpG_then (wpAny_mono h (fun it' s' h' => wpG_pure (And.intro rfl h')) fun _ _ x => x))))
theorem codeG_compLoop {elt target iter : Expr} {scope : Scope} {pos : Pos} {it acc : Value} (I : Nat → Shared → Prop)
    (turn : ∀ n s, I n s → wpAny (model prog w) A (pyNext it) (fun r s₁ => match r with
      | none => R (.ok .next) s₁
      | some v => wpAny (model prog w) A (assign target env v) (fun _ s₃ => wpG (model prog w) A (eval elt env) (fun x s₄ =>
              wpAny (model prog w) A (call (.builtin "list.append") [acc, x]) (fun _ s₅ => ∃ m, m < n ∧ I m s₅) F0 s₄) F0 s₃) F0 s₁) F0 s)
    (n : Nat) (h : I n s) (ht : ∀ v, letOwnedTupleGo target it v = pure () := by intro _; rfl) :
    codeG (model prog w) A (.compLoop (.ListComp elt [⟨target, iter, [], 0⟩] scope pos) 0 it acc env) R s := by
  refine codeG_loop rfl rfl I (fun n s hI => ?_) n h
  show wpG _ A ((compTurn (.ListComp elt [⟨target, iter, [], 0⟩] scope pos) 0 it acc env).onRaise (fun x => do noteFrame x env; theTreesLotGoes x)) _ _ s
  refine wpG_onRaise0 ?_
  rw [compTurn_list]
  refine wpG_bind (wpG_standAt (wpG_then (wpAny_mono (turn n s hI) (fun r s₁ h₁ => ?_) fun _ _ h' => h')))
  cases r with
  | none => exact wpG_pure h₁
  | some v =>
    refine wpG_bind (wpG_of_eq (ht v) ?_)
    refine wpG_then (wpAny_mono h₁ (fun _ s₂ h₂ => ?_) fun _ _ h' => h')
    refine wpG_bind (wpG_pure ?_)
    exact wpG_bind (wpG_bind (h₂.monoQ fun x s₄ h₄ => wpG_then (wpAny_mono h₄ (fun _ s₅ h₅ => wpG_pure (wpG_pure ⟨rfl, h₅⟩)) fun _ _ h' => h')))
end
def JCmpG (X : Fx) (x : Str) (elt : Expr) : List SV → List SV → List SObj → (List SV → List SObj → Prop) → Prop
  | [], acc, cel, K => K acc cel
  | d :: ds, acc, cel, K => JEG X elt ⟨[(x, .v d)], cel⟩ fun v σ₂ => asV v fun sv => JCmpG X x elt ds (acc ++ [sv]) σ₂.cel K
section
variable {X : Fx} {σ : SS}
theorem run_compG (O : X.Ok) (hcomp : X.comp = none) {elt iter : Expr} {x : Str} {px : Pos} {scope : Scope} {pos : Pos} {ow₁ : Addr → Prop} {ρ₁ : List Addr} {s : Shared} {va : Value} {its : List SV} {oI : Obj} {fp : List Addr} {P : Nat → Value → Prop} {St : Nat → Heap → Prop} {K : List SV → List SObj → Prop} {RR : Value → Addr → Result → Shared → Prop}
    (hcell : ∀ y ∈ scope.names, y.2 ≠ .cell) (hkind : scope.kind = .function) (hx : scope.names.lookup x = some .local) (hfr : freesOk scope.names X.vid = true)
    (S₁ : SR X ow₁ ρ₁ s.heap σ) (hof : oI.isFreed = false) (it : Iter X ow₁ s.heap va its s.heap.objs.size fp P St) (st0 : St 0 (s.heap.push oI)) (hz : its.length ≤ 16384)
    (jc : ∀ X', IsComp X X' scope → JCmpG X' x elt its [] σ.cel K)
    (hRR : ∀ D C h' tk, CompOut X σ ow₁ ρ₁ s.heap K D C h' → RR (.ref D) C (.ok .next) { s with heap := h', toks := tk }) :
    wpAny (model lawP X.w) X.A (newList []) (fun acc s₃ => wpAny (model lawP X.w) X.A (newFunctionEnv scope X.env.globals (clAcc X.env scope.names []) [] X.env.qual none .none (some X.env)) (fun cenv s₄ =>
      codeG (model lawP X.w) X.A (.compStart (.ListComp elt [⟨.Name x px, iter, [], 0⟩] scope pos) 0 (.ref s.heap.objs.size) acc { cenv with scope := relabel scope X.env }) (RR acc cenv.locals) s₄) F0 s₃) F0 { s with heap := s.heap.push oI } := by
  refine wpAny_newObj_type (wpAny_newFunctionEnv hcell (by intro y hy; simp at hy) (fun h₄ hns hsb => ?_) hkind)
  dsimp only at hns hsb ⊢
  generalize hI : s.heap.objs.size = I at *
  have hL : X.env.locals = X.L := O.here hcomp
  obtain ⟨S₂, e₂⟩ := S₁.hide oI hof
  rw [hI] at S₂ e₂
  obtain ⟨S₃, e₃⟩ := S₂.hide (listOf ([] : List Value).toArray 0) rfl
  have e₃' := e₂.trans e₃
  generalize hD : (s.heap.push oI).objs.size = D at *
  have hH3 : (s.heap.push oI).push { cls := .type "list", dict := none, data := .seq ([] : List Value).toArray } = (s.heap.push oI).push (listOf ([] : List Value).toArray 0) := rfl
  rw [hH3] at hns hsb ⊢
  generalize hh3 : (s.heap.push oI).push (listOf ([] : List Value).toArray 0) = H3 at *
  obtain ⟨S₄, e₄⟩ := S₃.hide { cls := .type "dict", data := .dict #[] } rfl
  have e₄' := e₃'.trans e₄
  generalize hC : H3.objs.size = C at *
  have szD : D = I + 1 := by rw [← hD, Heap.size_push, hI]
  have szC : C = D + 1 := by rw [← hC, ← hh3, Heap.size_push, hD]
  have new : ∀ a, I ≤ a → s.heap.get? a = none := fun a ha => Heap.get?_none_of_le (by rw [hI]; exact ha)
  have nI := new I (Nat.le_refl _)
  have nD := new D (by omega)
  have nC := new C (by omega)
  have fr : ∀ a, s.heap.get? a = none → ¬ ow₁ a ∧ a ≠ X.L ∧ a ≠ X.env.locals ∧ X.h₀.get? a = none ∧ a ∉ ρ₁ := fun a na => by
    have no : ¬ ow₁ a := fun z => let ⟨_, e⟩ := S₁.low _ z; no_get e na
    refine ⟨no, fun z => no (z ▸ S₁.owL), fun z => no (z ▸ S₁.owl), ?_, fun m => no (S₁.off _ m).1⟩
    obtain ⟨mf, _, F, _⟩ := S₁.fr
    cases z : X.h₀.get? a with
    | none => rfl
    | some o => exact no_get (F.keep _ _ z) na
  have nsC := hns
  obtain ⟨oC, _, _, gC, _⟩ := nsC
  obtain ⟨S₅, e₅⟩ := S₄.hid e₄' (h' := h₄) (wr := [C]) (fun b o nb e => (hsb.2 b (fun z => nb (by rw [z]; exact .head _))).trans e) (fun a m => by
    rw [List.mem_singleton.mp m]; exact ⟨.inr rfl, nC, (fr C nC).2.2.2.2, (fr C nC).2.1, (fr C nC).2.2.1, (fr C nC).2.2.2.1⟩) (fun _ z => z) (fun _ z => .inl z) (fun b _ m => by rw [List.mem_singleton.mp m]; exact ⟨oC, gC⟩)
  obtain ⟨mf, ml, F₅, n₅, c1, c2, l₅⟩ := S₅.fr
  obtain rfl := c1 hcomp
  generalize hX : ({ X with env := compEnvC scope (clAcc X.env scope.names []) C X.env, comp := some ml, vid := vidC scope.names X.vid } : Fx) = X'
  have ic : IsComp X X' scope := by
    subst hX
    refine { ok := { below := O.below, K := O.K, T := O.T, ck := O.ck, kind := hkind, glob := O.glob, bins := O.bins, here := fun e => (by cases e), there := fun m e => ⟨(fr C nC).2.1, (fr C nC).2.2.2.1⟩, room := O.room, units := O.units }, w := rfl, D := rfl, U := rfl, names := ?_, vid := rfl }
    show (relabel scope X.env).names = _
    unfold relabel relN
    refine List.map_congr_left fun p hp => ?_
    obtain ⟨n, k⟩ := p
    dsimp only
    have hk : X.env.kindOf n = X.env.scope.names.lookup n := rfl
    rw [hk, O.kind]
    cases k <;> cases q : X.env.scope.names.lookup n <;> first | rfl | (rename_i v; cases v <;> rfl)
  have jc := jc X' ic
  have hA : X'.A = X.A ∧ X'.w = X.w ∧ X'.L = X.L ∧ X'.h₀ = X.h₀ ∧ X'.env = compEnvC scope (clAcc X.env scope.names []) C X.env ∧ X'.comp = some ml ∧ X'.vid = vidC scope.names X.vid := by subst hX; exact ⟨rfl, rfl, rfl, rfl, rfl, rfl, rfl⟩
  obtain ⟨hA, hw, hXL, hXh, hXe, hXc, hXv⟩ := hA
  have hloc : X'.env.locals = C := by rw [hXe]; rfl
  have S' : SR X' (fun b => ((ow₁ b ∨ b = I) ∨ b = D) ∨ b = C) ρ₁ h₄ ⟨[], σ.cel⟩ := by
    refine ⟨⟨ml, _, by rw [hXh, hXL]; exact F₅, by rw [hloc]; exact hns, fun e => (by rw [hXc] at e; cases e), fun m e => (by rw [hXc] at e; cases e; rfl), fun x sv e => (by cases e)⟩, S₅.len, fun i a o e1 e2 => by rw [hw]; exact S₅.cel i a o e1 e2, S₅.nd, fun a ha => ⟨(S₅.off a ha).1, by rw [hXh]; exact (S₅.off a ha).2.1, by rw [hXL]; exact (S₅.off a ha).2.2.1, fun z => by
      rw [hloc] at z; subst z; exact (fr _ nC).2.2.2.2 ha⟩, by rw [hXL]; exact S₅.owL, .inr hloc, S₅.low, fun y i e => ?_, fun a o e => by rw [hw] at e; exact S₅.kf a o e⟩
    rw [hXv] at e
    obtain ⟨m, e⟩ := vidC_get e
    obtain ⟨c, e1, e2⟩ := S₅.var y i e
    exact ⟨c, by rw [hXe]; exact clAcc_lookup e1 scope.names [] (.inl m) (fun a ha => by cases ha), e2⟩
  have conv : ∀ {ow ρ h}, Ex X' ow₁ ρ₁ s.heap ow ρ h → Ex X ow₁ ρ₁ s.heap ow ρ h := fun {ow ρ h} e => ⟨e.own, e.new, e.pre, e.fresh, fun b o e1 n1 n2 n3 => e.keep b o e1 n1 (fun z => by rw [hloc] at z; subst z; exact no_get e1 nC) (by rw [hXL]; exact n3), e.live⟩
  have e' : Ex X' ow₁ ρ₁ s.heap (fun b => ((ow₁ b ∨ b = I) ∨ b = D) ∨ b = C) ρ₁ h₄ := ⟨e₅.own, e₅.new, e₅.pre, e₅.fresh, fun b o e1 n1 n2 n3 => e₅.keep b o e1 n1 (by rw [hL, ← hXL]; exact n3) (by rw [← hXL]; exact n3), e₅.live⟩
  have fr' : ∀ a, s.heap.get? a = none → a ≠ C → ¬ ow₁ a ∧ a ≠ X'.L ∧ a ≠ X'.env.locals ∧ X'.h₀.get? a = none ∧ a ∉ ρ₁ := fun a na nc => ⟨(fr a na).1, by rw [hXL]; exact (fr a na).2.1, by rw [hloc]; exact nc, by rw [hXh]; exact (fr a na).2.2.2.1, (fr a na).2.2.2.2⟩
  have IC : I ≠ C := by omega
  have DC : D ≠ C := by omega
  have ID : I ≠ D := by omega
  have old4 : ∀ b o, H3.get? b = some o → h₄.get? b = some o := fun b o e => (hsb.2 b (fun z => by rw [z, ← hC] at e; exact no_get e (none_size H3))).trans (Heap.get?_push_of_some _ e)
  have gD0 : h₄.get? D = some (listOf ([] : List Value).toArray 0) := old4 _ _ (by rw [← hh3, ← hD]; exact Heap.get?_push_size _ rfl)
  have st4 : St 0 h₄ := it.W.frame _ _ _ st0 fun b _ o e => old4 b o (by rw [← hh3]; exact Heap.get?_push_of_some _ e)
  let Inv : Nat → Shared → Prop := fun n s' => ∃ i ow' ρ' acc cel vs k h' tk', n = its.length - i ∧ i ≤ its.length ∧ acc.length ≤ i ∧ s' = { s with heap := h', toks := tk' } ∧ SR X' ow' ρ' h' ⟨[], cel⟩ ∧ Ex X' ow₁ ρ₁ s.heap ow' ρ' h' ∧ St i h' ∧ (ow' I ∧ ow' D) ∧ (I ∉ ρ' ∧ D ∉ ρ') ∧ h'.get? D = some (listOf (vs : List Value).toArray k) ∧ VRs (Pz h' ow') X'.w vs acc ∧ JCmpG X' x elt (its.drop i) acc cel K
  have loop : ∀ tk, codeG (model lawP X'.w) X'.A (.compLoop (.ListComp elt [⟨.Name x px, iter, [], 0⟩] scope pos) 0 (.ref I) (.ref D) X'.env) (RR (.ref D) C) { s with heap := h₄, toks := tk } := by
    intro tk
    refine codeG_compLoop Inv (fun n s' hI' => ?_) its.length ⟨0, _, ρ₁, [], σ.cel, [], 0, h₄, tk, rfl, Nat.zero_le _, Nat.le_refl _, rfl, S', e', st4, ⟨.inl (.inl (.inr rfl)), .inl (.inr rfl)⟩, ⟨(fr I nI).2.2.2.2, (fr D nD).2.2.2.2⟩, gD0, .nil, jc⟩
    obtain ⟨i, ow', ρ', acc, cel, vs, k, h', tk', hn, hle, hal, rfl, S6, e6, st, ⟨oI', oD⟩, ⟨mI, mD⟩, gD, rvs, jc⟩ := hI'
    have hwI : ∀ a ∈ [I], ow' a ∧ s.heap.get? a = none ∧ a ∉ ρ' ∧ a ≠ X'.L ∧ a ≠ X'.env.locals ∧ X'.h₀.get? a = none := fun a m => by
      rw [List.mem_singleton.mp m]; have := fr' I nI IC; exact ⟨oI', nI, mI, this.2.1, this.2.2.1, this.2.2.2.1⟩
    by_cases hlt : i < its.length
    · have itW := it.W
      rw [← hA, ← hw] at itW
      refine itW.item i _ _ _ hlt st fun v h'' tk'' hP st' kp => ?_
      obtain ⟨d, hd, rv⟩ := it.val i v hP
      obtain ⟨S7, e7⟩ := S6.hid e6 (h' := h'') kp hwI (fun _ z => z) (fun _ z => .inl z) (fun b _ m => by rw [List.mem_singleton.mp m]; exact let ⟨o, e, _⟩ := it.alive _ _ st'; ⟨o, e⟩)
      have gD7 : h''.get? D = some (listOf vs.toArray k) := kp D _ (fun m => ID (List.mem_singleton.mp m).symm) gD
      have rvs7 : VRs (Pz h'' ow') X'.w vs acc := rvs.mono fun b o p => ⟨kp b o (fun m => p.2 (by rw [List.mem_singleton.mp m]; exact oI')) p.1, p.2⟩
      have dr : its.drop i = d :: its.drop (i + 1) := by rw [List.drop_eq_getElem_cons hlt, (List.getElem?_eq_some_iff.mp hd).2]
      rw [dr] at jc
      have rv' : AR (Pz h'' ow') X'.w ρ' v (.v d) := .v (by rw [hw]; exact S₁.vr (conv e7) rv)
      have keepSt : ∀ {ow₃ ρ₃ h₃}, Ex X' ow' ρ' h'' ow₃ ρ₃ h₃ → St (i + 1) h₃ ∧ (ow₃ I ∧ ow₃ D) ∧ (I ∉ ρ₃ ∧ D ∉ ρ₃) ∧ h₃.get? D = some (listOf vs.toArray k) := fun {ow₃ ρ₃ h₃} ex => by
        have fI := fr' I nI IC
        have fD := fr' D nD DC
        refine ⟨it.W.frame _ _ _ st' fun b hb o e => ?_, ⟨ex.own _ oI', ex.own _ oD⟩, ⟨fun m => (ex.fresh _ m).elim mI fun z => ?_, fun m => (ex.fresh _ m).elim mD fun z => no_get gD7 z⟩, ex.keep _ _ gD7 mD fD.2.2.1 fD.2.1⟩
        · rcases it.notOw hb with rfl | nb
          · exact ex.keep _ o e mI fI.2.2.1 fI.2.1
          · by_cases bI : b = I
            · subst bI; exact ex.keep _ o e mI fI.2.2.1 fI.2.1
            obtain ⟨o', p⟩ := (it.fp b hb).resolve_left bI
            refine ex.keep b o e (fun m => ?_) (fun z => by rw [hloc] at z; subst z; exact no_get p.1 nC) (fun z => by rw [hXL] at z; exact nb (z ▸ S₁.owL))
            have ob := (S7.off b m).1
            exact (e7.new b ob).elim nb fun z => no_get p.1 z
        · obtain ⟨o, e, _⟩ := it.alive _ _ st'; exact no_get e z
      have hx' : X'.env.kindOf x = some .local := by rw [hXe]; exact lookup_relabel_local hx
      refine JA_Name (JStore_loc ic.ok hx' (K := fun σ' => σ' = ⟨[(x, .v d)], cel⟩) rfl) ow' ρ' { s with heap := h'', toks := tk'' } v S7 rv' _ _ fun _ _ σ₃ ow₃ ρ₃ h₃ tk₃ e₃ S₃ _ k₃ => ?_
      subst k₃
      refine jc ow₃ ρ₃ { s with heap := h₃, toks := tk₃ } S₃ _ fun y sy σ₅ ow₅ ρ₅ h₅ tk₅ e₅ S₅ r₅ k₅ => ?_
      have e35 := e₃.trans e₅
      obtain ⟨a1, ⟨a2, a2'⟩, ⟨a3, a3'⟩, a4⟩ := keepSt e35
      obtain ⟨sv, rfl, k₅⟩ := asV_out k₅
      have ry := r₅.inv
      have hvl : vs.toArray.size ≤ sizeLine := by rw [List.size_toArray, rvs.length]; exact Nat.le_trans (Nat.le_trans hal (Nat.le_trans hle hz)) (by decide)
      refine call_meets PySem.F.slot_list_append ⟨_, a4, rfl⟩ PySem.F.entry_list_append (PySem.F.args_list_append_2 _ _) (list_append D vs.toArray k y hvl) ⟨a4, ?_⟩
      obtain ⟨m, em⟩ := lst_update a4 (fun x => x.push y)
      have ee : vs.toArray.push y = (vs ++ [y]).toArray := by simp
      rw [ee] at em
      have kpD : ∀ b o, b ∉ [D] → h₅.get? b = some o → (h₅.update D (Obj.mapSeq fun x => x.push y)).get? b = some o := fun b o nb e => ((Heap.SameBut.update ..).2 b (fun z => nb (by rw [z]; exact .head _))).trans e
      have fD := fr' D nD DC
      obtain ⟨S8, e8⟩ := S₅.hid (e7.trans e35) (wr := [D]) kpD (fun a m => by rw [List.mem_singleton.mp m]; exact ⟨a2', nD, a3', fD.2.1, fD.2.2.1, fD.2.2.2.1⟩) (fun _ z => z) (fun _ z => .inl z) (fun b _ m => by rw [List.mem_singleton.mp m]; exact ⟨_, em⟩)
      have up : ∀ b o, Pz h₅ ow₅ b o → Pz (h₅.update D (Obj.mapSeq fun x => x.push y)) ow₅ b o := fun b o p => ⟨kpD b o (fun m => p.2 (by rw [List.mem_singleton.mp m]; exact a2')) p.1, p.2⟩
      have stD : St (i + 1) (h₅.update D (Obj.mapSeq fun x => x.push y)) := it.W.frame _ _ _ a1 fun b hb o e => kpD b o (fun m => by
        rw [List.mem_singleton.mp m] at hb
        rcases it.fp D hb with z | ⟨_, p⟩
        · exact ID z.symm
        · exact no_get p.1 nD) e
      exact ⟨its.length - (i + 1), by omega, i + 1, ow₅, ρ₅, acc ++ [sv], σ₅.cel, vs ++ [y], m, _, tk₅, rfl, hlt, by rw [List.length_append]; simp; omega, rfl, S8.forget, e8, stD, ⟨a2, a2'⟩, ⟨a3, a3'⟩, em, ((S7.vrs e35 rvs7).mono up).append (.cons (ry.mono up) .nil), k₅⟩
    · obtain rfl : i = its.length := by omega
      rw [List.drop_length] at jc
      have itW := it.W
      rw [← hA, ← hw] at itW
      refine itW.done _ _ _ st fun h'' tk'' kp => ?_
      obtain ⟨S7, e7⟩ := S6.hid e6 (h' := h'') (ow' := fun b => ow' b ∧ b ≠ I ∧ b ≠ D) kp hwI (fun _ z => z.1) (fun b z => by
        by_cases hb : b = I
        · subst hb; have := fr' b nI IC; exact .inr ⟨mI, this.2.1, this.2.2.1, this.1⟩
        · by_cases hb' : b = D
          · subst hb'; have := fr' b nD DC; exact .inr ⟨mD, this.2.1, this.2.2.1, this.1⟩
          · exact .inl ⟨z, hb, hb'⟩) (fun b z m => absurd (List.mem_singleton.mp m) z.2.1)
      have gD7 : h''.get? D = some (listOf vs.toArray k) := kp D _ (fun m => ID (List.mem_singleton.mp m).symm) gD
      have rvs7 : VRs (Pz h'' fun b => ow' b ∧ b ≠ I ∧ b ≠ D) X'.w vs acc := rvs.mono fun b o p => ⟨kp b o (fun m => p.2 (by rw [List.mem_singleton.mp m]; exact oI')) p.1, fun z => p.2 z.1⟩
      refine hRR D C h'' tk'' ⟨⟨_, ρ', acc, cel, ?_, conv e7, by rw [← hw]; exact .lst ⟨gD7, fun z => z.2.2 rfl⟩ rvs7, jc, ?_, ?_⟩, nC, ?_⟩
      · obtain ⟨mf', ml', F7, n7, d1, d2, l7⟩ := S7.fr
        obtain rfl := d2 ml hXc
        rw [hXh, hXL] at F7
        obtain ⟨mf₁, ml₁, F₁, n₁, b1, b2, l₁⟩ := S₁.fr
        obtain rfl := b1 hcomp
        have same : mf' = ml₁ := by
          have x1 := F₅.ns
          have x2 : h₄.Ns X.L ml₁ := by
            obtain ⟨o, es, ep, e1, r⟩ := F₁.ns
            refine ⟨o, es, ep, old4 _ _ ?_, r⟩
            rw [← hh3]
            exact Heap.get?_push_of_some _ (Heap.get?_push_of_some _ e1)
          funext z
          obtain ⟨o, es, ep, e1, e2, _, e3⟩ := x1
          obtain ⟨o', es', ep', f1, f2, _, f3⟩ := x2
          rw [e1] at f1; cases f1; rw [e2] at f2; cases f2
          rw [← e3 z, ← f3 z]
        subst same
        exact ⟨⟨mf', mf', F7, by rw [hL]; exact F7.ns, fun _ => rfl, fun m e => (by rw [hcomp] at e; cases e), fun y sv e => let ⟨v, f1, f2⟩ := l₁ y sv e; ⟨v, f1, S₁.ar (conv e7) f2⟩⟩, S7.len, fun i a o f1 f2 => by rw [← hw]; exact S7.cel i a o f1 f2, S7.nd, fun a ha => ⟨(S7.off a ha).1, by rw [← hXh]; exact (S7.off a ha).2.1, by rw [← hXL]; exact (S7.off a ha).2.2.1, by rw [hL, ← hXL]; exact (S7.off a ha).2.2.1⟩, by rw [← hXL]; exact S7.owL, by rw [hL, ← hXL]; exact S7.owL, S7.low, fun y i e => by
          obtain ⟨c, f1, f2⟩ := S₁.var y i e
          refine ⟨c, f1, ?_⟩
          obtain ⟨t, rfl⟩ := e7.pre
          rw [List.getElem?_append_left (List.getElem?_eq_some_iff.mp f2).1]; exact f2, fun a o e => by rw [← hw] at e; exact S7.kf a o e⟩
      · exact ⟨by have := S6.owl; rw [hloc] at this; exact this, IC.symm, DC.symm⟩
      · exact fun m => (S7.off _ m).2.2.2 hloc.symm
      · obtain ⟨_, ml', _, n7, _⟩ := S7.fr
        rw [hloc] at n7
        exact ⟨ml', n7⟩
  have env : ({ newEnv scope C X.env.globals (clAcc X.env scope.names []) X.env.qual none .none (some X.env) X.env.builtins with scope := relabel scope X.env } : Env) = X'.env := by rw [hXe]; rfl
  have lp := loop s.toks
  rw [hA, hw] at lp
  rw [hXe] at lp
  have W0 := it.W.self 0 { s with heap := h₄, toks := s.toks }
  exact codeG_compStart lp (W0 _ _ st4 lp)
theorem JEG_ListComp {K : AV → SS → Prop} {elt iter : Expr} {x : Str} {px : Pos} {scope : Scope} {pos : Pos} (O : X.Ok) (hcomp : X.comp = none) (hok : scopeOk scope x = true) (hfr : freesOk scope.names X.vid = true) (hs : ∀ v, foldedSetIterable iter X.env v = pure v)
    (h : JE X iter σ fun a σ₁ => ∃ its, Iters X a σ₁ its ∧ its.length ≤ 16384 ∧ ∀ X', IsComp X X' scope → JCmpG X' x elt its [] σ₁.cel fun acc cel => K (.v (.lst acc)) ⟨σ₁.loc, cel⟩) : JEG X (.ListComp elt [⟨.Name x px, iter, [], 0⟩] scope pos) σ K := by
  obtain ⟨a1, a2, a3, a4⟩ := scopeOk_out hok
  intro ow ρ s S Q q
  rw [eval_ListComp]
  refine G_comprehension rfl hs (clos_ok S hfr) a3 a2 (h ow ρ s S _ _ fun a sa σ₁ ow₁ ρ₁ h₁ tk₁ e₁ S₁ r₁ k₁ => ?_)
  obtain ⟨its, hi, hz, jc⟩ := k₁
  refine hi ow₁ ρ₁ { s with heap := h₁, toks := tk₁ } a S₁ r₁ _ _ fun o fp P St hof it st0 => ?_
  refine run_compG (RR := fun acc C => compPostG Q acc C) (s := { s with heap := h₁, toks := tk₁ }) O hcomp a1 a3 a4 hfr S₁ hof it st0 hz jc fun D C h' tk co => ?_
  obtain ⟨m', hn⟩ := co.ns
  refine ⟨m', hn, fun h'' hs => ?_⟩
  obtain ⟨ow', ρ', acc, cel', S', e', v, k⟩ := drop_C S₁ co hs
  exact q _ _ _ _ _ _ tk (e₁.trans e') S' (.v v) k
end
def FnOkG (w : World) (f : Addr) (D U : Nat) (sp : Spec) : Prop :=
  ∀ (X : Fx), X.Ok → X.w = w → X.dp + D < recursionLimit → X.un + U < cLine → ∀ (ow : Addr → Prop) (ρ : List Addr) (σ : SS) (s : Shared), SR X ow ρ s.heap σ →
  ∀ (ρ' : List Addr) (cel : List SObj) (vs : List Value) (as : List AV) (K : SV → List SObj → Prop), ρ'.Nodup → (∀ a ∈ ρ', a ∈ ρ) → Cels (Pz s.heap ow) w ρ' s.heap cel → ARs (Pz s.heap ow) w ρ' vs as → sp as cel K →
  ∀ (Q : Value → Shared → Prop), (∀ v r cel' h' tk', (∀ b o, s.heap.get? b = some o → b ∉ ρ' → h'.get? b = some o) → (∀ b o, s.heap.get? b = some o → ∃ o', h'.get? b = some o') → Cels (Pz h' ow) w ρ' h' cel' → VR (Pz h' ow) w v r → K r cel' → Q v { s with heap := h', toks := tk' }) →
  wpG (model lawP w) X.A (call (.ref f) vs) Q F0 s
section
variable {prog : Program} {w : World} {A : Around} {s : Shared} {R : Result → Shared → Prop}
theorem codeG_func {body : List Stmt} {env : Env} (h : wpG (model prog w) (A.deeper env) (execs body env) (fun f s' => R (.ok (.ret (match f with | .ret v => v | _ => .none))) s') F0 s) : codeG (model prog w) A (.func body env) R s := by
  refine codeG_of_tree rfl ?_
  show wpG _ (A.deeper env) (do point; match ← (execs body env).onRaise (leaving env) with | .ret v => ret v | _ => ret .none) _ _ s
  refine wpG_bind (wpG_point (wpG_bind (wpG_onRaise0 (h.monoQ fun f s' h' => ?_))))
  cases f <;> exact wpG_pure h'
theorem codeG_call_function {a : Addr} {args : Args} {o : Obj} {fd : FuncData} {body : List Stmt} (hroom : A.depth < recursionLimit)
    (ho : s.heap.get? a = some o) (hd' : o.data = .func fd) (hco : fd.scope.isCoroutine = false) (hgen : fd.scope.isGenerator = false) (hbody : fd.body = .stmts body) (hcd : s.heap.CodeRec fd.code fd.qualname)
    (h : wpAny (model prog w) A.in1 (bindArgs fd args) (fun binds s₁ =>
      wpAny (model prog w) A.in1 (newFunctionEnv fd.scope fd.globals fd.closure binds (fd.qualname ++ ".<locals>.") (some a) fd.code none fd.builtins)
        (fun env s₂ => s₂.heap.NoLimit ∧ codeG (model prog w) A (.func body env) R s₂) F0 s₁) F0 s) :
    codeG (model prog w) A (.call (.ref a) args) R s := by
  refine codeG_of_tree rfl ?_
  show wpG _ A.in1 (callAny (.ref a) args) _ _ s
  simp only [callAny]
  refine wpG_then (wpAny_load ho ?_)
  obtain ⟨c, oc, vs, tq, hc, hoc, hdc, hq⟩ := hcd
  simp only [hd', callFunction, hco, hgen, hbody, hc]
  rw [hc] at h
  refine wpG_then (m := field (.ref c) 1) (wpAny_field hoc hdc hq (wpG_bind (wpG_pure ?_)))
  exact wpG_then (wpAny_mono h (fun binds s₁ h₁ => wpG_then (wpAny_mono h₁ (fun env s₂ h₂ => wpG_then (wpAny_enterFrame h₂.1 hroom
    (wpG_pure (And.intro rfl h₂.2)))) fun _ _ h' => h'.elim)) fun _ _ h' => h'.elim)
end
theorem FnOkG.of_body {w : World} {f : Addr} {D U : Nat} {sp : Spec} {qual : Str} {params : Arguments} {body : List Stmt} {sc : Scope} {ns : List Str} (hf : FnIn w f qual params body sc) (hb : Bnd params ns) (hc : ScOk sc ns)
    (hlen : ∀ as cel K, sp as cel K → as.length = ns.length)
    (h : ∀ (X : Fx) (as : List AV) (cel : List SObj) (K : SV → List SObj → Prop), X.Ok → X.w = w → X.D = D → X.U = U → Agr X (cxOf sc cel.length) → sp as cel K → JBG X body (entSS sc ns as cel) (Kret cel.length K)) : FnOkG w f (D + 1) (U + 3) sp := by
  intro X O hw hdp hun ow ρ σ s S ρ' cel vs as K nd sub C R hsp Q q
  obtain ⟨news, N, hnews⟩ := news_of S sub
  obtain ⟨o, fd, ⟨ho, hd, hco, hgen, hbody, hcd⟩, go⟩ := enterX hf hb hc X O hw hdp hun ow ρ σ s S ρ' cel vs as nd sub C R (hlen _ _ _ hsp) N hnews (fun _ m => m) (fun a m => (S.off a (sub a m)).1)
  refine wpG_call (codeG_call_function (by show X.dp < recursionLimit; omega) ho hd hco hgen hbody hcd (go (fun env s₂ => codeG (model lawP w) X.A (.func body env) _ s₂) _ fun X' ca h₁ tk T => codeG_func ?_))
  have J := h X' as cel K T.ok T.w T.D T.U T.ag hsp _ _ { s with heap := h₁, toks := tk } T.S (fun fl s' => Q (match fl with | .ret v => v | _ => .none) s') fun a b σ' ow' ρ'' h' tk' e S'' r k => T.out S.low C q a b σ' ow' ρ'' h' tk' e S'' r k
  rw [T.w, T.A] at J
  exact J
section
variable {X : Fx} {σ : SS} {K : AV → SS → Prop}
theorem JCallG_of (O : X.Ok) {f : Addr} {D U : Nat} {sp : Spec} (hf : FnOkG X.w f D U sp) (hD : D ≤ X.D) (hU : U ≤ X.U) {as : List AV} (h : callS sp as σ K) : JCallG X (.ref f) as σ K := by
  intro ow ρ s vs S R Q q
  have room := O.room
  have units := O.units
  have go := hf X O rfl (by omega) (by omega) ow ρ σ s S
  have keepO : ∀ {h' : Heap} {ρ' : List Addr}, (∀ a ∈ ρ', a ∈ ρ) → (∀ b o, s.heap.get? b = some o → b ∉ ρ' → h'.get? b = some o) → ∀ {i : Nat} {a : Addr} {o : SObj}, ρ[i]? = some a → σ.cel[i]? = some o → a ∉ ρ' → ∃ ob, h'.get? a = some ob ∧ OR (Pz h' ow) X.w ρ ob o := fun {h' ρ'} sub kp {i a o} e1 e2 na => by
    obtain ⟨ob, e3, e4⟩ := S.cel i a o e1 e2
    exact ⟨ob, kp a ob e3 na, e4.mono (fun b o e => ⟨kp b o e.1 fun m => e.2 (S.off b (sub b m)).1, e.2⟩) (pfx ρ)⟩
  have inj : ∀ {i j : Nat} {a : Addr}, ρ[i]? = some a → ρ[j]? = some a → i = j := fun {i j a} e1 e2 => by
    obtain ⟨l1, g1⟩ := List.getElem?_eq_some_iff.mp e1
    obtain ⟨l2, g2⟩ := List.getElem?_eq_some_iff.mp e2
    exact (List.getElem_inj S.nd).mp (g1.trans g2.symm)
  unfold callS at h
  split at h
  · rename_i i rest
    obtain ⟨g, h⟩ := h.out
    cases R with
    | cons r rs => cases r with
      | c hr =>
        rename_i vs a
        split at h
        · rename_i l hl
          obtain ⟨ob, e3, e4⟩ := S.cel i a _ hr hl
          have sub : ∀ b ∈ [a], b ∈ ρ := fun b m => by rw [List.mem_singleton.mp m]; exact List.mem_of_getElem? hr
          refine go [a] [.lst l] _ _ _ (by simp) sub ⟨rfl, fun k b o e1 e2 => ?_⟩ (.cons (.c rfl) (rs.plain g)) h Q fun v r cel' h' tk' kp lv C rv k => ?_
          · cases k with
            | zero => cases e1; cases e2; exact ⟨ob, e3, by cases e4 with | lst r => exact .lst r⟩
            | succ k => cases e1
          · split at k
            · rename_i l'
              obtain ⟨ob', e5, e6⟩ := C.at' 0 a _ rfl rfl
              obtain ⟨S', ex⟩ := S.turn O (σc := σ.cel.set i (.lst l')) [a] sub kp lv (by rw [List.length_set]; exact S.len) fun j b o f1 f2 => by
                by_cases hj : i = j
                · subst hj
                  rw [hr] at f1; cases f1
                  rw [List.getElem?_set_self (List.getElem?_eq_some_iff.mp hl).1] at f2; cases f2
                  exact ⟨ob', e5, by cases e6 with | lst r => exact .lst r⟩
                · rw [List.getElem?_set_ne hj] at f2
                  exact keepO sub kp f1 f2 fun m => hj (inj hr (List.mem_singleton.mp m ▸ f1))
              exact q v _ _ ow ρ h' tk' ex S' (.v rv) k
            · exact k.elim
        · rename_i Cc j hl
          obtain ⟨g2, h⟩ := h.out
          have hij : i ≠ j := fun e => by subst e; rw [Nat.beq_refl] at g2; cases g2
          split at h
          · rename_i fs hj
            obtain ⟨ob, e3, e4⟩ := S.cel i a _ hr hl
            cases e4 with
            | inst hdx =>
              rename_i dx
              obtain ⟨ob2, e5, e6⟩ := S.cel j dx _ hdx hj
              have sub : ∀ b ∈ [a, dx], b ∈ ρ := fun b m => by
                rcases List.mem_cons.mp m with rfl | m
                · exact List.mem_of_getElem? hr
                · rw [List.mem_singleton.mp m]; exact List.mem_of_getElem? hdx
              have nad : a ≠ dx := fun e => hij (inj hr (e ▸ hdx))
              refine go [a, dx] [.inst Cc 1, .idict fs] _ _ _ (by simp [nad]) sub ⟨rfl, fun k b o e1 e2 => ?_⟩ (.cons (.c rfl) (rs.plain g)) h Q fun v r cel' h' tk' kp lv C rv k => ?_
              · match k, e1, e2 with
                | 0, e1, e2 => cases e1; cases e2; exact ⟨_, e3, .inst rfl⟩
                | 1, e1, e2 => cases e1; cases e2; exact ⟨ob2, e5, by cases e6 with | idict r => exact .idict r⟩
                | k + 2, e1, e2 => cases e1
              · split at k
                · rename_i C' j' fs'
                  obtain ⟨g3, k'⟩ := k.out
                  obtain ⟨g3, g4⟩ := Bool.and_eq_true_iff.mp g3
                  obtain rfl := Nat.eq_of_beq_eq_true g3
                  obtain rfl := Nat.eq_of_beq_eq_true g4
                  obtain ⟨ob0, e7, e8⟩ := C.at' 0 a _ rfl rfl
                  obtain ⟨ob1, e9, e10⟩ := C.at' 1 dx _ rfl rfl
                  obtain ⟨S', ex⟩ := S.turn O (σc := σ.cel.set j (.idict fs')) [a, dx] sub kp lv (by rw [List.length_set]; exact S.len) fun k b o f1 f2 => by
                    by_cases hj' : j = k
                    · subst hj'
                      rw [hdx] at f1; cases f1
                      rw [List.getElem?_set_self (List.getElem?_eq_some_iff.mp hj).1] at f2; cases f2
                      exact ⟨ob1, e9, by cases e10 with | idict r => exact .idict r⟩
                    · rw [List.getElem?_set_ne hj'] at f2
                      by_cases hi' : i = k
                      · subst hi'
                        rw [hr] at f1; cases f1
                        rw [hl] at f2; cases f2
                        exact ⟨ob0, e7, by cases e8 with | inst hh => cases hh; exact .inst hdx⟩
                      · refine keepO sub kp f1 f2 fun m => ?_
                        rcases List.mem_cons.mp m with rfl | m
                        · exact hi' (inj hr f1)
                        · exact hj' (inj hdx (List.mem_singleton.mp m ▸ f1))
                  exact q v _ _ ow ρ h' tk' ex S' (.v rv) k'
                · exact k.elim
          · exact h.elim
        · exact h.elim
  · obtain ⟨g, h⟩ := h.out
    refine go [] [] vs as _ List.nodup_nil (fun _ m => absurd m List.not_mem_nil) .nil (R.plain g) h Q fun v r cel' h' tk' kp lv C rv k => ?_
    split at k
    · obtain ⟨S', ex⟩ := S.turn O (σc := σ.cel) [] (fun _ m => absurd m List.not_mem_nil) kp lv S.len fun i a o e1 e2 => keepO (fun _ m => absurd m List.not_mem_nil) kp e1 e2 (fun m => absurd m List.not_mem_nil)
      exact q v _ _ ow ρ h' tk' ex S' (.v rv) k
    · exact k.elim
end
end
section
namespace Ba
theorem mro : mroOf (.type "bytearray") = pure [.type "bytearray", .type "object"] := by rw [mroOf_type]; kernel_rfl
theorem look_new : typeLookup (.type "bytearray") "__new__" = pure (some (.builtin "bytearray.__new__")) := by rw [typeLookup_type, builtinLookup_eq_fast]; kernel_rfl
theorem slot_init : Slot "bytearray" "__init__" "bytearray.__init__" :=
  .of (owner := "bytearray") (n := "__init__") (by rw [typeLookup_type, builtinLookup_eq_fast]; kernel_rfl) (by decide +kernel) (by decide +kernel) (by decide +kernel)
    (by first | exact .inl (by decide +kernel) | exact .inr (by decide +kernel)) (by rw [isSubtype_type]; kernel_rfl)
theorem slot_set : Slot "bytearray" "__setitem__" "bytearray.__setitem__" :=
  .of (owner := "bytearray") (n := "__setitem__") (by rw [typeLookup_type, builtinLookup_eq_fast]; kernel_rfl) (by decide +kernel) (by decide +kernel) (by decide +kernel)
    (by first | exact .inl (by decide +kernel) | exact .inr (by decide +kernel)) (by rw [isSubtype_type]; kernel_rfl)
theorem called : TypeCalled "bytearray" "bytearray.__new__" "bytearray.__init__" :=
  ⟨by decide +kernel, by decide +kernel, ⟨_, _, mro⟩, madeBy_type mro look_new (by decide +kernel), by decide +kernel, by rw [isSubtype_type]; kernel_rfl, slot_init⟩
theorem typeCall (a : Value) : checkTypeCall "bytearray" ⟨[a], []⟩ = pure () := by kernel_rfl
theorem newCall (a : Value) : checkBuiltinCall "bytearray.__new__" ⟨[.type "bytearray", a], []⟩ = pure () := by kernel_rfl
theorem entry_new : entryFor table "bytearray.__new__" = some Builtin.«list.__new__» := entryFor_alias (id' := "list.__new__") (by kernel_rfl) (by decide +kernel) (by decide +kernel) (by kernel_rfl)
theorem entry_init : entryFor table "bytearray.__init__" = some Builtin.«bytearray.__init__» := by first | exact entryFor_of_fast (by kernel_rfl) | exact entryFor_of_tree (by kernel_rfl)
theorem entry_set : entryFor table "bytearray.__setitem__" = some Builtin.«bytearray.__setitem__» := by first | exact entryFor_of_fast (by kernel_rfl) | exact entryFor_of_tree (by kernel_rfl)
theorem plain_new : plainId "bytearray.__new__" = true := by decide +kernel
theorem plain_init : plainId "bytearray.__init__" = true := by decide +kernel
theorem owner : Manifest.owners.lookup (String.ofList ['y', 'a', 'r', 'r', 'a', 'e', 't', 'y', 'b'].reverse) = some Manifest.sig_bytearray := by kernel_rfl
theorem args_init (a b : Value) : argsOk "bytearray.__init__" ⟨[a, b], []⟩ := by
  unfold argsOk; rw [signature?_of (id := "bytearray.__init__") (n := ['_', '_', 't', 'i', 'n', 'i', '_', '_']) (o := ['y', 'a', 'r', 'r', 'a', 'e', 't', 'y', 'b']) (by kernel_rfl) owner]; kernel_rfl
theorem args_set (a b c : Value) : argsOk "bytearray.__setitem__" ⟨[a, b, c], []⟩ := by
  unfold argsOk; rw [signature?_of (id := "bytearray.__setitem__") (n := ['_', '_', 'm', 'e', 't', 'i', 't', 'e', 's', '_', '_']) (o := ['y', 'a', 'r', 'r', 'a', 'e', 't', 'y', 'b']) (by kernel_rfl) owner]; kernel_rfl
theorem no_release : typeLookup (.type "bytearray") "__release_buffer__" = pure (some (.builtin "bytearray.__release_buffer__")) := by rw [typeLookup_type, builtinLookup_eq_fast]; kernel_rfl
theorem look_buffer : typeLookup (.type "bytearray") "__buffer__" = pure (some (.builtin "bytearray.__buffer__")) := by rw [typeLookup_type, builtinLookup_eq_fast]; kernel_rfl
theorem no_bytes : typeLookup (.type "bytearray") "__bytes__" = pure none := by rw [typeLookup_type, builtinLookup_eq_fast]; kernel_rfl
theorem noindex : typeLookup (.type "bytearray") "__index__" = pure none := by rw [typeLookup_type, builtinLookup_eq_fast]; kernel_rfl
theorem sub : isSubtype (.type "bytearray") (.type "bytearray") = pure true := by rw [isSubtype_type]; kernel_rfl
theorem own : ("bytearray.__new__".splitOn ".__new__").headD "" = "bytearray" := by simp +decide [String.splitOn, String.splitOnAux]
theorem bind (v : Value) : Builtin.Bytes.bindOptional "bytearray.__init__" "bytearray" ["source", "encoding", "errors"] [v] [] = pure [some v, none, none] := by kernel_rfl
end Ba
section
open Builtin
variable {prog : Program} {w : World} {A : Around} {E : Value → Shared → Prop} {s : Shared}
theorem exported_no {self : Value} {Q : Bool → Shared → Prop} (h : Q false s) : wpG (model prog w) A (Bytes.exported self) Q E s := by
  unfold Bytes.exported
  refine wpG_stackAny (fun c p hc => ?_) h
  cases c <;> try rfl
  rename_i id args
  have hc : badIds.contains id = false := by simpa [okC] using hc
  have no : ∀ x : String, badIds.contains x = true → id ≠ x := fun x hx e => by subst e; rw [hc] at hx; cases hx
  split
  · rename_i e; cases e; exact absurd rfl (no _ (by decide +kernel))
  · rename_i e; cases e; exact absurd rfl (no _ (by decide +kernel))
  · rename_i e; cases e; exact absurd rfl (no _ (by decide +kernel))
  · rename_i e; cases e; exact absurd rfl (no _ (by decide +kernel))
  · rename_i e; cases e; exact absurd rfl (no _ (by decide +kernel))
  · rename_i e
    cases e
    have hc2 : badIds.contains id = false := by simpa [okC] using hc
    have hd : Bytes.decodersThatHold.contains id = false := by
      cases q : Bytes.decodersThatHold.contains id with
      | false => rfl
      | true =>
        have m : badIds.contains id = true := List.contains_iff_mem.mpr (List.mem_append_right _ (List.contains_iff_mem.mp q))
        rw [m] at hc2; cases hc2
    rw [hd, Bool.and_false]
  · rfl
theorem ba_new (a : Value) {Q₁ : Value → Shared → Prop}
    (h : Q₁ (.ref s.heap.objs.size) { s with heap := s.heap.push { cls := .type "bytearray", data := .bytearray #[] } }) :
    codeAny (model prog w) A (.call (.builtin "bytearray.__new__") ⟨[.type "bytearray", a], []⟩) (wants Q₁ E) s := by
  refine codeAny_of_tree ?_
  show wpAny _ A.in1 (do checkBuiltinCall "bytearray.__new__" ⟨[.type "bytearray", a], []⟩; again (.builtin "bytearray.__new__" ⟨[.type "bytearray", a], []⟩)) _ _ s
  refine wpAny_bind (wpAny_of_eq (Ba.newCall a) (wpAny_pure ⟨plainId_quiet Ba.plain_new _, codeAny_builtin_stack Ba.entry_new rfl fun p st => ?_⟩))
  rw [Around.under_plainId Ba.plain_new _]
  have hsub := Ba.sub
  have hown := Ba.own
  obtain ⟨hp, g, d, tk, os⟩ := s
  simp only [hown]
  wp_walk
  exact h
theorem ba_write {a : Addr} {l : Array UInt8} {f : Array UInt8 → Array UInt8} {Q : Unit → Shared → Prop} (e : s.heap.get? a = some { cls := .type "bytearray", data := .bytearray l 0 }) (hz : (f l).size ≤ sizeLine)
    (h : ∀ h', h'.get? a = some { cls := .type "bytearray", data := .bytearray (f l) 0 } → Heap.SameBut a s.heap h' → Q () { s with heap := h' }) : wpAny (model prog w) A (Bytes.write (.ref a) f) Q E s := by
  show wpAny _ _ (updateBytearray a f) _ _ _
  unfold updateBytearray
  refine wpAny_bind (wpAny_load e ?_)
  show wpAny _ _ (update a (Obj.mapBytearray f) >>= fun _ => lookBehind a) _ _ _
  refine wpAny_bind (wpAny_update e ?_)
  have e₂ : (s.heap.update a (Obj.mapBytearray f)).get? a = some { cls := .type "bytearray", data := .bytearray (f l) 0 } := Heap.get?_update_self (Obj.mapBytearray f) e rfl
  refine wpAny_lookBehind e₂ ?_ (h _ e₂ (Heap.SameBut.update ..))
  show (if (f l).size > sizeLine then some "bytearray:memory" else none) = none
  rw [if_neg]; omega
theorem ba_own {a : Addr} {l : Array UInt8} {Q : Bool → Shared → Prop} (e : s.heap.get? a = some { cls := .type "bytearray", data := .bytearray l 0 }) (h : Q false s) : wpAny (model prog w) A (Bytes.ownRelease (.ref a)) Q E s := by
  have hT : s.TypeIs (.ref a) "bytearray" := ⟨_, e, rfl⟩
  unfold Bytes.ownRelease Bytes.slotIsOwn
  refine wpAny_bind ?_
  refine wpAny_bind (wpAny_specialOf hT Ba.no_release ?_)
  show wpAny _ _ (if (!"bytearray.__release_buffer__".endsWith ("." ++ "__release_buffer__")) = true then _ else _) _ _ _
  rw [if_neg (by decide +kernel)]
  have key : ∀ x : String, x = "bytearray" → wpAny (model prog w) A (isInstance (.ref a) (.type x)) (fun b s' => wpAny (model prog w) A (pure !b) Q E s') E s := fun x hx => by
    subst hx; exact wpAny_isInstance hT Ba.sub (wpAny_pure h)
  exact key _ (by decide +kernel)
theorem ba_ownBuf {a : Addr} {l : Array UInt8} {Q : Bool → Shared → Prop} (e : s.heap.get? a = some { cls := .type "bytearray", data := .bytearray l 0 }) (h : Q true s) : wpAny (model prog w) A (Bytes.slotIsOwn (.ref a) "__buffer__") Q E s := by
  have hT : s.TypeIs (.ref a) "bytearray" := ⟨_, e, rfl⟩
  unfold Bytes.slotIsOwn
  refine wpAny_bind (wpAny_specialOf hT Ba.look_buffer ?_)
  show wpAny _ _ (if (!"bytearray.__buffer__".endsWith ("." ++ "__buffer__")) = true then _ else _) _ _ _
  rw [if_neg (by decide +kernel)]
  have key : ∀ x : String, x = "bytearray" → wpAny (model prog w) A (isInstance (.ref a) (.type x)) Q E s := fun x hx => by
    subst hx; exact wpAny_isInstance hT Ba.sub h
  exact key _ (by decide +kernel)
theorem ba_init {B : Around} {a : Addr} {l : Array UInt8} {n : Int} {t : Tok} {R : Result → Shared → Prop} (e : s.heap.get? a = some { cls := .type "bytearray", data := .bytearray l 0 }) (h0 : 0 ≤ n) (h1 : n ≤ 1000)
    (h : ∀ h', h'.get? a = some { cls := .type "bytearray", data := .bytearray (Array.replicate n.toNat 0) 0 } → Heap.SameBut a s.heap h' → R (.ok (.ret .none)) { s with heap := h' }) :
    wpG (model prog w) A (Builtin.«bytearray.__init__» ⟨[.ref a, .int n t], []⟩) (fun fin s' => match fin with | .done f => R (.ok f) s' | .again c' => c'.quiet = true ∧ codeG (model prog w) B c' R s') (fun e s' => R (.error e) s') s := by
  unfold Builtin.«bytearray.__init__»
  dsimp only
  refine wpG_then (ba_own e ?_)
  rw [if_neg Bool.false_ne_true]
  refine wpG_bind (wpG_of_eq (Ba.bind _) ?_)
  refine wpG_bind (wpG_of_eq (a := ()) rfl ?_)
  refine wpG_bind (wpG_of_eq (a := ()) rfl ?_)
  refine wpG_bind ?_
  unfold orM
  refine wpG_bind (exported_no ?_)
  show wpG _ _ (do return decide ((← Bytes.exportsOf (.ref a)) > 0)) _ _ _
  refine wpG_bind ?_
  unfold Bytes.exportsOf
  refine wpG_then (wpAny_load e ?_)
  refine wpG_pure (wpG_pure ?_)
  show wpG _ _ (if decide ((0 : Nat) > 0) = true then _ else _) _ _ _
  rw [if_neg (by decide)]
  refine wpG_then (ba_write e (Nat.zero_le _) fun h₁ e₁ s₁ => ?_)
  show wpG _ _ (asStr? (.int n t) >>= _) _ _ _
  refine wpG_bind (wpG_of_eq (a := none) rfl ?_)
  rw [if_neg (show ¬ ((none : Option Str).isSome = true) from Bool.false_ne_true)]
  rw [if_neg (show ¬ ((none : Option Value).isSome = true) from Bool.false_ne_true)]
  rw [if_neg (show ¬ ((none : Option Value).isSome = true) from Bool.false_ne_true)]
  refine wpG_bind (wpG_pure ?_)
  refine wpG_then (wpAny_specialOf (T := "int") (typeIs_int _ _ _) F.slot_int_index.lookup ?_)
  rw [if_pos (show (some (Value.builtin "int.__index__")).isSome = true from rfl)]
  refine wpG_bind (wpG_of_eq (a := .ok n) rfl ?_)
  dsimp only
  have f1 : (!Bytes.fitsIndex n) = false := by
    have : Bytes.fitsIndex n = true := by simp [Bytes.fitsIndex]; omega
    rw [this]; rfl
  rw [f1, if_neg Bool.false_ne_true, if_neg (by omega)]
  have f2 : (n == 2 ^ 63 - 1) = false := by simp; omega
  rw [f2, if_neg Bool.false_ne_true]
  have f3 : Bytes.tooLong n.toNat = false := by
    unfold Bytes.tooLong
    rw [sizeLine_eq]
    exact decide_eq_false (by omega)
  rw [f3, if_neg Bool.false_ne_true]
  refine wpG_bind (wpG_rule ?_)
  have SB : ∀ {h₂ : Heap}, Heap.SameBut a h₁ h₂ → Heap.SameBut a s.heap h₂ := fun x => ⟨x.1.trans s₁.1, fun b hb => (x.2 b hb).trans (s₁.2 b hb)⟩
  split
  · refine wpG_then (ba_write (s := { s with heap := h₁ }) e₁ ?_ fun h₂ e₂ s₂ => ?_)
    · show (Array.replicate n.toNat (0 : UInt8)).size ≤ sizeLine
      rw [Array.size_replicate, sizeLine_eq]; omega
    exact wpG_pure (h h₂ e₂ (SB s₂))
  · obtain rfl : n = 0 := by omega
    exact wpG_pure (h h₁ e₁ s₁)
theorem codeG_builtin {id : String} {args : Args} {b : Builtin} {R : Result → Shared → Prop} (hok : okC (.builtin id args) = true) (hb : entryFor table id = some b)
    (h : wpG (model prog w) (A.under (.builtin id args)) (b args) (fun fin s' => match fin with | .done f => R (.ok f) s' | .again c' => c'.quiet = true ∧ codeG (model prog w) A c' R s') (fun e s' => R (.error e) s') s) : codeG (model prog w) A (.builtin id args) R s := by
  refine codeG_of_tree hok ?_
  show wpG _ _ (match entryFor table id with | some b => b args | none => unsupported ((withoutEnding? id "#data").getD id)) _ _ s
  rw [hb]; exact h
theorem ba_code {a : Addr} {l : Array UInt8} {n : Int} {t : Tok} {R : Result → Shared → Prop} (e : s.heap.get? a = some { cls := .type "bytearray", data := .bytearray l 0 }) (h0 : 0 ≤ n) (h1 : n ≤ 1000)
    (h : ∀ h', h'.get? a = some { cls := .type "bytearray", data := .bytearray (Array.replicate n.toNat 0) 0 } → Heap.SameBut a s.heap h' → R (.ok (.ret .none)) { s with heap := h' }) :
    codeG (model prog w) A (.call (.builtin "bytearray.__init__") ⟨[.ref a, .int n t], []⟩) R s := by
  refine codeG_of_tree rfl ?_
  show wpG _ _ (do checkBuiltinCall "bytearray.__init__" _; again (.builtin "bytearray.__init__" _)) _ _ _
  refine wpG_then (Ba.slot_init.check _ _ _ _ _ _ _ _ ⟨_, e, rfl⟩ (Ba.args_init _ _) ?_)
  refine wpG_pure ⟨plainId_quiet Ba.plain_init _, codeG_builtin (by show (!badIds.contains "bytearray.__init__") = true; decide +kernel) Ba.entry_init ?_⟩
  rw [Around.under_plainId Ba.plain_init _]
  exact ba_init e h0 h1 h
theorem call_bytearray {n : Int} {t : Tok} {Q : Value → Shared → Prop} (h0 : 0 ≤ n) (h1 : n ≤ 1000)
    (hQ : ∀ h', h'.get? s.heap.objs.size = some { cls := .type "bytearray", data := .bytearray (Array.replicate n.toNat 0) 0 } → (∀ b o, s.heap.get? b = some o → h'.get? b = some o) → Q (.ref s.heap.objs.size) { s with heap := h' }) :
    wpG (model prog w) A (call (.type "bytearray") [.int n t]) Q E s := by
  refine wpG_call (codeG_of_tree rfl ?_)
  show wpG _ _ (callAny (.type "bytearray") _) _ _ _
  refine wpG_pure ⟨Code.quiet_builtin _ (by decide +kernel), codeG_builtin (by show (!badIds.contains "type.__call__") = true; decide +kernel) F.entry_type_call ?_⟩
  rw [Around.under_plain (weight_type_call_type "bytearray" [.int n t] []) rfl]
  unfold Builtin.«type.__call__»
  dsimp only
  rw [if_neg (by rw [Ba.called.notType]; exact Bool.false_ne_true)]
  rw [if_neg (by rw [Ba.called.canCreate]; exact Bool.false_ne_true)]
  refine wpG_bind (wpG_of_eq (Ba.typeCall _) ?_)
  refine wpG_bind (wpG_of_eq Ba.mro ?_)
  rw [if_neg (by exact Bool.false_ne_true)]
  refine wpG_bind (wpG_of_eq Ba.called.made ?_)
  dsimp only
  refine wpG_bind (wpG_pure ?_)
  refine wpG_then (wpAny_holding (wpAny_call (codeAny_mono (ba_new (E := E) (Q₁ := fun v s' => v = .ref s.heap.objs.size ∧ s' = { s with heap := s.heap.push { cls := .type "bytearray", data := .bytearray #[] } }) _ ⟨rfl, rfl⟩) fun r s' hr => ?_)))
  cases r with
  | error e => exact hr
  | ok f =>
    cases f with
    | ret v =>
      obtain ⟨rfl, rfl⟩ := hr
      have e₁ : (s.heap.push { cls := .type "bytearray", data := .bytearray #[] }).get? s.heap.objs.size = some { cls := .type "bytearray", data := .bytearray #[] 0 } := Heap.get?_push_size _ rfl
      have hT : Shared.TypeIs { s with heap := s.heap.push { cls := .type "bytearray", data := .bytearray #[] } } (.ref s.heap.objs.size) "bytearray" := ⟨_, e₁, rfl⟩
      refine wpG_then (wpAny_isInstance hT Ba.sub ?_)
      rw [if_neg (by exact Bool.false_ne_true)]
      refine wpG_bind (wpG_holding ?_)
      unfold callSpecial?
      refine wpG_then (wpAny_specialOf hT Ba.slot_init.lookup ?_)
      dsimp only
      refine wpG_holding ?_
      refine wpG_bind (wpG_of_eq (Ba.slot_init.bind _) ?_)
      dsimp only
      refine wpG_bind (wpG_call (ba_code (s := { s with heap := s.heap.push { cls := .type "bytearray", data := .bytearray #[] } }) e₁ h0 h1 fun h' e' s' => ?_))
      exact wpG_pure (wpG_pure (hQ h' e' fun b o e => (s'.2 b (Nat.ne_of_lt (Heap.lt_size e))).trans (Heap.get?_push_of_some _ e)))
    | _ => exact hr.elim
theorem setItem_ba {l : Addr} {b : Array UInt8} {k v : Int} {t u : Tok} {Q : Unit → Shared → Prop} (e : s.heap.get? l = some { cls := .type "bytearray", data := .bytearray b 0 }) (h0 : 0 ≤ k) (hn : k < b.size) (hz : b.size ≤ 1000) (v0 : 0 ≤ v) (v1 : v < 256)
    (hQ : ∀ h', h'.get? l = some { cls := .type "bytearray", data := .bytearray (b.setIfInBounds k.toNat v.toNat.toUInt8) 0 } → Heap.SameBut l s.heap h' → Q () { s with heap := h' }) :
    wpAny (model prog w) A (setItem (.ref l) (.int k t) (.int v u)) Q E s := by
  have hT : s.TypeIs (.ref l) "bytearray" := ⟨_, e, rfl⟩
  unfold setItem
  try with_reducible refine wpAny_holding ?_
  first | refine wpAny_bind (wpAny_pure ?_) | skip
  refine wpAny_bind (wpAny_sequenceKey hT (by decide) ?_)
  refine wpAny_bind (wpAny_callSpecial?_slot (name := Str.ofString "__setitem__") hT Ba.slot_set
    (wpAny_call_entry Ba.slot_set hT Ba.entry_set ?_ (Ba.args_set _ _ _)))
  unfold Builtin.«bytearray.__setitem__»
  dsimp only
  rw [if_neg (by exact Bool.false_ne_true)]
  refine wpAny_bind ?_
  unfold Bytes.subscript?
  refine wpAny_bind (wpAny_specialOf (T := "int") (typeIs_int _ _ _) F.slot_int_index.lookup ?_)
  rw [if_neg (by exact Bool.false_ne_true)]
  refine wpAny_bind (wpAny_of_eq (rfl : asIndex (.int k t) = pure k) ?_)
  have f1 : (!Bytes.fitsIndex k) = false := by
    have : Bytes.fitsIndex k = true := by simp [Bytes.fitsIndex]; omega
    rw [this]; rfl
  dsimp only
  rw [f1, if_neg Bool.false_ne_true]
  refine wpAny_pure ?_
  dsimp only
  refine wpAny_bind ?_
  unfold Bytes.byteValue
  refine wpAny_bind (wpAny_of_eq (rfl : asIndex (.int v u) = pure v) ?_)
  refine bm_if_false (by simp only [Bool.or_eq_false_iff, decide_eq_false_iff_not]; omega) ?_
  refine wpAny_pure ?_
  refine wpAny_bind ?_
  unfold Bytes.payload Bytes.payload?
  refine wpAny_bind (wpAny_bind (wpAny_load e ?_))
  refine wpAny_pure (wpAny_pure ?_)
  have f2 : seqIndex? k b.size = some k.toNat := by
    have hn' : ¬ k < 0 := by omega
    simp [seqIndex?, hn', h0, hn]
  rw [f2]
  dsimp only
  refine wpAny_bind (ba_write e (by rw [Array.size_setIfInBounds, sizeLine_eq]; omega) fun h' e' s' => ?_)
  exact wpAny_pure ⟨.none, rfl, wpAny_pure (hQ h' e' s')⟩
theorem bytes_ba {l : Addr} {b : Array UInt8} {Q : Value → Shared → Prop} (e : s.heap.get? l = some { cls := .type "bytearray", data := .bytearray b 0 }) (hz : b.size ≤ 1000) (h : ∀ t k, Q (.bytes b t) { s with toks := k }) :
    wpAny (model prog w) A (call (.type "bytes") [.ref l]) Q E s := by
  have hT : s.TypeIs (.ref l) "bytearray" := ⟨_, e, rfl⟩
  refine callType_codes (Q₁ := fun obj s₁ => s₁.TypeIs obj "bytes" ∧ Q obj s₁) F.bm_called (F.bm_typeCall _) F.entry_object_init ?_ fun obj s₁ h₁ => ?_
  · refine codeAny_of_tree ?_
    show wpAny _ A.in1.in1 (do checkBuiltinCall "bytes.__new__" ⟨[.type "bytes", .ref l], []⟩; again (.builtin "bytes.__new__" ⟨[.type "bytes", .ref l], []⟩)) _ _ s
    refine wpAny_bind (wpAny_of_eq (F.bm_newCall _) (wpAny_pure ⟨plainId_quiet F.bm_plain _, codeAny_builtin F.bm_entry ?_⟩))
    rw [Around.under_plainId F.bm_plain _]
    unfold Builtin.«bytes.__new__»
    refine wpAny_bind (wpAny_of_eq (a := true) rfl ?_)
    refine bm_if_false rfl ?_
    refine wpAny_bind (wpAny_of_eq F.bm_sub ?_)
    refine bm_if_false rfl ?_
    refine wpAny_bind (wpAny_of_eq (F.bm_bind _) ?_)
    refine wpAny_bind (wpAny_of_eq (a := ()) rfl ?_)
    refine wpAny_bind (wpAny_of_eq (a := ()) rfl ?_)
    refine bm_if_false rfl ?_
    refine wpAny_bind (wpAny_specialOf hT Ba.no_bytes ?_)
    refine wpAny_bind (wpAny_bind ?_)
    show wpAny _ _ (load l >>= _) _ _ _
    refine wpAny_bind (wpAny_load e ?_)
    refine wpAny_pure (wpAny_pure ?_)
    refine bm_if_false rfl ?_
    refine wpAny_bind (wpAny_specialOf hT Ba.noindex ?_)
    refine bm_if_true rfl ?_
    first
      | show wpAny _ _ (Builtin.Bytes.buffer? "bytes.__new__" (.ref l) true >>= _) _ _ _
      | (refine wpAny_bind ?_; show wpAny _ _ (Builtin.Bytes.buffer? "bytes.__new__" (.ref l) true >>= _) _ _ _)
    refine wpAny_bind ?_
    unfold Builtin.Bytes.buffer?
    refine wpAny_bind (wpAny_specialOf hT Ba.look_buffer ?_)
    dsimp only
    refine wpAny_bind (ba_ownBuf e ?_)
    rw [if_neg (by exact Bool.false_ne_true)]
    refine wpAny_bind (wpAny_specialOf hT Ba.look_buffer ?_)
    try dsimp only
    refine wpAny_bind (ba_own e ?_)
    rw [if_neg Bool.false_ne_true]
    refine wpAny_bind ?_
    unfold Bytes.payload Bytes.payload?
    refine wpAny_bind (wpAny_bind (wpAny_load e ?_))
    refine wpAny_pure (wpAny_pure ?_)
    refine wpAny_pure ?_
    refine wpAny_bind (wpAny_rule ?_)
    refine wpAny_bind (wpAny_mkBytes ?_ (by rw [sizeLine_eq]; omega))
    show wpAny _ _ (if (Value.type "bytes" == Value.type "bytes") = true then _ else _) _ _ _
    refine bm_if_true (by decide) ?_
    first
      | exact wpAny_pure ⟨PySem.W.typeIs_bytes _ _ _, h _ _⟩
      | exact wpAny_bind (wpAny_pure (wpAny_pure ⟨PySem.W.typeIs_bytes _ _ _, h _ _⟩))
  · exact ⟨h₁.1, F.args_object_init_2 obj _, object_init_meets F.bm_called.init.lookup F.bm_called.made (by decide) prog w A.in1 _ s₁ ⟨h₁.1, rfl, h₁.2⟩⟩
end
end
section
section
variable {X : Fx} {σ : SS}
def bytesInts (l : List UInt8) : List SV := l.map fun c => .int (c.toNat : Int)
theorem Iters_bytes {l : List UInt8} (O : X.Ok) : Iters X (.v (.bytes l)) σ (bytesInts l) := by
  intro ow ρ s va S ra Q E q
  obtain ⟨t, rfl⟩ := ra.inv.bytes_inv
  have W := KBw.walks (prog := lawP) (w := X.w) (A := X.A) rfl s.heap.objs.size ⟨l⟩ t
  have hz : (⟨l⟩ : Array UInt8).size = (bytesInts l).length := by rw [bytesInts, List.length_map]; rfl
  rw [hz] at W
  have it : ∀ va, Iter X ow s.heap va (bytesInts l) s.heap.objs.size [s.heap.objs.size] (fun i v => ∃ c u, (⟨l⟩ : Array UInt8)[i]? = some c ∧ v = .int (c.toNat : Int) u) (fun i h => KBw.IsBytesIter h s.heap.objs.size ⟨l⟩ t i) := by
    intro va
    refine ⟨W, fun b hb => .inl (List.mem_singleton.mp hb), fun i h st => ?_, fun i v ⟨c, u, e, hv⟩ => ?_⟩
    · obtain ⟨o, e, c, d⟩ := st; exact ⟨o, e, by unfold quietIt; rw [c, d]; rfl⟩
    · subst hv
      refine ⟨_, ?_, .int _ _⟩
      have e' : l[i]? = some c := by simpa using e
      rw [bytesInts, List.getElem?_map, e']; rfl
  exact KBw.pyIter_bytes (q _ _ _ _ rfl (it _) ⟨_, Heap.get?_push_size _ rfl, rfl, rfl⟩)
end
section
variable {prog : Program} {w : World} {A : Around} {E : Value → Shared → Prop} {s : Shared}
def upto : Nat → Nat → List UInt8
  | _, 0 => []
  | a, n + 1 => a.toUInt8 :: upto (a + 1) n
theorem upto_length : ∀ n a, (upto a n).length = n
  | 0, _ => rfl
  | n + 1, a => by rw [upto, List.length_cons, upto_length n]
theorem br_loop {R : Result → Shared → Prop} {I S : Addr} (hh : A.handled = none) (hIS : I ≠ S) (n : Nat) (hn : n ≤ 256) :
    ∀ (k i : Nat) (s : Shared) (acc : List UInt8), i + k = n → acc.length = i → IsRangeIter s.heap I i k 1 → s.heap.get? S = some { cls := .type "bytearray", data := .bytearray ⟨acc⟩ } →
      (∀ h' t k', (∀ b o, b ≠ I → b ≠ S → s.heap.get? b = some o → h'.get? b = some o) → R (.ok (.ret (.bytes ⟨acc ++ upto i k⟩ t))) { s with heap := h', toks := k' }) →
      codeAny (model prog w) A (.builtin "bytes.__new__.loop" ⟨[.type "bytes", .ref I, .ref S], []⟩) R s := by
  intro k
  induction k with
  | zero =>
    intro i s acc hk hl hit hS hR
    refine codeAny_builtin F.bm_entry_loop ?_
    rw [Around.under_plainId F.bm_plain_loop _]
    show wpAny _ A.in1 (pyNext (.ref I) >>= _) _ _ s
    refine wpAny_bind (wpAny_pyNext_range_end hh hit (by simp) fun h' he => ?_)
    have hS' : h'.get? S = some { cls := .type "bytearray", data := .bytearray ⟨acc⟩ } := he S _ (Ne.symm hIS) hS
    refine wpAny_bind ?_
    unfold Builtin.Bytes.payload Builtin.Bytes.payload?
    refine wpAny_bind (wpAny_bind (wpAny_load hS' ?_))
    refine wpAny_pure (wpAny_pure ?_)
    refine wpAny_bind (wpAny_mkBytes ?_ (by show acc.length ≤ sizeLine; rw [sizeLine_eq]; omega))
    show wpAny _ _ (if (Value.type "bytes" == Value.type "bytes") = true then _ else _) _ _ _
    refine bm_if_true (by decide) ?_
    have hR' := hR h' s.toks (s.toks + 1) fun b o hb _ e => he b o hb e
    rw [upto, List.append_nil] at hR'
    first
      | exact wpAny_pure hR'
      | exact wpAny_bind (wpAny_pure (wpAny_pure hR'))
  | succ k ih =>
    intro i s acc hk hl hit hS hR
    refine codeAny_builtin F.bm_entry_loop ?_
    rw [Around.under_plainId F.bm_plain_loop _]
    show wpAny _ A.in1 (pyNext (.ref I) >>= _) _ _ s
    refine wpAny_bind (wpAny_pyNext_range_item hit (by omega) fun h' hit' hs => ?_)
    have hS' : h'.get? S = some { cls := .type "bytearray", data := .bytearray ⟨acc⟩ } := (hs.2 S (Ne.symm hIS)).trans hS
    refine wpAny_bind (wpAny_holding (wpAny_of_eq (rfl : asIndex (.int (i : Int) s.toks) = pure (i : Int)) ?_))
    refine wpAny_bind (wpAny_letGo ?_)
    refine bm_if_false (by simp only [Bool.or_eq_false_iff, decide_eq_false_iff_not]; omega) ?_
    refine wpAny_bind ?_
    refine ba_write (s := { s with heap := h', toks := s.toks + 1 }) (l := ⟨acc⟩) hS' (by rw [Array.size_push]; show acc.length + 1 ≤ sizeLine; rw [sizeLine_eq]; omega) fun h₂ e₂ s₂ => ?_
    have e₃ : h₂.get? S = some { cls := .type "bytearray", data := .bytearray ⟨acc ++ [i.toUInt8]⟩ } := by
      have z : (⟨acc⟩ : Array UInt8).push ((i : Int).toNat.toUInt8) = ⟨acc ++ [i.toUInt8]⟩ := by simp
      rw [z] at e₂; exact e₂
    refine wpAny_pure ⟨plainId_quiet F.bm_plain_loop _, ih (i + 1) _ (acc ++ [i.toUInt8]) (by omega) (by rw [List.length_append, hl]; rfl) ?_ e₃ fun h3 t' k' hk3 => ?_⟩
    · have := (s₂.2 I hIS).trans hit'
      have z1 : ((i : Int) + 1) = ((i + 1 : Nat) : Int) := by omega
      have z2 : (((k + 1 : Nat) : Int) - 1) = ((k : Nat) : Int) := by omega
      rw [z1, z2] at this
      exact this
    · have := hR h3 t' k' fun b o hbI hbS e => hk3 b o hbI hbS ((s₂.2 b hbS).trans ((hs.2 b hbI).trans e))
      rw [upto] at this
      rw [List.append_assoc]
      exact this
theorem bytes_rng {l : Addr} {n : Nat} {t u v : Tok} {Q : Value → Shared → Prop} (hh : A.handled = none) (e : s.heap.get? l = some { cls := .type "range", data := .fields #[.int 0 t, .int n u, .int 1 v] }) (hz : n ≤ 256) (hsm : Builtin.Range.small 0 n 1 = true) (hrs : Builtin.Range.rangeSize 0 n 1 = n)
    (hQ : ∀ h' t k, (∀ b o, s.heap.get? b = some o → h'.get? b = some o) → Q (.bytes ⟨upto 0 n⟩ t) { s with heap := h', toks := k }) :
    wpAny (model prog w) A (call (.type "bytes") [.ref l]) Q E s := by
  have hT : s.TypeIs (.ref l) "range" := ⟨_, e, rfl⟩
  have no_bytes : typeLookup (.type "range") "__bytes__" = pure none := by rw [typeLookup_type, builtinLookup_eq_fast]; kernel_rfl
  have noindex : typeLookup (.type "range") "__index__" = pure none := by rw [typeLookup_type, builtinLookup_eq_fast]; kernel_rfl
  have no_buffer : typeLookup (.type "range") "__buffer__" = pure none := by rw [typeLookup_type, builtinLookup_eq_fast]; kernel_rfl
  refine callType_codes (Q₁ := fun obj s₁ => s₁.TypeIs obj "bytes" ∧ Q obj s₁) F.bm_called (F.bm_typeCall _) F.entry_object_init ?_ fun obj s₁ h₁ => ?_
  · refine codeAny_of_tree ?_
    show wpAny _ A.in1.in1 (do checkBuiltinCall "bytes.__new__" ⟨[.type "bytes", .ref l], []⟩; again (.builtin "bytes.__new__" ⟨[.type "bytes", .ref l], []⟩)) _ _ s
    refine wpAny_bind (wpAny_of_eq (F.bm_newCall _) (wpAny_pure ⟨plainId_quiet F.bm_plain _, codeAny_builtin F.bm_entry ?_⟩))
    rw [Around.under_plainId F.bm_plain _]
    unfold Builtin.«bytes.__new__»
    refine wpAny_bind (wpAny_of_eq (a := true) rfl ?_)
    refine bm_if_false rfl ?_
    refine wpAny_bind (wpAny_of_eq F.bm_sub ?_)
    refine bm_if_false rfl ?_
    refine wpAny_bind (wpAny_of_eq (F.bm_bind _) ?_)
    refine wpAny_bind (wpAny_of_eq (a := ()) rfl ?_)
    refine wpAny_bind (wpAny_of_eq (a := ()) rfl ?_)
    refine bm_if_false rfl ?_
    refine wpAny_bind (wpAny_specialOf hT no_bytes ?_)
    refine wpAny_bind (wpAny_bind ?_)
    show wpAny _ _ (load l >>= _) _ _ _
    refine wpAny_bind (wpAny_load e ?_)
    refine wpAny_pure (wpAny_pure ?_)
    refine bm_if_false rfl ?_
    refine wpAny_bind (wpAny_specialOf hT noindex ?_)
    refine bm_if_true rfl ?_
    first
      | show wpAny _ _ (Builtin.Bytes.buffer? "bytes.__new__" (.ref l) true >>= _) _ _ _
      | (refine wpAny_bind ?_; show wpAny _ _ (Builtin.Bytes.buffer? "bytes.__new__" (.ref l) true >>= _) _ _ _)
    refine wpAny_bind ?_
    unfold Builtin.Bytes.buffer?
    refine wpAny_bind (wpAny_specialOf hT no_buffer ?_)
    refine wpAny_bind (wpAny_specialOf hT no_buffer ?_)
    refine wpAny_pure ?_
    refine wpAny_bind (wpAny_tryCatch (wpAny_pyIter_range e hsm ?_))
    rw [hrs]
    have e₁ : (s.heap.push { cls := .type "range_iterator", data := .fields #[rawInt 0, rawInt n, rawInt 1] }).get? l = some { cls := .type "range", data := .fields #[.int 0 t, .int n u, .int 1 v] } := Heap.get?_push_of_some _ e
    generalize hH : s.heap.push { cls := .type "range_iterator", data := .fields #[rawInt 0, rawInt n, rawInt 1] } = H at *
    have hT₁ : Shared.TypeIs { s with heap := H } (.ref l) "range" := ⟨_, e₁, rfl⟩
    have hsp : splitId "range.__len__" = some ("range", "__len__") := by decide +kernel
    have hsub : isSubtype (.type "range") (.type "range") = pure true := by rw [isSubtype_type]; kernel_rfl
    refine wpAny_bind (wpAny_holding ?_)
    unfold Builtin.Bytes.lengthHint
    refine wpAny_bind (wpAny_specialOf hT₁ F.slot_range_len.lookup ?_)
    dsimp only
    rw [hsp]
    dsimp only
    refine wpAny_bind (wpAny_isInstance hT₁ hsub ?_)
    refine bm_if_false rfl ?_
    refine bm_if_false (by decide +kernel) ?_
    refine bm_if_true rfl ?_
    refine wpAny_bind (wpAny_rule ?_)
    refine wpAny_bind (wpAny_attempt (call_len_range (s := { s with heap := H }) e₁ hrs (by omega) ?_))
    dsimp only
    refine wpAny_bind (wpAny_of_eq (a := some (n : Int)) rfl ?_)
    have tl : Builtin.Bytes.tooLong ((n : Int).toNat) = false := by unfold Builtin.Bytes.tooLong; rw [sizeLine_eq]; exact decide_eq_false (by omega)
    dsimp only
    rw [tl, if_neg Bool.false_ne_true]
    refine wpAny_pure ?_
    refine wpAny_bind ?_
    unfold Builtin.Bytes.newBytearray
    refine wpAny_newObj_type ?_ (Nat.zero_le _)
    have sz : H.objs.size = s.heap.objs.size + 1 := by rw [← hH, Heap.size_push]
    have hI : H.get? s.heap.objs.size = some { cls := .type "range_iterator", data := .fields #[rawInt 0, rawInt n, rawInt 1] } := by rw [← hH]; exact Heap.get?_push_size _ rfl
    have main := br_loop (prog := prog) (w := w) (A := A.in1) (R := wants (fun obj s₁ => s₁.TypeIs obj "bytes" ∧ Q obj s₁) E) (I := s.heap.objs.size) (S := H.objs.size) hh (by rw [sz]; exact Nat.ne_of_lt (Nat.lt_succ_self _)) n hz
      n 0 { s with heap := H.push { cls := .type "bytearray", data := .bytearray #[] }, toks := s.toks + 1 + 1 } [] (Nat.zero_add _) rfl (Heap.get?_push_of_some _ hI) (Heap.get?_push_size _ rfl)
      fun h' t k hk => ⟨PySem.W.typeIs_bytes _ _ _, hQ h' t k fun b o e => hk b o (Nat.ne_of_lt (Heap.lt_size e)) (by rw [sz]; exact Nat.ne_of_lt (Nat.lt_succ_of_lt (Heap.lt_size e))) (Heap.get?_push_of_some _ (by rw [← hH]; exact Heap.get?_push_of_some _ e))⟩
    first
      | exact wpAny_pure ⟨plainId_quiet F.bm_plain_loop _, main⟩
      | exact wpAny_pure (wpAny_pure ⟨plainId_quiet F.bm_plain_loop _, main⟩)
  · exact ⟨h₁.1, F.args_object_init_2 obj _, object_init_meets F.bm_called.init.lookup F.bm_called.made (by decide) prog w A.in1 _ s₁ ⟨h₁.1, rfl, h₁.2⟩⟩
end
end
section
section
variable {X : Fx} {σ : SS}
theorem SR.hideUp {ow : Addr → Prop} {ρ : List Addr} {h h' : Heap} (S : SR X ow ρ h σ) (new : List Addr) (up : ∀ b x, h.get? b = some x → h'.get? b = some x) (hn : ∀ a ∈ new, h.get? a = none ∧ ∃ o, h'.get? a = some o) : SR X (fun b => ow b ∨ b ∈ new) ρ h' σ ∧ Ex X ow ρ h (fun b => ow b ∨ b ∈ new) ρ h' := by
  have hp : ∀ b x, Pz h ow b x → Pz h' (fun b => ow b ∨ b ∈ new) b x := fun b x e => ⟨up b x e.1, fun q => q.elim e.2 fun q => no_get e.1 (hn b q).1⟩
  obtain ⟨mf, ml, F, n, c1, c2, l⟩ := S.fr
  refine ⟨⟨⟨mf, ml, ⟨by obtain ⟨o', es, ep, e, r⟩ := F.ns; exact ⟨o', es, ep, up _ _ e, r⟩, fun b o e => up b o (F.keep b o e), F.above⟩, by obtain ⟨o', es, ep, e, r⟩ := n; exact ⟨o', es, ep, up _ _ e, r⟩, c1, c2, fun x sv e => let ⟨v, e1, e2⟩ := l x sv e; ⟨v, e1, e2.mono hp (pfx ρ)⟩⟩,
    S.len, fun i a so e1 e2 => let ⟨ob, e3, e4⟩ := S.cel i a so e1 e2; ⟨ob, up _ _ e3, e4.mono hp (pfx ρ)⟩, S.nd, fun a ha => ⟨.inl (S.off a ha).1, (S.off a ha).2⟩, .inl S.owL, .inl S.owl, fun a q => ?_, S.var, fun a x e => hp a x (S.kf a x e)⟩,
    fun b q => .inl q, fun b q => q.imp id fun q => (hn b q).1, pfx ρ, fun b q => .inl q, fun b x e _ _ _ => up b x e, fun b x e => ⟨x, up b x e⟩⟩
  rcases q with q | q
  · obtain ⟨x, e⟩ := S.low a q; exact ⟨x, up a x e⟩
  · exact (hn a q).2
def enumItems : Int → List SV → List SV
  | _, [] => []
  | i, d :: ds => .tup [.int i, d] :: enumItems (i + 1) ds
def enumD (as : List AV) (k : List SV → Prop) : Prop := match as with
  | [.v (.lst l)] => k (enumItems 0 l)
  | _ => False
theorem JS_ForEnum {ts : List Expr} {tk : Nat} {tp' : Pos} {x : Str} {px cpos : Pos} {e : Expr} {body : List Stmt} {pos : Pos} {K : SF → SS → Prop} (O : X.Ok) (hs : noStar [e] = true)
    (h : JE X (.Name x px) σ fun fv σ₁ => fv = .v (.ty .enumerate) ∧ JL X cpos [e] σ₁ fun as σ₂ => enumD as fun its => JFor X (.Tuple ts tk tp') body its σ₂ K) : JS X (.For (.Tuple ts tk tp') (.Call (.Name x px) [e] [] cpos) body [] pos) σ K := by
  intro ow ρ s S Q E q
  refine wpAny_For (Call_ (h ow ρ s S _ _ fun a sa σ₁ ow₁ ρ₁ h₁ tk₁ e₁ S₁ r₁ k₁ => ?_)) (fun _ => rfl)
  obtain ⟨rfl, k₁⟩ := k₁
  cases r₁.inv
  refine PyProof.Rows.callWith_type1 (k₁ ow₁ ρ₁ { s with heap := h₁, toks := tk₁ } S₁ _ _ fun vs as σ₂ ow₂ ρ₂ h₂ tk₂ e₂ S₂ r₂ k₂ => ?_) (starEach_cons hs) (noStar_plain (noStar_tail hs))
  replace k₂ : enumD as fun its => JFor X (.Tuple ts tk tp') body its σ₂ K := k₂
  unfold enumD at k₂
  split at k₂
  · rename_i l
    cases r₂ with | cons r rs => cases rs with | nil =>
    obtain ⟨la, vs, n, rfl, el, rl⟩ := lst_of r.inv
    have nla : ¬ ow₂ la := by cases r.inv with | lst p _ => exact p.2
    refine call_enumerate_1 (s := { s with heap := h₂, toks := tk₂ }) el fun h₃ he hit hsz up => ?_
    dsimp only at he hit hsz up
    generalize hI : h₂.objs.size = I at *
    have nI : h₂.get? I = none := by rw [← hI]; exact none_size h₂
    have nE : h₂.get? (I + 1) = none := Heap.get?_none_of_le (by rw [hI]; exact Nat.le_succ I)
    obtain ⟨oi, hoi, _⟩ := id hit
    obtain ⟨S₃, e₃⟩ := S₂.hideUp [I, I + 1] up (fun a m => by
      rcases List.mem_cons.mp m with rfl | m
      · exact ⟨nI, oi, hoi⟩
      · rw [List.mem_singleton.mp m]; exact ⟨nE, _, he⟩)
    refine wpAny_pyIter_enum (s := { s with heap := h₃, toks := tk₂ }) he ?_
    have fr : ∀ a, h₂.get? a = none → ¬ ow₂ a ∧ a ≠ X.L ∧ a ≠ X.env.locals ∧ X.h₀.get? a = none ∧ a ∉ ρ₂ := fun a na => by
      have no : ¬ ow₂ a := fun z => let ⟨_, e⟩ := S₂.low _ z; no_get e na
      refine ⟨no, fun z => no (z ▸ S₂.owL), fun z => no (z ▸ S₂.owl), ?_, fun m => no (S₂.off _ m).1⟩
      obtain ⟨mf, _, F, _⟩ := S₂.fr
      cases z : X.h₀.get? a with
      | none => rfl
      | some o => exact no_get (F.keep _ _ z) na
    have laI : la ≠ I := fun z => no_get el (z ▸ nI)
    have laE : la ≠ I + 1 := fun z => no_get el (z ▸ nE)
    have EI : I + 1 ≠ I := Nat.succ_ne_self I
    let Inv : Nat → Shared → Prop := fun n' s' => ∃ i ow' ρ' σ' h' tk' old, n' = l.length - i ∧ i ≤ l.length ∧ s' = { s with heap := h', toks := tk' } ∧ SR X ow' ρ' h' σ' ∧ Ex X ow₂ ρ₂ h₂ ow' ρ' h' ∧ (IsEnum h' (I + 1) I ((i : Nat) : Int) old ∧ h'.IsListIter I la i) ∧ (ow' I ∧ ow' (I + 1)) ∧ (I ∉ ρ' ∧ I + 1 ∉ ρ') ∧ JFor X (.Tuple ts tk tp') body (enumItems i (l.drop i)) σ' K
    refine codeAny_forLoop_any Inv (fun n' s' hI' => ?_) l.length ⟨0, _, _, _, _, _, _, rfl, Nat.zero_le _, rfl, S₃, e₃, ⟨he, hit⟩, ⟨.inr (.head _), .inr (.tail _ (.head _))⟩, ⟨(fr I nI).2.2.2.2, (fr (I + 1) nE).2.2.2.2⟩, k₂⟩
    obtain ⟨i, ow', ρ', σ', h', tk', old, hn, hle, rfl, S', e', ⟨he', hit'⟩, ⟨oI, oE⟩, ⟨mI, mE⟩, jf⟩ := hI'
    have gl : h'.get? la = some (listOf vs.toArray n) := e'.keep _ _ el (fun m => nla (S₂.off la m).1) (fun z => nla (z ▸ S₂.owl)) (fun z => nla (z ▸ S₂.owL))
    have hl' : h'.IsList la vs.toArray := ⟨_, gl, rfl, n, rfl⟩
    have hlen : vs.length = l.length := rl.length
    have hw : ∀ a ∈ [I, I + 1], ow' a ∧ h₂.get? a = none ∧ a ∉ ρ' ∧ a ≠ X.L ∧ a ≠ X.env.locals ∧ X.h₀.get? a = none := fun a m => by
      rcases List.mem_cons.mp m with rfl | m
      · have := fr a nI; exact ⟨oI, nI, mI, this.2.1, this.2.2.1, this.2.2.2.1⟩
      · rw [List.mem_singleton.mp m]; have := fr (I + 1) nE; exact ⟨oE, nE, mE, this.2.1, this.2.2.1, this.2.2.2.1⟩
    have fin : ∀ {fl sfl ow₄ ρ₄ h₄ tk₄ σ₄}, Ex X ow₂ ρ₂ h₂ ow₄ ρ₄ h₄ → SR X ow₄ ρ₄ h₄ σ₄ → RF X ow₄ ρ₄ h₄ fl sfl → K sfl σ₄ → Q fl { s with heap := h₄, toks := tk₄ } := fun ex S r k => q _ _ _ _ _ _ _ ((e₁.trans e₂).trans ex) S r k
    by_cases hlt : i < l.length
    · obtain ⟨v, hv⟩ : ∃ v, vs[i]? = some v := ⟨vs[i]'(by omega), List.getElem?_eq_getElem (by omega)⟩
      obtain ⟨d, hd, rv⟩ := rl.get' hv
      refine wpAny_pyNext_enum_item (s := { s with heap := h', toks := tk' }) he' hit' hl' (x := v) (by simpa using hv) EI fun h₄ heo hit₄ ht₄ hz₄ hk₄ => ?_
      dsimp only at heo ht₄ hz₄ hk₄ ⊢
      refine wpAny_letOwnedTupleGo_enum (s := { s with heap := h₄, toks := tk' + 1 }) heo fun h₅ he₅ hs₅ => ?_
      dsimp only at hs₅ ⊢
      have aI : h'.objs.size ≠ I := fun z => by obtain ⟨o, e, _⟩ := hit'; exact no_get e (z ▸ none_size h')
      have aE : h'.objs.size ≠ I + 1 := fun z => no_get he' (z ▸ none_size h')
      have kp : ∀ b o, b ∉ [I, I + 1] → h'.get? b = some o → h₅.get? b = some o := fun b o nb e => by
        have b1 : b ≠ I := fun z => nb (z ▸ .head _)
        have b2 : b ≠ I + 1 := fun z => nb (z ▸ .tail _ (.head _))
        exact (hs₅.2 b b2).trans (hk₄ b o b2 b1 e)
      have hit₅ : h₅.IsListIter I la (i + 1) := hit₄.extBut hs₅.extBut (Ne.symm EI)
      obtain ⟨S₅, e₅⟩ := S'.hid e' (h' := h₅) kp hw (fun _ z => z) (fun _ z => .inl z) (fun b _ m => by
        rcases List.mem_cons.mp m with rfl | m
        · obtain ⟨o, e, _⟩ := hit₅; exact ⟨o, e⟩
        · rw [List.mem_singleton.mp m]; exact ⟨_, he₅⟩)
      have ht₅ : h₅.get? h'.objs.size = some (tupObj [.int (i : Int) tk', v] 0) := (hs₅.2 _ aE).trans ht₄
      have na : ¬ ow' h'.objs.size := fun z => let ⟨_, e⟩ := S'.low _ z; no_get e (none_size h')
      have dr : l.drop i = d :: l.drop (i + 1) := by rw [List.drop_eq_getElem_cons hlt, (List.getElem?_eq_some_iff.mp hd).2]
      rw [dr] at jf
      have rv' : AR (Pz h₅ ow') X.w ρ' (.ref h'.objs.size) (.v (.tup [.int i, d])) := .v (.tup ⟨ht₅, na⟩ (.cons (.int _ _) (.cons (S₂.vr e₅ rv) .nil)))
      have keepSt : ∀ {ow₆ ρ₆ h₆}, Ex X ow' ρ' h₅ ow₆ ρ₆ h₆ → (IsEnum h₆ (I + 1) I ((i : Int) + 1) v ∧ h₆.IsListIter I la (i + 1)) ∧ (ow₆ I ∧ ow₆ (I + 1)) ∧ (I ∉ ρ₆ ∧ I + 1 ∉ ρ₆) := fun {ow₆ ρ₆ h₆} ex => by
        obtain ⟨o, eo, r⟩ := hit₅
        exact ⟨⟨ex.keep _ _ he₅ mE (fr _ nE).2.2.1 (fr _ nE).2.1, o, ex.keep _ _ eo mI (fr _ nI).2.2.1 (fr _ nI).2.1, r⟩, ⟨ex.own _ oI, ex.own _ oE⟩, fun m => (ex.fresh _ m).elim mI fun z => no_get eo z, fun m => (ex.fresh _ m).elim mE fun z => no_get he₅ z⟩
      refine jf ow' ρ' { s with heap := h₅, toks := tk' + 1 } _ S₅ rv' _ _ fun _ _ σ₆ ow₆ ρ₆ h₆ tk₆ e₆ S₆ _ k₆ => ?_
      refine k₆ ow₆ ρ₆ { s with heap := h₆, toks := tk₆ } S₆ _ _ fun f sf σ₇ ow₇ ρ₇ h₇ tk₇ e₇ S₇ r₇ k₇ => ?_
      have e67 := e₆.trans e₇
      obtain ⟨⟨a1, a2⟩, a3, a4⟩ := keepSt e67
      have e27 := e₅.trans e67
      have z1 : ((i : Int) + 1) = ((i + 1 : Nat) : Int) := by omega
      rw [z1] at a1 k₇
      cases r₇ with
      | next => exact ⟨l.length - (i + 1), by omega, i + 1, ow₇, ρ₇, σ₇, h₇, tk₇, _, rfl, hlt, rfl, S₇, e27, ⟨a1, a2⟩, a3, a4, k₇⟩
      | cont => exact ⟨l.length - (i + 1), by omega, i + 1, ow₇, ρ₇, σ₇, h₇, tk₇, _, rfl, hlt, rfl, S₇, e27, ⟨a1, a2⟩, a3, a4, k₇⟩
      | brk => exact fin e27 S₇ .next k₇
      | ret r => exact fin e27 S₇ (.ret r) k₇
    · obtain rfl : i = l.length := by omega
      rw [List.drop_length] at jf
      refine wpAny_pyNext_enum_end (s := { s with heap := h', toks := tk' }) (ktr_handled X) he' hit' hl' (by simp [hlen]) fun h₄ he₄ => ?_
      dsimp only at he₄ ⊢
      obtain ⟨S₄, e₄⟩ := S'.hid e' (h' := h₄) (ow' := fun b => ow' b ∧ b ≠ I) (wr := [I]) (fun b o nb e => he₄ b o (fun z => nb (z ▸ .head _)) e) (fun a m => by rw [List.mem_singleton.mp m]; exact hw I (.head _)) (fun _ z => z.1) (fun b z => by
        by_cases hb : b = I
        · subst hb; have := fr b nI; exact .inr ⟨mI, this.2.1, this.2.2.1, this.1⟩
        · exact .inl ⟨z, hb⟩) (fun b z m => absurd (List.mem_singleton.mp m) z.2)
      exact wpAny_execs_nil (fin e₄ S₄ .next jf)
  · exact k₂.elim
theorem JS_Try {body : List Stmt} {h0 : ExceptHandler} {hs : List ExceptHandler} {pos : Pos} {K : SF → SS → Prop} (h : JB X body σ K) : JS X (.Try body (h0 :: hs) [] [] pos) σ K := by
  intro ow ρ s S Q E q
  refine wpAny_Try_except (h ow ρ s S _ _ fun a sa σ₁ ow₁ ρ₁ h₁ tk₁ e₁ S₁ r₁ k₁ => ?_)
  have := q a sa σ₁ ow₁ ρ₁ h₁ tk₁ e₁ S₁ r₁ k₁
  cases r₁ with
  | next => exact wpAny_execs_nil this
  | brk => exact this
  | cont => exact this
  | ret r => exact this
end
end
section
section
variable {X : Fx} {σ : SS} {K : AV → SS → Prop}
def idxOf (x : Int) : List Int → Option Nat
  | [] => none
  | y :: r => match decide (y = x) with
    | true => some 0
    | false => match idxOf x r with
      | some n => some (n + 1)
      | none => none
theorem idxOf_some {x : Int} : ∀ {l : List Int} {j : Nat}, idxOf x l = some j → l[j]? = some x ∧ ∀ i < j, l[i]? ≠ some x
  | [], j, e => by cases e
  | y :: r, j, e => by
    unfold idxOf at e
    split at e
    · rename_i h
      cases e
      exact ⟨by rw [of_decide_eq_true h]; rfl, fun i h => absurd h (Nat.not_lt_zero _)⟩
    · rename_i h
      have h := of_decide_eq_false h
      split at e
      · rename_i n q
        cases e
        obtain ⟨a, b⟩ := idxOf_some q
        refine ⟨a, fun i hi => ?_⟩
        cases i with
        | zero => intro z; exact h (Option.some.inj z)
        | succ i => exact b i (Nat.lt_of_succ_lt_succ hi)
      · cases e
def idxD (as : List AV) (k : SV → Prop) : Prop := match as with
  | [.v (.tup l), .v (.int x)] => (match intsOf l with
    | some ns => (match idxOf x ns with | some j => k (.int j) | none => False)
    | none => False)
  | _ => False
theorem run_index {as : List AV} (h : idxD as fun v => K (.v v) σ) : JCall X (.builtin "tuple.index") as σ K := by
  intro ow ρ s vs S R Q E q
  unfold idxD at h
  split at h
  · split at h
    · rename_i l x ns e
      split at h
      · rename_i j ej
        cases R with | cons r rs => cases rs with | cons r2 rs => cases rs with | nil =>
        obtain ⟨a, vs, n, rfl, e1, r1⟩ := tup_of r.inv
        obtain ⟨t, rfl⟩ := r2.inv.int_inv
        obtain ⟨h1, h2⟩ := idxOf_some ej
        refine wpAny_call_entry PySem.F.slot_tuple_index ⟨_, e1, rfl⟩ PySem.F.entry_tuple_index ?_ (PySem.F.args_tuple_index_2 _ _)
        exact index_go e1 (intsOf_ok r1 e) h1 h2 fun tk => ⟨_, rfl, ansV S (.int _ _) h q⟩
      · exact h.elim
    · exact h.elim
  · exact h.elim
def bytesR (a : SV) (k : SV → Prop) : Prop := match a with
  | .rng 0 (.ofNat n) 1 => Gd (Nat.ble n 256 && Builtin.Range.small 0 (.ofNat n) 1 && decide (Builtin.Range.rangeSize 0 (.ofNat n) 1 = .ofNat n)) (k (.bytes (upto 0 n)))
  | _ => False
theorem bytesR_ok {a : SV} (h : bytesR a fun v => K (.v v) σ) : JCall X (.type "bytes") [.v a] σ K := by
  intro ow ρ s vs S R Q E q
  cases R with | cons r rs => cases rs with | nil =>
  unfold bytesR at h
  split at h
  · rename_i n
    obtain ⟨g, h⟩ := h.out
    obtain ⟨g, g3⟩ := Bool.and_eq_true_iff.mp g
    obtain ⟨g1, g2⟩ := Bool.and_eq_true_iff.mp g
    cases r.inv with
    | rng p =>
      exact bytes_rng (n := n) rfl p.1 (Nat.le_of_ble_eq_true g1) g2 (of_decide_eq_true g3) fun h' t k hk => q _ _ σ ow ρ h' k (.grow hk) (S.grow hk) (.v (.bytes _ _)) h
  · exact h.elim
def bytesC (i : Nat) (σ : SS) (k : SV → Prop) : Prop := match σ.cel[i]? with
  | some (.barr l) => Gd (Nat.ble l.length 1000) (k (.bytes l))
  | _ => False
theorem bytesC_ok {i : Nat} (h : bytesC i σ fun v => K (.v v) σ) : JCall X (.type "bytes") [.c i] σ K := by
  intro ow ρ s vs S R Q E q
  cases R with | cons r rs => cases rs with | nil =>
  cases r with | c hr =>
  unfold bytesC at h
  split at h
  · rename_i l hl
    obtain ⟨g, h⟩ := h.out
    obtain ⟨ob, e1, e2⟩ := S.cel _ _ _ hr hl
    cases e2 with | barr =>
    exact bytes_ba e1 (Nat.le_of_ble_eq_true g) fun t k => q _ _ σ ow ρ s.heap k .refl S (.v (.bytes _ _)) h
  · exact h.elim
def setBa (a i : AV) (v : SV) (σ : SS) (k : SS → Prop) : Prop := match a with
  | .c n => (match σ.cel[n]? with
    | some (.barr l) => (match i, v with
      | .v (.int (.ofNat j)), .int x => Gd (Nat.blt j l.length && Nat.ble l.length 1000 && b256 x) (k ⟨σ.loc, σ.cel.set n (.barr (l.set j x.toNat.toUInt8))⟩)
      | _, _ => False)
    | _ => False)
  | _ => False
theorem setBa_ok {a i : AV} {v : SV} {K : SS → Prop} (h : setBa a i v σ K) : JSetI X a i (.v v) σ K := by
  intro ow ρ s va vi vv S ra ri rv Q E q
  replace rv := rv.inv
  unfold setBa at h
  split at h
  · split at h
    · rename_i l hl
      split at h
      · rename_i j x
        obtain ⟨g, h⟩ := h.out
        obtain ⟨g, g3⟩ := Bool.and_eq_true_iff.mp g
        obtain ⟨g1, g2⟩ := Bool.and_eq_true_iff.mp g
        have g1 := Nat.le_of_ble_eq_true g1
        have g2 := Nat.le_of_ble_eq_true g2
        unfold b256 at g3
        obtain ⟨g3, g4⟩ := Bool.and_eq_true_iff.mp g3
        cases ra with | c hr =>
        obtain ⟨u, rfl⟩ := ri.inv.int_inv
        obtain ⟨t, rfl⟩ := rv.int_inv
        obtain ⟨ob, e1, e2⟩ := S.cel _ _ _ hr hl
        cases e2 with | barr =>
        refine setItem_ba e1 (by simp) (by show ((j : Nat) : Int) < ((l.length : Nat) : Int); omega) g2 (of_decide_eq_true g3) (of_decide_eq_true g4) fun h' e' hs => ?_
        have e : (⟨l⟩ : Array UInt8).setIfInBounds (Int.ofNat j).toNat x.toNat.toUInt8 = ⟨l.set j x.toNat.toUInt8⟩ := by
          show (l.toArray).setIfInBounds j x.toNat.toUInt8 = (l.set j x.toNat.toUInt8).toArray
          simp
        rw [e] at e'
        obtain ⟨S', ex⟩ := S.setCell hr hs e' (.barr)
        exact q () () _ _ _ _ s.toks ex S' trivial h
      · exact h.elim
    · exact h.elim
  · exact h.elim
def baD (as : List AV) (σ : SS) (K : AV → SS → Prop) : Prop := match as with
  | [.v (.int n)] => Gd (decide (0 ≤ n) && decide (n ≤ 1000)) (K (.c σ.cel.length) ⟨σ.loc, σ.cel ++ [.barr (List.replicate n.toNat 0)]⟩)
  | _ => False
theorem baD_ok {as : List AV} (h : baD as σ K) : JCallG X (.type "bytearray") as σ K := by
  intro ow ρ s vs S R Q q
  unfold baD at h
  split at h
  · rename_i n
    obtain ⟨g, h⟩ := h.out
    obtain ⟨g1, g2⟩ := Bool.and_eq_true_iff.mp g
    cases R with | cons r rs => cases rs with | nil =>
    obtain ⟨t, rfl⟩ := r.inv.int_inv
    refine call_bytearray (of_decide_eq_true g1) (of_decide_eq_true g2) fun h' e' up => ?_
    have er : (Array.replicate n.toNat (0 : UInt8)) = ⟨List.replicate n.toNat 0⟩ := by simp
    rw [er] at e'
    have nz := none_size s.heap
    have pf : ρ <+: ρ ++ [s.heap.objs.size] := List.prefix_append _ _
    obtain ⟨S', e₁⟩ := S.hideUp [s.heap.objs.size] up (fun a m => by rw [List.mem_singleton.mp m]; exact ⟨nz, _, e'⟩)
    have no : ¬ ow s.heap.objs.size := fun z => let ⟨_, e⟩ := S.low _ z; no_get e nz
    have nr : s.heap.objs.size ∉ ρ := fun m => no (S.off _ m).1
    have hp : ∀ b x, Pz h' (fun b => ow b ∨ b ∈ [s.heap.objs.size]) b x → Pz h' (fun b => ow b ∨ b ∈ [s.heap.objs.size]) b x := fun _ _ x => x
    refine q _ (.c σ.cel.length) _ (fun b => ow b ∨ b ∈ [s.heap.objs.size]) (ρ ++ [s.heap.objs.size]) h' s.toks ⟨e₁.own, e₁.new, pf, fun b hb => ?_, e₁.keep, e₁.live⟩ ?_ (.c ?_) h
    · rcases List.mem_append.mp hb with m | m
      · exact .inl m
      · rw [List.mem_singleton.mp m]; exact .inr nz
    · obtain ⟨mf, ml, F, n₀, c1, c2, l⟩ := S'.fr
      have hz : X.h₀.get? s.heap.objs.size = none := by
        obtain ⟨mf, _, F, _⟩ := S.fr
        cases z : X.h₀.get? s.heap.objs.size with
        | none => rfl
        | some o => exact no_get (F.keep _ _ z) nz
      refine ⟨⟨mf, ml, F, n₀, c1, c2, fun x sv e => let ⟨v, e1, e2⟩ := l x sv e; ⟨v, e1, e2.mono hp pf⟩⟩, by rw [List.length_append, List.length_append, S.len]; rfl, fun i a so e1 e2 => ?_, ?_, fun a ha => ?_, S'.owL, S'.owl, S'.low, fun x i e => ?_, S'.kf⟩
      · by_cases hi : i < ρ.length
        · rw [List.getElem?_append_left hi] at e1
          rw [List.getElem?_append_left (S.len ▸ hi)] at e2
          obtain ⟨ob, e3, e4⟩ := S'.cel i a so e1 e2
          exact ⟨ob, e3, e4.mono hp pf⟩
        · rw [List.getElem?_append_right (Nat.le_of_not_lt hi)] at e1
          rw [List.getElem?_append_right (S.len ▸ Nat.le_of_not_lt hi), ← S.len] at e2
          cases hj : i - ρ.length with
          | zero => rw [hj] at e1 e2; cases e1; cases e2; exact ⟨_, e', .barr⟩
          | succ j => rw [hj] at e1; cases e1
      · rw [List.nodup_append]
        exact ⟨S.nd, by simp, fun a ha b hb e => nr (by rw [List.mem_singleton.mp hb] at e; exact e ▸ ha)⟩
      · rcases List.mem_append.mp ha with m | m
        · exact S'.off a m
        · rw [List.mem_singleton.mp m]
          exact ⟨.inr (.head _), hz, fun z => no (z ▸ S.owL), fun z => no (z ▸ S.owl)⟩
      · obtain ⟨c, f1, f2⟩ := S'.var x i e
        exact ⟨c, f1, by rw [List.getElem?_append_left (List.getElem?_eq_some_iff.mp f2).1]; exact f2⟩
    · rw [← S.len, List.getElem?_append_right (Nat.le_refl _), Nat.sub_self]; rfl
  · exact h.elim
structure ClsOk (w : World) (C fI : Addr) : Prop where
  m : makesIn (tp.heap_1 w.params) C = true
  i : findIn (tp.heap_1 w.params) (.ref C) "__init__" = some (some (.ref fI))
  f : typeIn (tp.heap_1 w.params) (.ref fI) = some (.type "function")
def clsS (sp : Spec) (C : Addr) (as : List AV) (σ : SS) (K : AV → SS → Prop) : Prop := Gd (plains as) (sp (.c 0 :: as) [.inst C 1, .idict []] fun r cel' => match r with
  | .none => (match cel' with
    | [.inst C' j', .idict fs'] => Gd (Nat.beq C C' && Nat.beq j' 1) (K (.c (σ.cel.length + 1)) ⟨σ.loc, σ.cel ++ [.idict fs', .inst C σ.cel.length]⟩)
    | _ => False)
  | _ => False)
theorem under_cls (A : Around) (C : Addr) (rest : List Value) : A.under (.builtin "type.__call__" ⟨.ref C :: rest, []⟩) = { A with depth := A.depth + 1, units := A.units + 1 } := by
  obtain ⟨hd, d, fr, gs, u⟩ := A
  rfl
theorem JCall_cls (O : X.Ok) {C fI : Addr} {D U : Nat} {sp : Spec} (c : ClsOk X.w C fI) (hf : FnOkC X.w fI D U sp) (hD : D + 1 ≤ X.D) (hU : U + 1 ≤ X.U) {as : List AV} (h : clsS sp C as σ K) : JCall X (.ref C) as σ K := by
  intro ow ρ s vs S R Q E q
  obtain ⟨g, h⟩ := h.out
  obtain ⟨S₁, e₁⟩ := S.cellPush (o := dictOf [] 0) (so := .idict []) rfl (.idict .nil)
  have room := O.room
  have units := O.units
  obtain ⟨hh, gg, dd, tt, oo⟩ := s
  dsimp only at S S₁ e₁ R ⊢
  have hix : (ρ ++ [hh.objs.size])[σ.cel.length]? = some hh.objs.size := by rw [← S.len, List.getElem?_append_right (Nat.le_refl _), Nat.sub_self]; rfl
  obtain ⟨S₂, e₂⟩ := S₁.cellPush (o := instObj C hh.objs.size) (so := .inst C σ.cel.length) rfl (.inst hix)
  have e₁₂ := e₁.trans e₂
  have sz : (hh.push (dictOf [] 0)).objs.size = hh.objs.size + 1 := Heap.size_push ..
  rw [sz] at S₂ e₂ e₁₂
  refine wpAny_call (make_core (makes_of S.kin c.m) (looks_findIn S.kin c.i) (fun self => bind_fn S.kin self c.f) (.inl rfl) ?_)
  show codeAny _ (X.A.under (.builtin "type.__call__" ⟨.ref C :: vs, []⟩)) _ _ _
  rw [under_cls]
  generalize hX : ({ X with dp := X.dp + 1, un := X.un + 1, D := X.D - 1, U := X.U - 1 } : Fx) = X'
  have O' : X'.Ok := by
    subst hX
    exact { below := O.below, K := O.K, T := O.T, ck := O.ck, kind := O.kind, glob := O.glob, bins := O.bins, here := O.here, there := O.there, room := (by dsimp only; omega), units := (by dsimp only; omega) }
  have S' : SR X' (fun b => (ow b ∨ b = hh.objs.size) ∨ b = hh.objs.size + 1) ((ρ ++ [hh.objs.size]) ++ [hh.objs.size + 1]) ((hh.push (dictOf [] 0)).push (instObj C hh.objs.size)) ⟨σ.loc, σ.cel ++ [.idict []] ++ [.inst C σ.cel.length]⟩ := by
    subst hX
    exact ⟨S₂.fr, S₂.len, S₂.cel, S₂.nd, S₂.off, S₂.owL, S₂.owl, S₂.low, S₂.var, S₂.kf⟩
  have hA : X'.A = { X.A with depth := X.A.depth + 1, units := X.A.units + 1 } ∧ X'.w = X.w ∧ X'.dp = X.dp + 1 ∧ X'.un = X.un + 1 := by subst hX; exact ⟨rfl, rfl, rfl, rfl⟩
  obtain ⟨hA, hw, hdp, hun⟩ := hA
  rw [← hA]
  have gx : ((hh.push (dictOf [] 0)).push (instObj C hh.objs.size)).get? (hh.objs.size + 1) = some (instObj C hh.objs.size) := by rw [← sz]; exact Heap.get?_push_size _ rfl
  have gd : ((hh.push (dictOf [] 0)).push (instObj C hh.objs.size)).get? hh.objs.size = some (dictOf [] 0) := Heap.get?_push_of_some _ (Heap.get?_push_size _ rfl)
  have ne : hh.objs.size + 1 ≠ hh.objs.size := Nat.succ_ne_self _
  refine codeAny_mono (hf X' O' hw (by rw [hdp]; omega) (by rw [hun]; omega) _ _ _ _ S' [hh.objs.size + 1, hh.objs.size] [.inst C 1, .idict []] _ (.c 0 :: as) _ (by simp [ne]) (fun a m => ?_) ⟨rfl, fun k a o f1 f2 => ?_⟩ (.cons (.c rfl) ((S.ars e₁₂ R).plain g)) h (fun v s' => InitBack (hh.objs.size + 1) (fun r s' => match r with | .ok (.ret v) => Q v s' | .ok _ => False | .error e => E e s') (.ok (.ret v)) s') E fun v r cel' h' tk' kp lv Cc rv k => ?_) fun r s' z => ?_
  · rcases List.mem_cons.mp m with rfl | m
    · exact List.mem_append_right _ (.head _)
    · rw [List.mem_singleton.mp m]; exact List.mem_append_left _ (List.mem_append_right _ (.head _))
  · match k, f1, f2 with
    | 0, f1, f2 => cases f1; cases f2; exact ⟨_, gx, .inst rfl⟩
    | 1, f1, f2 => cases f1; cases f2; exact ⟨_, gd, .idict .nil⟩
    | k + 2, f1, f2 => cases f1
  · split at k
    · split at k
      · rename_i C' j' fs'
        obtain ⟨g3, k'⟩ := k.out
        obtain ⟨g3, g4⟩ := Bool.and_eq_true_iff.mp g3
        obtain rfl := Nat.eq_of_beq_eq_true g3
        obtain rfl := Nat.eq_of_beq_eq_true g4
        cases rv
        refine ⟨rfl, ?_⟩
        obtain ⟨ob0, e7, e8⟩ := Cc.at' 0 _ _ rfl rfl
        obtain ⟨ob1, e9, e10⟩ := Cc.at' 1 _ _ rfl rfl
        have sub : ∀ b ∈ [hh.objs.size + 1, hh.objs.size], b ∈ (ρ ++ [hh.objs.size]) ++ [hh.objs.size + 1] := fun b m => by
          rcases List.mem_cons.mp m with rfl | m
          · exact List.mem_append_right _ (.head _)
          · rw [List.mem_singleton.mp m]; exact List.mem_append_left _ (List.mem_append_right _ (.head _))
        have lenA : (ρ ++ [hh.objs.size]).length = ρ.length + 1 := by rw [List.length_append]; rfl
        have jx : ((ρ ++ [hh.objs.size]) ++ [hh.objs.size + 1])[σ.cel.length]? = some hh.objs.size := by
          rw [List.getElem?_append_left (by rw [lenA, S.len]; exact Nat.lt_succ_self _)]; exact hix
        obtain ⟨S₃, e₃⟩ := S₂.turn O (σc := σ.cel ++ [.idict fs', .inst C σ.cel.length]) [hh.objs.size + 1, hh.objs.size] sub kp lv (by simp [S.len]) fun i a o f1 f2 => by
          by_cases hi : i < ρ.length
          · have f1' : ρ[i]? = some a := by
              rw [List.getElem?_append_left (by rw [lenA]; omega), List.getElem?_append_left hi] at f1; exact f1
            rw [List.getElem?_append_left (S.len ▸ hi)] at f2
            obtain ⟨ob, e3, e4⟩ := S.cel i a o f1' f2
            have al := Heap.lt_size e3
            have na : a ∉ [hh.objs.size + 1, hh.objs.size] := fun m => by
              rcases List.mem_cons.mp m with z | m
              · rw [z] at al; exact absurd al (Nat.not_lt.mpr (Nat.le_succ _))
              · rw [List.mem_singleton.mp m] at al; exact Nat.lt_irrefl _ al
            have up : ∀ b o, Pz hh ow b o → Pz h' (fun b => (ow b ∨ b = hh.objs.size) ∨ b = hh.objs.size + 1) b o := fun b o p => by
              have bl := Heap.lt_size p.1
              refine ⟨kp b o (Heap.get?_push_of_some _ (Heap.get?_push_of_some _ p.1)) fun m => ?_, fun z => z.elim (fun z => z.elim p.2 fun z => ?_) fun z => ?_⟩
              · rcases List.mem_cons.mp m with z | m
                · rw [z] at bl; exact absurd bl (Nat.not_lt.mpr (Nat.le_succ _))
                · rw [List.mem_singleton.mp m] at bl; exact Nat.lt_irrefl _ bl
              · rw [z] at bl; exact Nat.lt_irrefl _ bl
              · rw [z] at bl; exact absurd bl (Nat.not_lt.mpr (Nat.le_succ _))
            exact ⟨ob, kp a ob (Heap.get?_push_of_some _ (Heap.get?_push_of_some _ e3)) na, e4.mono up ((List.prefix_append _ _).trans (List.prefix_append _ _))⟩
          · rw [List.getElem?_append_right (by rw [← S.len]; omega), ← S.len] at f2
            by_cases hi2 : i = ρ.length
            · subst hi2
              rw [List.getElem?_append_left (by rw [lenA]; omega), List.getElem?_append_right (Nat.le_refl _), Nat.sub_self] at f1
              rw [Nat.sub_self] at f2
              cases f1; cases f2
              exact ⟨ob1, e9, by cases e10 with | idict r => exact .idict r⟩
            · by_cases hi3 : i = ρ.length + 1
              · subst hi3
                rw [List.getElem?_append_right (by rw [lenA]; exact Nat.le_refl _), lenA, Nat.sub_self] at f1
                have z : ρ.length + 1 - ρ.length = 1 := by omega
                rw [z] at f2
                cases f1; cases f2
                exact ⟨ob0, e7, by cases e8 with | inst hq => cases hq; exact .inst (S.len ▸ jx)⟩
              · have z := (List.getElem?_eq_some_iff.mp f1).1
                rw [List.length_append, lenA] at z
                simp at z; omega
        refine q _ _ _ _ _ h' tk' (e₁₂.trans e₃) S₃ (.c ?_) k'
        rw [← S.len, List.getElem?_append_right (by rw [lenA]; exact Nat.le_refl _), lenA, Nat.sub_self]; rfl
      · exact k.elim
    · exact k.elim
  · rcases r with e | (v | _ | _ | _) <;> first | exact z | exact z.elim
end
end
section
structure Ct where
  names : List (Str × NameKind)
  vid : List (Str × Nat)
  mu : List Nat
  comp : Bool
structure Tb where
  glob : List (Str × SV)
  fn : List (Nat × Spec)
  fnG : List (Nat × Spec) := []
  cls : List (Nat × Spec) := []
  field : List (Nat × Str)
  meth : List ((Nat × Str) × Nat)
noncomputable def glk (x : Str) : List (Str × SV) → Option SV
  | [] => none
  | p :: r => match Fast.sEq x p.1 with
    | true => some p.2
    | false => glk x r
def fnk (a : Nat) : List (Nat × Spec) → Option Spec
  | [] => none
  | p :: r => match Nat.beq a p.1 with
    | true => some p.2
    | false => fnk a r
noncomputable def fieldk (C : Nat) (x : Str) : List (Nat × Str) → Bool
  | [] => false
  | p :: r => match Nat.beq C p.1 && Fast.sEq x p.2 with
    | true => true
    | false => fieldk C x r
noncomputable def methk (C : Nat) (x : Str) : List ((Nat × Str) × Nat) → Option Nat
  | [] => none
  | p :: r => match Nat.beq C p.1.1 && Fast.sEq x p.1.2 with
    | true => some p.2
    | false => methk C x r
inductive Tk where
  | e (e : Expr) (σ : SS) (K : AV → SS → Prop)
  | t (e : Expr) (σ : SS) (K : Bool → SS → Prop)
  | tl (op : BoolOp) (es : List Expr) (σ : SS) (K : Bool → SS → Prop)
  | l (pos : Pos) (es : List Expr) (σ : SS) (K : List AV → SS → Prop)
  | s (st : Stmt) (σ : SS) (K : SF → SS → Prop)
  | b (sts : List Stmt) (σ : SS) (K : SF → SS → Prop)
  | a (t : Expr) (v : AV) (σ : SS) (K : SS → Prop)
  | as (ts : List Expr) (vs : List AV) (σ : SS) (K : SS → Prop)
  | f (target : Expr) (body : List Stmt) (its : List SV) (σ : SS) (K : SF → SS → Prop)
  | w (test : Expr) (body : List Stmt) (σ : SS) (K : SF → SS → Prop)
  | c (x : Str) (ifs : List Expr) (elt : Expr) (its acc : List SV) (cel : List SObj) (K : List SV → List SObj → Prop)
abbrev Run := Ct → Tk → Prop
def forceL {α : Type} : List α → (List α → Prop) → Prop
  | [], k => k []
  | a :: l, k => forceL l fun l' => k (a :: l')
theorem forceL_eq {α : Type} : ∀ (l : List α) (k : List α → Prop), forceL l k = k l
  | [], k => rfl
  | a :: l, k => forceL_eq l fun l' => k (a :: l')
def forceP : List (Str × AV) → (List (Str × AV) → Prop) → Prop
  | [], k => k []
  | (x, v) :: l, k => forceP l fun l' => k ((x, v) :: l')
theorem forceP_eq : ∀ (l : List (Str × AV)) (k : List (Str × AV) → Prop), forceP l k = k l
  | [], k => rfl
  | (x, v) :: l, k => forceP_eq l fun l' => k ((x, v) :: l')
def forceO (o : SObj) (k : SObj → Prop) : Prop := match o with
  | .barr l => forceL l fun l => k (.barr l)
  | o => k o
theorem forceO_eq (o : SObj) (k : SObj → Prop) : forceO o k = k o := by
  cases o <;> first | rfl | exact forceL_eq _ _
def forceC : List SObj → (List SObj → Prop) → Prop
  | [], k => k []
  | o :: l, k => forceO o fun o => forceC l fun l' => k (o :: l')
theorem forceC_eq : ∀ (l : List SObj) (k : List SObj → Prop), forceC l k = k l
  | [], k => rfl
  | o :: l, k => (forceO_eq o _).trans (forceC_eq l _)
def forceS (σ : SS) (k : SS → Prop) : Prop := match σ with
  | ⟨loc, cel⟩ => forceP loc fun loc => forceC cel fun cel => k ⟨loc, cel⟩
theorem forceS_eq (σ : SS) (k : SS → Prop) : forceS σ k = k σ := (forceP_eq _ _).trans (forceC_eq _ _)
structure Hold (p : Prop) : Prop where
  out : p
def constE (c : Const) (σ : SS) (K : AV → SS → Prop) : Prop := match c with
  | .int i => K (.v (.int i)) σ
  | .str x => K (.v (.str x)) σ
  | .none => K (.v .none) σ
  | .bool b => K (.v (.bool b)) σ
  | .bytes x => K (.v (.bytes x)) σ
  | _ => False
noncomputable def captD (x : Str) (C : Ct) (σ : SS) (k : AV → Prop) : Prop := match lkN x C.vid with
  | some i => (match σ.cel[i]? with | some (.vcell v) => k v | _ => False)
  | none => False
noncomputable def nameE (T : Tb) (C : Ct) (x : Str) (σ : SS) (K : AV → SS → Prop) : Prop := Gd (!(x == ("__debug__" : Str)) && !(x == ("__classdict__" : Str))) (match nlk x C.names with
  | some .local => (match lk x σ.loc with | some v => K v σ | none => False)
  | some .cell => captD x C σ fun v => K v σ
  | some .free => captD x C σ fun v => K v σ
  | some .globalImplicit => (match glk x T.glob with | some v => K (.v v) σ | none => False)
  | _ => False)
noncomputable def storD (C : Ct) (x : Str) (v : AV) (σ : SS) (k : SS → Prop) : Prop := match nlk x C.names with
  | some .local => k ⟨(x, v) :: σ.loc, σ.cel⟩
  | some .cell => (match lkN x C.vid with
    | some i => (match σ.cel[i]? with
      | some .vnone => k ⟨σ.loc, σ.cel.set i (.vcell v)⟩
      | some (.vcell _) => k ⟨σ.loc, σ.cel.set i (.vcell v)⟩
      | _ => False)
    | none => False)
  | _ => False
noncomputable def storsD (C : Ct) : List Str → List AV → SS → (SS → Prop) → Prop
  | [], [], σ, k => k σ
  | x :: xs, v :: vs, σ, k => storD C x v σ fun σ₁ => storsD C xs vs σ₁ k
  | _, _, _, _ => False
def itD (a : AV) (k : List SV → Prop) : Prop := match a with
  | .v (.lst l) => k l
  | .v (.tup l) => k l
  | .v (.bytes l) => k (bytesInts l)
  | .v (.rng a b c) => Gd (Builtin.Range.small a b c && decide (0 ≤ Builtin.Range.rangeSize a b c)) (k (rngItems a c (Builtin.Range.rangeSize a b c).toNat))
  | _ => False
def mutB (p : Pos) : List Nat → Bool
  | [] => false
  | n :: r => match Nat.beq n (p.line * 1000 + p.col) with
    | true => true
    | false => mutB p r
def partE (r : Run) (C : Ct) (o : Option Expr) (σ : SS) (K : Option Int → SS → Prop) : Prop := match o with
  | none => K none σ
  | some e => r C (.e e σ fun a σ₁ => intD a fun i => K (some i) σ₁)
def appD (i : Nat) (d : SV) (σ : SS) (K : AV → SS → Prop) : Prop := match σ.cel[i]? with
  | some (.lst l) => Gd (Nat.ble l.length 1000) (K (.v .none) ⟨σ.loc, σ.cel.set i (.lst (l ++ [d]))⟩)
  | _ => False
def extD (i : Nat) (l2 : List SV) (σ : SS) (K : AV → SS → Prop) : Prop := match σ.cel[i]? with
  | some (.lst l) => Gd (Nat.ble (l.length + l2.length) 1000) (K (.v .none) ⟨σ.loc, σ.cel.set i (.lst (l ++ l2))⟩)
  | _ => False
noncomputable def lmethD (r : Run) (C : Ct) (name : Str) (i : Nat) (pos : Pos) (args : List Expr) (σ : SS) (K : AV → SS → Prop) : Prop := match Fast.sEq name "append" with
  | true => r C (.l pos args σ fun as σ₂ => match as with | [.v d] => appD i d σ₂ K | _ => False)
  | false => (match Fast.sEq name "extend" with
    | true => r C (.l pos args σ fun as σ₂ => match as with | [.v (.lst l)] => extD i l σ₂ K | _ => False)
    | false => False)
noncomputable def getmD (l : List (SV × SV)) (as : List AV) (σ : SS) (K : AV → SS → Prop) : Prop := match as with
  | [.v (.str x), .v d] => (match dlkS x l with | some o => K (.v (o.getD d)) σ | none => False)
  | _ => False
noncomputable def umethD (T : Tb) (r : Run) (C : Ct) (name : Str) (a : AV) (Cc : Addr) (pos : Pos) (args : List Expr) (σ : SS) (K : AV → SS → Prop) : Prop := match methk Cc name T.meth with
  | some f => (match fnk f T.fn with
    | some sp => (match args with
      | [] => callS sp [a] σ K
      | args => r C (.l pos args σ fun as σ₂ => callS sp (a :: as) σ₂ K))
    | none => False)
  | none => False
def hasArgs : List Expr → Bool
  | [] => false
  | _ => true
noncomputable def methE (T : Tb) (r : Run) (C : Ct) (name : Str) (a : AV) (pos : Pos) (args : List Expr) (isN : Bool) (σ : SS) (K : AV → SS → Prop) : Prop := match a with
  | .c i => (match σ.cel[i]? with
    | some (.lst _) => Gd (hasArgs args) (lmethD r C name i pos args σ K)
    | _ => Gd isN (methD name a σ fun Cc => umethD T r C name a Cc pos args σ K))
  | .v (.dic l) => Gd (hasArgs args && Fast.sEq name "get") (r C (.l pos args σ fun as σ₂ => getmD l as σ₂ K))
  | .v (.bytes []) => Gd (hasArgs args && Fast.sEq name "join") (r C (.l pos args σ fun as σ₂ => joinD as fun v => K (.v v) σ₂))
  | .v (.tup l) => Gd (hasArgs args && Fast.sEq name "index") (r C (.l pos args σ fun as σ₂ => idxD (.v (.tup l) :: as) fun v => K (.v v) σ₂))
  | _ => False
def tyE (t : Ty) (as : List AV) (σ : SS) (K : AV → SS → Prop) : Prop := match t, as with
  | .bytes, [.v (.rng a b c)] => bytesR (.rng a b c) fun v => K (.v v) σ
  | .bytes, [.c i] => bytesC i σ fun v => K (.v v) σ
  | t, as => tyD t as σ fun v => K (.v v) σ
noncomputable def applyE (T : Tb) (r : Run) (C : Ct) (fv : AV) (pos : Pos) (args : List Expr) (σ : SS) (K : AV → SS → Prop) : Prop := match fv with
  | .v (.ref f) => (match fnk f T.fn with
    | some sp => (match args with
      | [] => callS sp [] σ K
      | args => r C (.l pos args σ fun as σ₂ => callS sp as σ₂ K))
    | none => (match fnk f T.cls with
      | some sp => Gd (hasArgs args) (r C (.l pos args σ fun as σ₂ => clsS sp f as σ₂ K))
      | none => False))
  | .v (.bi b) => Gd (hasArgs args) (r C (.l pos args σ fun as σ₂ => biD b as fun v => K (.v v) σ₂))
  | .v (.ty t) => Gd (hasArgs args) (r C (.l pos args σ fun as σ₂ => tyE t as σ₂ K))
  | _ => False
noncomputable def callE (T : Tb) (r : Run) (C : Ct) (f : Expr) (args : List Expr) (pos : Pos) (σ : SS) (K : AV → SS → Prop) : Prop := match f with
  | .Name x _ => Gd (noStar args) (nameE T C x σ fun fv σ₁ => applyE T r C fv pos args σ₁ K)
  | .Attribute o name apos => Gd (mOk args apos pos && isBase o) (r C (.e o σ fun a σ₁ => methE T r C name a pos args (match o with | .Name _ _ => true | _ => false) σ₁ K))
  | _ => False
def isSetE : Expr → Bool
  | .Set _ _ _ => true
  | _ => false
noncomputable def compCt (C : Ct) (sc : Scope) : Ct := ⟨relN C.names sc.names, vidC sc.names C.vid, C.mu, true⟩
noncomputable def compE (r : Run) (C : Ct) (elt : Expr) (gens : List Comprehension) (sc : Scope) (σ : SS) (K : List SV → SS → Prop) : Prop := match gens with
  | [⟨.Name x _, iter, ifs, isa⟩] => Gd (!C.comp && scopeOk sc x && freesOk sc.names C.vid && decide (isa = 0) && !isSetE iter) (r C (.e iter σ fun a σ₁ => itD a fun its => Gd (Nat.ble its.length 16384) (Hold (r (compCt C sc) (.c x ifs elt its [] σ₁.cel fun acc cel => K acc ⟨σ₁.loc, cel⟩)))))
  | _ => False
noncomputable def cmpE (r : Run) (C : Ct) (l : Expr) (ops : List CmpOp) (rs : List Expr) (σ : SS) (K : AV → SS → Prop) : Prop := match ops, rs with
  | [op], [x] => Gd (!behindInMarks op x) (r C (.e l σ fun a σ₁ => r C (.e x σ₁ fun b σ₂ => cmpD op a b fun v => K (.v v) σ₂)))
  | _, _ => False
noncomputable def subE (r : Run) (C : Ct) (value slice : Expr) (σ : SS) (K : AV → SS → Prop) : Prop := match slice with
  | .Slice lo hi none _ => r C (.e value σ fun a σ₁ => partE r C lo σ₁ fun i σ₂ => partE r C hi σ₂ fun j σ₃ => sliD a i j fun v => K (.v v) σ₃)
  | .Slice _ _ _ _ => False
  | slice => r C (.e value σ fun a σ₁ => r C (.e slice σ₁ fun i σ₂ => getD a i σ₂ fun v => K (.v v) σ₂))
noncomputable def attrE (T : Tb) (C : Ct) (o : Expr) (attr : Str) (σ : SS) (K : AV → SS → Prop) : Prop := match o with
  | .Name x _ => nameE T C x σ fun a σ₁ => attD attr a σ₁ fun Cc d => Gd (fieldk Cc attr T.field && !isBi d) (K (.v d) σ₁)
  | _ => False
def orE (r : Run) (C : Ct) (op : BoolOp) (vs : List Expr) (σ : SS) (K : AV → SS → Prop) : Prop := match op, vs with
  | .Or, [a, b] => r C (.e a σ fun v σ₁ => truD v fun c => Br c (K v σ₁) (r C (.e b σ₁ K)))
  | _, _ => False
def unE (r : Run) (C : Ct) (op : UnaryOp) (x : Expr) (σ : SS) (K : AV → SS → Prop) : Prop := match op with
  | .Not => r C (.e x σ fun v σ₁ => truD v fun b => K (.v (.bool (!b))) σ₁)
  | .USub => r C (.e x σ fun v σ₁ => intD v fun i => K (.v (.int (-i))) σ₁)
  | _ => False
noncomputable def dictE (ks : List (Option Expr)) (vs : List Expr) (σ : SS) (K : AV → SS → Prop) : Prop := match constD ks vs with
  | some l => Gd (nodupB (l.map (·.1)) && Nat.ble l.length 15 && Nat.ble 1 l.length) (K (.v (.dic (l.map fun p => (.str p.1, p.2)))) σ)
  | none => False
def binX (op : Operator) (a b : AV) (σ : SS) (K : AV → SS → Prop) : Prop := match b with
  | .c i => (match op, a with
    | .Add, .v (.lst x) => (match σ.cel[i]? with | some (.lst l) => Gd (Nat.ble (x.length + l.length) 1000) (K (.v (.lst (x ++ l))) σ) | _ => False)
    | _, _ => False)
  | b => binD op a b fun v => K (.v v) σ
noncomputable def stE (T : Tb) (r : Run) (C : Ct) (e : Expr) (σ : SS) (K : AV → SS → Prop) : Prop := match e with
  | .Constant c _ _ => constE c σ K
  | .Name x _ => nameE T C x σ K
  | .BinOp l op x _ => r C (.e l σ fun a σ₁ => r C (.e x σ₁ fun b σ₂ => binX op a b σ₂ K))
  | .Compare l ops rs _ => cmpE r C l ops rs σ K
  | .UnaryOp op x _ => unE r C op x σ K
  | .IfExp t a b _ => r C (.t t σ fun c σ₁ => Br c (r C (.e a σ₁ K)) (r C (.e b σ₁ K)))
  | .BoolOp op vs _ => orE r C op vs σ K
  | .Tuple es _ pos => r C (.l pos es σ fun l σ₁ => AllV l fun l => K (.v (.tup l)) σ₁)
  | .List es pos => (match mutB pos C.mu with
    | true => r C (.l pos es σ fun l σ₁ => AllV l fun l => K (.c σ₁.cel.length) ⟨σ₁.loc, σ₁.cel ++ [.lst l]⟩)
    | false => r C (.l pos es σ fun l σ₁ => AllV l fun l => K (.v (.lst l)) σ₁))
  | .Dict ks vs _ => dictE ks vs σ K
  | .Subscript v i _ => subE r C v i σ K
  | .Attribute o attr _ => attrE T C o attr σ K
  | .Call f args kws pos => (match kws with | [] => callE T r C f args pos σ K | _ => False)
  | .ListComp elt gens sc _ => compE r C elt gens sc σ fun acc σ₁ => K (.v (.lst acc)) σ₁
  | _ => False
noncomputable def chainE (r : Run) (C : Ct) (l : Expr) (ops : List CmpOp) (rs : List Expr) (σ : SS) (K : Bool → SS → Prop) : Prop := match ops, rs with
  | [op], [x] => Gd (!behindInMarks op x) (r C (.e l σ fun a σ₁ => r C (.e x σ₁ fun b σ₂ => cmpD op a b fun c => truD (.v c) fun t => K t σ₂)))
  | [op, op'], [x, x'] => Gd (!behindInMarks op' x') (r C (.e l σ fun a σ₁ => r C (.e x σ₁ fun b σ₂ => cmpD op a b fun c => truD (.v c) fun t => Br t (r C (.e x' σ₂ fun d σ₃ => cmpD op' b d fun e => truD (.v e) fun t' => K t' σ₃)) (K false σ₂))))
  | _, _ => False
def plainT : Expr → Bool
  | .UnaryOp .Not _ _ => false
  | .BoolOp _ _ _ => false
  | .IfExp _ _ _ _ => false
  | .Compare _ _ _ _ => false
  | _ => true
noncomputable def stT (r : Run) (C : Ct) (e : Expr) (σ : SS) (K : Bool → SS → Prop) : Prop := match e with
  | .UnaryOp .Not x _ => r C (.t x σ fun b σ₁ => K (!b) σ₁)
  | .BoolOp op vs _ => r C (.tl op vs σ K)
  | .Compare l ops rs _ => chainE r C l ops rs σ K
  | e => Gd (plainT e) (r C (.e e σ fun v σ₁ => truD v fun b => K b σ₁))
def stTL (r : Run) (C : Ct) (op : BoolOp) (es : List Expr) (σ : SS) (K : Bool → SS → Prop) : Prop := match es with
  | [] => K (match op with | .And => true | .Or => false) σ
  | x :: rest => r C (.t x σ fun b σ₁ => match op with | .And => Br b (r C (.tl op rest σ₁ K)) (K false σ₁) | .Or => Br b (K true σ₁) (r C (.tl op rest σ₁ K)))
def stL (r : Run) (C : Ct) (pos : Pos) (es : List Expr) (σ : SS) (K : List AV → SS → Prop) : Prop := match es with
  | [] => K [] σ
  | e :: es => Gd (noStar (e :: es)) (r C (.e e σ fun a σ₁ => r C (.l pos es σ₁ fun as σ₂ => K (a :: as) σ₂)))
def stB (r : Run) (C : Ct) (sts : List Stmt) (σ : SS) (K : SF → SS → Prop) : Prop := match sts with
  | [] => K .next σ
  | st :: rest => r C (.s st σ fun f σ₁ => forceS σ₁ fun σ₁ => match f with | .next => r C (.b rest σ₁ K) | f => K f σ₁)
def setX (a i : AV) (v : SV) (σ : SS) (k : SS → Prop) : Prop := match a with
  | .c n => (match σ.cel[n]? with
    | some (.barr _) => setBa a i v σ k
    | _ => setItD a i v σ k)
  | _ => False
noncomputable def stA (T : Tb) (r : Run) (C : Ct) (t : Expr) (v : AV) (σ : SS) (K : SS → Prop) : Prop := match t with
  | .Name x _ => storD C x v σ K
  | .Tuple ts _ _ => (match v with | .v (.tup l) => Gd (Nat.beq ts.length l.length && noStar ts) (r C (.as ts (l.map .v) σ K)) | _ => False)
  | .Attribute o attr _ => r C (.e o σ fun a σ₁ => asV v fun d => setD attr a d σ₁ fun Cc σ₂ => Gd (fieldk Cc attr T.field) (K σ₂))
  | .Subscript o i _ => r C (.e o σ fun a σ₁ => r C (.e i σ₁ fun b σ₂ => asV v fun d => setX a b d σ₂ K))
  | _ => False
def stAs (r : Run) (C : Ct) (ts : List Expr) (vs : List AV) (σ : SS) (K : SS → Prop) : Prop := match ts, vs with
  | [], [] => K σ
  | t :: ts, v :: vs => Gd (noStar (t :: ts)) (r C (.a t v σ fun σ₁ => r C (.as ts vs σ₁ K)))
  | _, _ => False
noncomputable def asgTup (r : Run) (C : Ct) (ts : List Expr) (k : Nat) (tp : Pos) (value : Expr) (σ : SS) (K : SF → SS → Prop) : Prop := match value with
  | .Tuple vs _ vp => (match swapNs C.names ts vs with
    | some ns => r C (.l vp vs σ fun l σ₁ => Gd (Nat.beq ns.length l.length && Nat.ble l.length 1000) (storsD C ns.reverse l.reverse σ₁ fun σ₂ => K .next σ₂))
    | none => False)
  | value => Gd (!isComp value) (r C (.e value σ fun v σ₁ => r C (.a (.Tuple ts k tp) v σ₁ fun σ₂ => K .next σ₂)))
noncomputable def asgName (r : Run) (C : Ct) (x : Str) (px : Pos) (value : Expr) (σ : SS) (K : SF → SS → Prop) : Prop := match value with
  | .ListComp elt gens sc pos => Gd ((match nlk x C.names with | some .local => true | _ => false) && Nat.beq px.line pos.line && !(sc.names.any fun p => Fast.sEq p.1 x && (p.2 == .local || p.2 == .cell))) (compE r C elt gens sc σ fun acc σ₁ => K .next ⟨(x, .v (.lst acc)) :: σ₁.loc, σ₁.cel⟩)
  | value => Gd (!isComp value) (r C (.e value σ fun v σ₁ => storD C x v σ₁ fun σ₂ => K .next σ₂))
noncomputable def asgE (T : Tb) (r : Run) (C : Ct) (t : Expr) (value : Expr) (σ : SS) (K : SF → SS → Prop) : Prop := match t with
  | .Name x px => asgName r C x px value σ K
  | .Tuple ts k tp => asgTup r C ts k tp value σ K
  | .Attribute o attr _ => Gd (!isComp value) (r C (.e value σ fun v σ₁ => r C (.e o σ₁ fun a σ₂ => asV v fun d => setD attr a d σ₂ fun Cc σ₃ => Gd (fieldk Cc attr T.field) (K .next σ₃))))
  | .Subscript o i _ => Gd (!isComp value) (r C (.e value σ fun v σ₁ => r C (.e o σ₁ fun a σ₂ => r C (.e i σ₂ fun b σ₃ => asV v fun d => setX a b d σ₃ fun σ₄ => K .next σ₄))))
  | _ => False
noncomputable def augE (T : Tb) (r : Run) (C : Ct) (t : Expr) (op : Operator) (value : Expr) (σ : SS) (K : SF → SS → Prop) : Prop := match t, op with
  | .Attribute o attr _, .Add => r C (.e o σ fun a σ₁ => attD attr a σ₁ fun Cc old => Gd (fieldk Cc attr T.field && !isBi old) (r C (.e value σ₁ fun v σ₂ => intD (.v old) fun x => intD v fun y => setD attr a (.int (x + y)) σ₂ fun Cc' σ₃ => Gd (fieldk Cc' attr T.field) (K .next σ₃))))
  | _, _ => False
noncomputable def enumF (target iter : Expr) : Option (Str × Pos × Expr) := match target, iter with
  | .Tuple _ _ _, .Call (.Name x _) [e] [] cpos => (match Fast.sEq x "enumerate" with | true => some (x, cpos, e) | false => none)
  | _, _ => none
noncomputable def forE (T : Tb) (r : Run) (C : Ct) (target iter : Expr) (body : List Stmt) (σ : SS) (K : SF → SS → Prop) : Prop := match enumF target iter with
  | some (x, cpos, e) => Gd (noStar [e]) (nameE T C x σ fun fv σ₁ => match fv with
    | .v (.ty .enumerate) => r C (.l cpos [e] σ₁ fun as σ₂ => enumD as fun its => Hold (r C (.f target body its σ₂ K)))
    | _ => False)
  | none => Gd (!isSetE iter) (r C (.e iter σ fun a σ₁ => itD a fun its => Hold (r C (.f target body its σ₁ K))))
noncomputable def stS (T : Tb) (r : Run) (C : Ct) (st : Stmt) (σ : SS) (K : SF → SS → Prop) : Prop := match st with
  | .Expr e _ => Gd (!isComp e) (r C (.e e σ fun v σ₁ => match v with | .v .none => K .next σ₁ | _ => False))
  | .Return (some e) _ => r C (.e e σ fun v σ₁ => K (.ret v) σ₁)
  | .If t a b _ => r C (.t t σ fun c σ₁ => Br c (r C (.b a σ₁ K)) (r C (.b b σ₁ K)))
  | .Assign ts value _ => (match ts with | [t] => asgE T r C t value σ K | _ => False)
  | .AugAssign t op value _ => augE T r C t op value σ K
  | .For target iter body orelse _ => (match orelse with | [] => forE T r C target iter body σ K | _ => False)
  | .While test body orelse _ => (match orelse with | [] => Hold (r C (.w test body σ K)) | _ => False)
  | .Try body hs orelse final _ => (match hs, orelse, final with | _ :: _, [], [] => r C (.b body σ K) | _, _, _ => False)
  | .Pass _ => K .next σ
  | _ => False
def stF (r : Run) (C : Ct) (target : Expr) (body : List Stmt) (its : List SV) (σ : SS) (K : SF → SS → Prop) : Prop := match its with
  | [] => K .next σ
  | d :: ds => r C (.a target (.v d) σ fun σ₁ => r C (.b body σ₁ fun f σ₂ => match f with
    | .next => r C (.f target body ds σ₂ K)
    | .cont => r C (.f target body ds σ₂ K)
    | .brk => K .next σ₂
    | .ret v => K (.ret v) σ₂))
def stW (r : Run) (C : Ct) (test : Expr) (body : List Stmt) (σ : SS) (K : SF → SS → Prop) : Prop := r C (.t test σ fun b σ₁ => Br b (r C (.b body σ₁ fun f σ₂ => match f with
    | .next => r C (.w test body σ₂ K)
    | .cont => r C (.w test body σ₂ K)
    | .brk => K .next σ₂
    | .ret v => K (.ret v) σ₂)) (K .next σ₁))
def ifsE (r : Run) (C : Ct) (ifs : List Expr) (σ : SS) (K : Bool → SS → Prop) : Prop := match ifs with
  | [] => K true σ
  | [c] => r C (.t c σ K)
  | _ => False
def stC (r : Run) (C : Ct) (x : Str) (ifs : List Expr) (elt : Expr) (its acc : List SV) (cel : List SObj) (K : List SV → List SObj → Prop) : Prop := match its with
  | [] => K acc cel
  | d :: ds => ifsE r C ifs ⟨[(x, .v d)], cel⟩ fun b σ₁ => Br b (r C (.e elt σ₁ fun v σ₂ => asV v fun sv => r C (.c x ifs elt ds (acc ++ [sv]) σ₂.cel K))) (r C (.c x ifs elt ds acc σ₁.cel K))
noncomputable def step (T : Tb) (r : Run) (C : Ct) (t : Tk) : Prop := match t with
  | .e e σ K => stE T r C e σ K
  | .t e σ K => stT r C e σ K
  | .tl op es σ K => stTL r C op es σ K
  | .l pos es σ K => stL r C pos es σ K
  | .s st σ K => stS T r C st σ K
  | .b sts σ K => stB r C sts σ K
  | .a t v σ K => stA T r C t v σ K
  | .as ts vs σ K => stAs r C ts vs σ K
  | .f target body its σ K => stF r C target body its σ K
  | .w test body σ K => stW r C test body σ K
  | .c x ifs elt its acc cel K => stC r C x ifs elt its acc cel K
noncomputable def run (T : Tb) : Nat → Run
  | 0 => fun _ _ => False
  | n + 1 => fun C t => step T (run T n) C t
def Tk.sound (X : Fx) (n : Nat) : Tk → Prop
  | .e x σ K => JE X x σ K
  | .t x σ K => JT X x σ K
  | .tl op es σ K => JTL X op es σ K
  | .l pos es σ K => JL X pos es σ K
  | .s st σ K => JS X st σ K
  | .b sts σ K => JB X sts σ K
  | .a x v σ K => JA X x v σ K
  | .as ts vs σ K => JAs X ts vs σ K
  | .f target body its σ K => JFor X target body its σ K
  | .w test body σ K => JWh X test body n σ K
  | .c x ifs elt its acc cel K => JCmp X x ifs elt its acc cel K
structure AgC (X : Fx) (C : Ct) : Prop where
  names : X.env.scope.names = C.names
  vid : X.vid = C.vid
  comp : C.comp = false → X.comp = none
  quiet : interactive X.env = false
structure TbOk (w : World) (D U : Nat) (T : Tb) : Prop where
  glob : ∀ x sv, glk x T.glob = some sv → (∃ v, nsIn (tp.heap_1 w.params) mainGlobals x = some (some v) ∧ KV w v sv) ∨ (x ≠ "__name__" ∧ nsIn (tp.heap_1 w.params) mainGlobals x = some none ∧ ∃ v, bootBuiltins x = some v ∧ KV w v sv)
  fn : ∀ a sp, fnk a T.fn = some sp → (∃ D' U', FnOk w a D' U' sp ∧ D' ≤ D ∧ U' ≤ U) ∧ keepIn (tp.heap_1 w.params) (.ref a) = true
  fnG : ∀ a sp, fnk a T.fnG = some sp → (∃ D' U', FnOkG w a D' U' sp ∧ D' ≤ D ∧ U' ≤ U) ∧ keepIn (tp.heap_1 w.params) (.ref a) = true
  cls : ∀ a sp, fnk a T.cls = some sp → (∃ fI D' U', ClsOk w a fI ∧ FnOkC w fI D' U' sp ∧ D' + 1 ≤ D ∧ U' + 1 ≤ U) ∧ keepIn (tp.heap_1 w.params) (.ref a) = true
  field : ∀ C x, fieldk C x T.field = true → FieldOk w C x
  meth : ∀ C x f, methk C x T.meth = some f → MethOk w C x f
end
section
structure Ctx (T : Tb) (X : Fx) (C : Ct) : Prop where
  ok : X.Ok
  ag : AgC X C
  tb : TbOk X.w X.D X.U T
  u : 10 ≤ X.U
section
variable {X : Fx} {σ : SS} {T : Tb} {C : Ct} {r : Run} {n : Nat}
theorem Ctx.kind (c : Ctx T X C) (x : Str) : X.env.kindOf x = nlk x C.names := by unfold Env.kindOf; rw [c.ag.names, nlk_lookup]
theorem constE_ok {c : Const} {k : Nat} {pos : Pos} {K : AV → SS → Prop} (h : constE c σ K) : JE X (.Constant c k pos) σ K := by
  unfold constE at h
  split at h
  · exact JE_int h
  · exact JE_str h
  · exact JE_none h
  · exact JE_bool h
  · exact JE_bytes h
  · exact h.elim
theorem captD_out {x : Str} {k : AV → Prop} (c : Ctx T X C) (h : captD x C σ k) : ∃ i v, lkN x X.vid = some i ∧ σ.cel[i]? = some (.vcell v) ∧ k v := by
  unfold captD at h
  split at h
  · rename_i i e
    split at h
    · rename_i v e2; exact ⟨i, v, by rw [c.ag.vid]; exact e, e2, h⟩
    · exact h.elim
  · exact h.elim
theorem nameE_ok {x : Str} {pos : Pos} {K : AV → SS → Prop} (c : Ctx T X C) (h : nameE T C x σ K) : JE X (.Name x pos) σ K := by
  unfold nameE at h
  obtain ⟨g, h⟩ := h.out
  obtain ⟨g1, g2⟩ := Bool.and_eq_true_iff.mp g
  have g1 : (x == ("__debug__" : Str)) = false := by simpa using g1
  have g2 : (x == ("__classdict__" : Str)) = false := by simpa using g2
  split at h
  · rename_i e
    split at h
    · rename_i v e2; exact JE_local c.ok ((c.kind x).trans e) g1 e2 h
    · exact h.elim
  · rename_i e
    obtain ⟨i, v, e1, e2, k⟩ := captD_out c h
    exact JE_capt c.ok (.inl ((c.kind x).trans e)) g1 g2 e1 e2 k
  · rename_i e
    obtain ⟨i, v, e1, e2, k⟩ := captD_out c h
    exact JE_capt c.ok (.inr ((c.kind x).trans e)) g1 g2 e1 e2 k
  · rename_i e
    split at h
    · rename_i sv e2
      rcases c.tb.glob x sv e2 with ⟨v, e3, kv⟩ | ⟨hn, e3, v, e4, kv⟩
      · exact JE_glob c.ok ((c.kind x).trans e) g1 e3 kv h
      · exact JE_boot c.ok ((c.kind x).trans e) g1 hn e3 e4 kv h
    · exact h.elim
  · exact h.elim
theorem storD_ok {x : Str} {v : AV} {K : SS → Prop} (c : Ctx T X C) (h : storD C x v σ K) : JStore X x v σ K := by
  unfold storD at h
  split at h
  · rename_i e; exact JStore_loc c.ok ((c.kind x).trans e) h
  · rename_i e
    split at h
    · rename_i i e1
      split at h
      · rename_i e2; exact JStore_capt c.ok ((c.kind x).trans e) (by rw [c.ag.vid]; exact e1) e2 (.inl rfl) h
      · rename_i e2; exact JStore_capt c.ok ((c.kind x).trans e) (by rw [c.ag.vid]; exact e1) e2 (.inr ⟨_, rfl⟩) h
      · exact h.elim
    · exact h.elim
  · exact h.elim
theorem storsD_ok (c : Ctx T X C) : ∀ {ns : List Str} {vs : List AV} {σ : SS} {K : SS → Prop}, storsD C ns vs σ K → JNs X ns vs σ K
  | [], [], _, _, h => JNs_nil h
  | x :: xs, v :: vs, σ, K, h => JNs_cons (by
      have := storD_ok (X := X) c (show storD C x v σ fun σ₁ => storsD C xs vs σ₁ K from h)
      exact fun ow ρ s va S r => (this ow ρ s va S r).mono fun _ σ k => storsD_ok c k)
  | [], _ :: _, _, _, h => h.elim
  | _ :: _, [], _, _, h => h.elim
theorem itD_ok {a : AV} {k : List SV → Prop} (c : Ctx T X C) (h : itD a k) : ∃ its, Iters X a σ its ∧ k its := by
  unfold itD at h
  split at h
  · exact ⟨_, Iters_lst c.ok, h⟩
  · exact ⟨_, Iters_tup c.ok, h⟩
  · exact ⟨_, Iters_bytes c.ok, h⟩
  · obtain ⟨g, h⟩ := h.out
    obtain ⟨g1, g2⟩ := Bool.and_eq_true_iff.mp g
    exact ⟨_, Iters_rng c.ok g1 (of_decide_eq_true g2), h⟩
  · exact h.elim
abbrev Sound (T : Tb) (r : Run) (n : Nat) : Prop := ∀ X C t, Ctx T X C → r C t → t.sound X n
theorem Sound.e (hr : Sound T r n) (c : Ctx T X C) {e : Expr} {K : AV → SS → Prop} (h : r C (.e e σ K)) : JE X e σ K := hr X C _ c h
theorem Sound.t (hr : Sound T r n) (c : Ctx T X C) {e : Expr} {K : Bool → SS → Prop} (h : r C (.t e σ K)) : JT X e σ K := hr X C _ c h
theorem Sound.tl (hr : Sound T r n) (c : Ctx T X C) {op : BoolOp} {e : List Expr} {K : Bool → SS → Prop} (h : r C (.tl op e σ K)) : JTL X op e σ K := hr X C _ c h
theorem Sound.l (hr : Sound T r n) (c : Ctx T X C) {p : Pos} {e : List Expr} {K : List AV → SS → Prop} (h : r C (.l p e σ K)) : JL X p e σ K := hr X C _ c h
theorem Sound.s (hr : Sound T r n) (c : Ctx T X C) {e : Stmt} {K : SF → SS → Prop} (h : r C (.s e σ K)) : JS X e σ K := hr X C _ c h
theorem Sound.b (hr : Sound T r n) (c : Ctx T X C) {e : List Stmt} {K : SF → SS → Prop} (h : r C (.b e σ K)) : JB X e σ K := hr X C _ c h
theorem Sound.a (hr : Sound T r n) (c : Ctx T X C) {e : Expr} {v : AV} {K : SS → Prop} (h : r C (.a e v σ K)) : JA X e v σ K := hr X C _ c h
theorem Sound.as (hr : Sound T r n) (c : Ctx T X C) {e : List Expr} {v : List AV} {K : SS → Prop} (h : r C (.as e v σ K)) : JAs X e v σ K := hr X C _ c h
theorem attD_mono {name : Str} {a : AV} {k k' : Addr → SV → Prop} (h : attD name a σ k) (f : ∀ C d, k C d → k' C d) : attD name a σ k' := by
  cases a with
  | v x => exact h
  | c i =>
    have h : (match σ.cel[i]? with
      | some (.inst C j) => (match σ.cel[j]? with | some (.idict fs) => (match flk name fs with | some d => k C d | none => False) | _ => False)
      | _ => False) := h
    show (match σ.cel[i]? with
      | some (.inst C j) => (match σ.cel[j]? with | some (.idict fs) => (match flk name fs with | some d => k' C d | none => False) | _ => False)
      | _ => False)
    split at h
    · split at h
      · split at h
        · exact f _ _ h
        · exact h.elim
      · exact h.elim
    · exact h.elim
theorem setD_mono {name : Str} {a : AV} {v : SV} {k k' : Addr → SS → Prop} (h : setD name a v σ k) (f : ∀ C d, k C d → k' C d) : setD name a v σ k' := by
  cases a with
  | v x => exact h
  | c i =>
    have h : (match σ.cel[i]? with
      | some (.inst C j) => (match σ.cel[j]? with | some (.idict fs) => Gd (Nat.ble fs.length 900) (k C ⟨σ.loc, σ.cel.set j (.idict (fput name v fs))⟩) | _ => False)
      | _ => False) := h
    show (match σ.cel[i]? with
      | some (.inst C j) => (match σ.cel[j]? with | some (.idict fs) => Gd (Nat.ble fs.length 900) (k' C ⟨σ.loc, σ.cel.set j (.idict (fput name v fs))⟩) | _ => False)
      | _ => False)
    split at h
    · split at h
      · exact h.mono (f _ _)
      · exact h.elim
    · exact h.elim
theorem methD_mono {name : Str} {a : AV} {k k' : Addr → Prop} (h : methD name a σ k) (f : ∀ C, k C → k' C) : methD name a σ k' := by
  cases a with
  | v x => exact h
  | c i =>
    have h : (match σ.cel[i]? with
      | some (.inst C j) => (match σ.cel[j]? with | some (.idict fs) => (match flk name fs with | none => k C | some _ => False) | _ => False)
      | _ => False) := h
    show (match σ.cel[i]? with
      | some (.inst C j) => (match σ.cel[j]? with | some (.idict fs) => (match flk name fs with | none => k' C | some _ => False) | _ => False)
      | _ => False)
    split at h
    · split at h
      · split at h
        · exact f _ h
        · exact h.elim
      · exact h.elim
    · exact h.elim
theorem partE_ok (hr : Sound T r n) (c : Ctx T X C) {o : Option Expr} {K : Option Int → SS → Prop} (h : partE r C o σ K) : JPart X o σ K := by
  unfold partE at h
  split at h
  · exact JPart_none h
  · exact JPart_some (hr.e c h)
theorem J2.mono {f : Value → Value → Sem Value} {a b : AV} {K K' : AV → SS → Prop} (h : J2 X f a b σ K) (k : ∀ v σ, K v σ → K' v σ) : J2 X f a b σ K' := fun ow ρ s va vb S ra rb => (h ow ρ s va vb S ra rb).mono k
theorem JTr.mono {a : AV} {K K' : Bool → SS → Prop} (h : JTr X a σ K) (k : ∀ v σ, K v σ → K' v σ) : JTr X a σ K' := fun ow ρ s vs S ra => (h ow ρ s vs S ra).mono k
theorem cmpE_ok (hr : Sound T r n) (c : Ctx T X C) {l : Expr} {ops : List CmpOp} {rs : List Expr} {pos : Pos} {K : AV → SS → Prop} (h : cmpE r C l ops rs σ K) : JE X (.Compare l ops rs pos) σ K := by
  unfold cmpE at h
  split at h
  · obtain ⟨g, h⟩ := h.out
    exact JE_Compare (by simpa using g) ((hr.e c h).mono fun a σ₁ h => (hr.e c h).mono fun b σ₂ h => cmpD_ok c.ok c.u h)
  · exact h.elim
theorem chainE_ok (hr : Sound T r n) (c : Ctx T X C) {l : Expr} {ops : List CmpOp} {rs : List Expr} {pos : Pos} {K : Bool → SS → Prop} (h : chainE r C l ops rs σ K) : JT X (.Compare l ops rs pos) σ K := by
  unfold chainE at h
  split at h
  · obtain ⟨g, h⟩ := h.out
    exact JT_Compare (by simpa using g) ((hr.e c h).mono fun a σ₁ h => (hr.e c h).mono fun b σ₂ h => (cmpD_ok (K := fun v σ' => truD v fun t => K t σ') c.ok c.u h).mono fun v σ' k => truD_ok k)
  · obtain ⟨g, h⟩ := h.out
    refine JT_Chain (by simpa using g) ((hr.e c h).mono fun a σ₁ h => (hr.e c h).mono fun b σ₂ h => (cmpD_ok (K := fun v σ' => truD v fun t => Br t (r C (.e _ σ' fun d σ₃ => cmpD _ b d fun e => truD (.v e) fun t' => K t' σ₃)) (K false σ')) c.ok c.u h).mono fun v σ' k => (truD_ok (K := fun t σ' => Br t (r C (.e _ σ' fun d σ₃ => cmpD _ b d fun e => truD (.v e) fun t' => K t' σ₃)) (K false σ')) k).mono fun t σ₄ k => k.mono (fun k => ⟨rfl, ?_⟩) id)
    exact (hr.e c k).mono fun d σ₅ h => (cmpD_ok (K := fun v σ' => truD v fun t => K t σ') c.ok c.u h).mono fun v σ' k => truD_ok k
  · exact h.elim
theorem unE_ok (hr : Sound T r n) (c : Ctx T X C) {op : UnaryOp} {x : Expr} {pos : Pos} {K : AV → SS → Prop} (h : unE r C op x σ K) : JE X (.UnaryOp op x pos) σ K := by
  unfold unE at h
  split at h
  · exact JE_Not ((hr.e c h).mono fun v σ₁ k => truD_ok (K := fun b σ₁ => K (.v (.bool (!b))) σ₁) k)
  · exact JE_USub (hr.e c h)
  · exact h.elim
theorem orE_ok (hr : Sound T r n) (c : Ctx T X C) {op : BoolOp} {vs : List Expr} {pos : Pos} {K : AV → SS → Prop} (h : orE r C op vs σ K) : JE X (.BoolOp op vs pos) σ K := by
  unfold orE at h
  split at h
  · exact JE_Or2 ((hr.e c h).mono fun v σ₁ k => (truD_ok (K := fun b σ₁ => Br b (K v σ₁) (r C (.e _ σ₁ K))) k).mono fun b σ₂ k => k.mono (fun k => ⟨rfl, k⟩) (fun k => hr.e c k))
  · exact h.elim
theorem subE_ok (hr : Sound T r n) (c : Ctx T X C) {v i : Expr} {pos : Pos} {K : AV → SS → Prop} (h : subE r C v i σ K) : JE X (.Subscript v i pos) σ K := by
  unfold subE at h
  split at h
  · exact JE_SubSl ((hr.e c h).mono fun a σ₁ h => (partE_ok hr c h).mono fun i σ₂ h => partE_ok hr c h)
  · exact h.elim
  · rename_i _ hn
    refine JE_Sub ?_ ((hr.e c h).mono fun a σ₁ h => hr.e c h)
    cases i <;> first | rfl | exact (hn _ _ _ _ rfl).elim
theorem attrE_ok (c : Ctx T X C) {o : Expr} {attr : Str} {pos : Pos} {K : AV → SS → Prop} (h : attrE T C o attr σ K) : JE X (.Attribute o attr pos) σ K := by
  unfold attrE at h
  split at h
  · refine JE_AttrN ((nameE_ok c h).mono fun a σ₁ h => attD_ok c.ok ?_)
    exact attD_mono h fun Cc d g => by
      obtain ⟨g, k⟩ := g.out
      obtain ⟨g1, g2⟩ := Bool.and_eq_true_iff.mp g
      exact ⟨c.tb.field _ _ g1, by simpa using g2, k⟩
  · exact h.elim
end
end
section
section
variable {X : Fx} {σ : SS} {T : Tb} {C : Ct} {r : Run} {n : Nat}
theorem dictE_ok (c : Ctx T X C) {ks : List (Option Expr)} {vs : List Expr} {pos : Pos} {K : AV → SS → Prop} (h : dictE ks vs σ K) : JE X (.Dict ks vs pos) σ K := by
  unfold dictE at h
  split at h
  · rename_i l e
    obtain ⟨g, h⟩ := h.out
    exact JE_DictC c.ok e g h
  · exact h.elim
theorem isSetE_ok {iter : Expr} (h : isSetE iter = false) (env : Env) : ∀ v, foldedSetIterable iter env v = pure v := by
  intro v
  cases iter <;> first | rfl | cases h
theorem call_ok (c : Ctx T X C) {f : Addr} {sp : Spec} (hf : fnk f T.fn = some sp) {as : List AV} {K : AV → SS → Prop} (h : callS sp as σ K) : JCall X (.ref f) as σ K := by
  obtain ⟨⟨D', U', fo, h1, h2⟩, _⟩ := c.tb.fn f sp hf
  exact JCall_of c.ok fo h1 h2 h
def CallK (X : Fx) (pos : Pos) (args : List Expr) (fv : AV) (σ : SS) (K : AV → SS → Prop) : Prop := match fv with
  | .v (.ref f) => keepIn (tp.heap_1 X.w.params) (.ref f) = true ∧ JL X pos args σ fun as σ₂ => JCall X (.ref f) as σ₂ K
  | .v (.bi id) => JL X pos args σ fun as σ₂ => JCall X (.builtin id.id) as σ₂ K
  | .v (.ty n) => JL X pos args σ fun as σ₂ => JCall X (.type n.id) as σ₂ K
  | _ => False
theorem JE_CallX {K : AV → SS → Prop} {x : Str} {px pos : Pos} {e : Expr} {args : List Expr} (hs : noStar (e :: args) = true) (h : JE X (.Name x px) σ fun fv σ₁ => CallK X pos (e :: args) fv σ₁ K) : JE X (.Call (.Name x px) (e :: args) [] pos) σ K := by
  intro ow ρ s S Q E q
  refine Call_ (h ow ρ s S _ _ fun a sa σ₁ ow₁ ρ₁ h₁ tk₁ e₁ S₁ r₁ k₁ => ?_)
  cases r₁ with
  | c => exact k₁.elim
  | v r => cases r with
    | ref f =>
      have k₁ : keepIn (tp.heap_1 X.w.params) (.ref f) = true ∧ JL X pos (e :: args) σ₁ fun as σ₂ => JCall X (.ref f) as σ₂ K := k₁
      exact run_callWith (s := { s with heap := h₁, toks := tk₁ }) hs k₁.1 S₁ .nil k₁.2 _ _ fun v sv σ₂ ow₂ ρ₂ h₂ tk₂ e₂ S₂ r₂ k₂ => q v sv σ₂ ow₂ ρ₂ h₂ tk₂ (e₁.trans e₂) S₂ r₂ k₂
    | bi id =>
      have k₁ : JL X pos (e :: args) σ₁ fun as σ₂ => JCall X (.builtin id.id) as σ₂ K := k₁
      refine PyProof.Rows.callWith_builtin1 (k₁ ow₁ ρ₁ { s with heap := h₁, toks := tk₁ } S₁ _ _ fun vs as σ₂ ow₂ ρ₂ h₂ tk₂ e₂ S₂ r₂ k₂ => ?_) (starEach_cons hs) (noStar_plain (noStar_tail hs))
      exact k₂ ow₂ ρ₂ { s with heap := h₂, toks := tk₂ } _ S₂ r₂ _ _ fun v sv σ₃ ow₃ ρ₃ h₃ tk₃ e₃ S₃ r₃ k₃ => q v sv σ₃ ow₃ ρ₃ h₃ tk₃ ((e₁.trans e₂).trans e₃) S₃ r₃ k₃
    | ty id =>
      have k₁ : JL X pos (e :: args) σ₁ fun as σ₂ => JCall X (.type id.id) as σ₂ K := k₁
      refine PyProof.Rows.callWith_type1 (k₁ ow₁ ρ₁ { s with heap := h₁, toks := tk₁ } S₁ _ _ fun vs as σ₂ ow₂ ρ₂ h₂ tk₂ e₂ S₂ r₂ k₂ => ?_) (starEach_cons hs) (noStar_plain (noStar_tail hs))
      exact k₂ ow₂ ρ₂ { s with heap := h₂, toks := tk₂ } _ S₂ r₂ _ _ fun v sv σ₃ ow₃ ρ₃ h₃ tk₃ e₃ S₃ r₃ k₃ => q v sv σ₃ ow₃ ρ₃ h₃ tk₃ ((e₁.trans e₂).trans e₃) S₃ r₃ k₃
    | _ => exact k₁.elim
theorem tyE_ok (c : Ctx T X C) {t : Ty} {as : List AV} {K : AV → SS → Prop} (h : tyE t as σ K) : JCall X (.type t.id) as σ K := by
  unfold tyE at h
  split at h
  · exact bytesR_ok h
  · exact bytesC_ok h
  · exact tyD_ok c.ok h
theorem cls_ok (c : Ctx T X C) {f : Addr} {sp : Spec} (hf : fnk f T.cls = some sp) {as : List AV} {K : AV → SS → Prop} (h : clsS sp f as σ K) : JCall X (.ref f) as σ K := by
  obtain ⟨⟨fI, D', U', co, fo, h1, h2⟩, _⟩ := c.tb.cls f sp hf
  exact JCall_cls c.ok co fo h1 h2 h
theorem applyE_ok (hr : Sound T r n) (c : Ctx T X C) {x : Str} {px pos : Pos} {args : List Expr} {K : AV → SS → Prop} (hs : noStar args = true) (h : JE X (.Name x px) σ fun fv σ₁ => applyE T r C fv pos args σ₁ K) : JE X (.Call (.Name x px) args [] pos) σ K := by
  cases args with
  | nil =>
    refine JE_Call0 (h.mono fun fv σ₁ h => ?_)
    unfold applyE at h
    split at h
    · rename_i f
      split at h
      · rename_i sp e
        exact ⟨(c.tb.fn f sp e).2, call_ok c e h⟩
      · split at h
        · exact Bool.noConfusion (Gd.out h).1
        · exact h.elim
    · exact Bool.noConfusion (Gd.out h).1
    · exact Bool.noConfusion (Gd.out h).1
    · exact h.elim
  | cons e rest =>
    refine JE_CallX hs (h.mono fun fv σ₁ h => ?_)
    unfold applyE at h
    split at h
    · rename_i f
      split at h
      · rename_i sp e1
        exact ⟨(c.tb.fn f sp e1).2, (hr.l c h).mono fun as σ₂ h => call_ok c e1 h⟩
      · split at h
        · rename_i sp e1
          exact ⟨(c.tb.cls f sp e1).2, (hr.l c (Gd.out h).2).mono fun as σ₂ h => cls_ok c e1 h⟩
        · exact h.elim
    · exact (hr.l c (Gd.out h).2).mono fun as σ₂ h => biD_ok c.ok h
    · exact (hr.l c (Gd.out h).2).mono fun as σ₂ h => tyE_ok c h
    · exact h.elim
theorem lmeth_list (name : Str) (i : Nat) {args : List Expr} {pos : Pos} {K : AV → SS → Prop} (hr : Sound T r n) (c : Ctx T X C) {l : List SV} (hl : σ.cel[i]? = some (.lst l)) (h : lmethD r C name i pos args σ K) : ∃ id, JGm X name (.c i) σ id ∧ JL X pos args σ fun as σ₂ => JCall X (.builtin id) (.c i :: as) σ₂ K := by
  unfold lmethD at h
  split at h
  · rename_i e
    obtain rfl := Fast.sEq_iff.mp e
    refine ⟨"list.append", JGm_list PySem.F.slot_list_append PySem.F.type_list_append hl, (hr.l c h).mono fun as σ₂ h => ?_⟩
    split at h
    · unfold appD at h
      split at h
      · rename_i e2
        obtain ⟨g, h⟩ := h.out
        exact run_append e2 (Nat.le_of_ble_eq_true g) h
      · exact h.elim
    · exact h.elim
  · split at h
    · rename_i e
      obtain rfl := Fast.sEq_iff.mp e
      refine ⟨"list.extend", JGm_list PySem.F.slot_list_extend PySem.F.type_list_extend hl, (hr.l c h).mono fun as σ₂ h => ?_⟩
      split at h
      · unfold extD at h
        split at h
        · rename_i e2
          obtain ⟨g, h⟩ := h.out
          exact run_extend e2 (Nat.le_of_ble_eq_true g) h
        · exact h.elim
      · exact h.elim
    · exact h.elim
def MethK (X : Fx) (name : Str) (pos : Pos) (args : List Expr) (a : AV) (σ : SS) (K : AV → SS → Prop) : Prop :=
  (∃ id, hasArgs args = true ∧ JGm X name a σ id ∧ JL X pos args σ fun as σ₂ => JCall X (.builtin id) (a :: as) σ₂ K) ∨
  methD name a σ fun Cc => ∃ f, MethOk X.w Cc name f ∧ (match args with
    | [] => JCall X (.ref f) [a] σ K
    | args => JL X pos args σ fun as σ₂ => JCall X (.ref f) (a :: as) σ₂ K)
theorem JE_MethX {K : AV → SS → Prop} {o : Expr} {name : Str} {apos pos : Pos} {args : List Expr} (O : X.Ok) (hb : isBase o = true) (ho : mOk args apos pos = true) (h : JE X o σ fun a σ₁ => MethK X name pos args a σ₁ K) : JE X (.Call (.Attribute o name apos) args [] pos) σ K := by
  have hs : noStar args = true := by unfold mOk at ho; exact (Bool.and_eq_true_iff.mp (Bool.and_eq_true_iff.mp ho).1).1
  intro ow ρ s S Q E q
  refine mcall hb ho fun pl => h ow ρ s S _ _ fun va a σ₁ ow₁ ρ₁ h₁ tk₁ e₁ S₁ r₁ k₁ => ?_
  rcases k₁ with ⟨id, ha, gm, k⟩ | k₁
  · cases args with
    | nil => cases ha
    | cons e args =>
      refine gm ow₁ ρ₁ { s with heap := h₁, toks := tk₁ } va pl S₁ r₁ _ _ ?_
      refine callWith_method1 (k ow₁ ρ₁ { s with heap := h₁, toks := tk₁ } S₁ _ _ fun vs as σ₂ ow₂ ρ₂ h₂ tk₂ e₂ S₂ r₂ k₂ => ?_) (starEach_cons hs) (noStar_plain (noStar_tail hs))
      exact k₂ ow₂ ρ₂ { s with heap := h₂, toks := tk₂ } _ S₂ (.cons (S₁.ar e₂ r₁) r₂) _ _ fun v sv σ₃ ow₃ ρ₃ h₃ tk₃ e₃ S₃ r₃ k₃ => q v sv σ₃ ow₃ ρ₃ h₃ tk₃ ((e₁.trans e₂).trans e₃) S₃ r₃ k₃
  · obtain ⟨C, ⟨f, m, k⟩, go⟩ := run_meth (s := { s with heap := h₁, toks := tk₁ }) (pl := pl) O S₁ r₁ k₁
    refine go f m _ _ ?_
    cases args with
    | nil => exact run_callWith0 (s := { s with heap := h₁, toks := tk₁ }) m.k S₁ (.cons r₁ .nil) k _ _ fun v sv σ₂ ow₂ ρ₂ h₂ tk₂ e₂ S₂ r₂ k₂ => q v sv σ₂ ow₂ ρ₂ h₂ tk₂ (e₁.trans e₂) S₂ r₂ k₂
    | cons e args => exact run_callWith (s := { s with heap := h₁, toks := tk₁ }) hs m.k S₁ (.cons r₁ .nil) k _ _ fun v sv σ₂ ow₂ ρ₂ h₂ tk₂ e₂ S₂ r₂ k₂ => q v sv σ₂ ow₂ ρ₂ h₂ tk₂ (e₁.trans e₂) S₂ r₂ k₂
theorem methE_ok (hr : Sound T r n) (c : Ctx T X C) {name : Str} {a : AV} {pos : Pos} {args : List Expr} {isN : Bool} {K : AV → SS → Prop} (h : methE T r C name a pos args isN σ K) : MethK X name pos args a σ K := by
  unfold methE at h
  split at h
  · split at h
    · rename_i hl
      obtain ⟨g, h⟩ := h.out
      obtain ⟨id, gm, k⟩ := lmeth_list _ _ hr c hl h
      exact .inl ⟨id, g, gm, k⟩
    · obtain ⟨g, h⟩ := h.out
      refine .inr (methD_mono h fun Cc h => ?_)
      unfold umethD at h
      split at h
      · rename_i f e1
        split at h
        · rename_i sp e2
          refine ⟨f, c.tb.meth _ _ _ e1, ?_⟩
          split at h
          · exact call_ok c e2 h
          · first
            | exact (hr.l c h).mono fun as σ₂ h => call_ok c e2 h
            | (split
               · rename_i hn; exact (hn rfl).elim
               · exact (hr.l c h).mono fun as σ₂ h => call_ok c e2 h)
        · exact h.elim
      · exact h.elim
  · obtain ⟨g, h'⟩ := h.out
    obtain ⟨g1, g2⟩ := Bool.and_eq_true_iff.mp g
    obtain rfl := Fast.sEq_iff.mp g2
    refine .inl ⟨"dict.get", g1, JGm_dic, (hr.l c h').mono fun as σ₂ h => ?_⟩
    unfold getmD at h
    split at h
    · split at h
      · rename_i e; exact run_get e h
      · exact h.elim
    · exact h.elim
  · obtain ⟨g, h'⟩ := h.out
    obtain ⟨g1, g2⟩ := Bool.and_eq_true_iff.mp g
    obtain rfl := Fast.sEq_iff.mp g2
    exact .inl ⟨"bytes.join", g1, JGm_join, (hr.l c h').mono fun as σ₂ h => run_join h⟩
  · obtain ⟨g, h'⟩ := h.out
    obtain ⟨g1, g2⟩ := Bool.and_eq_true_iff.mp g
    obtain rfl := Fast.sEq_iff.mp g2
    exact .inl ⟨"tuple.index", g1, JGm_tup, (hr.l c h').mono fun as σ₂ h => run_index h⟩
  · exact h.elim
theorem callE_ok (hr : Sound T r n) (c : Ctx T X C) {f : Expr} {args : List Expr} {pos : Pos} {K : AV → SS → Prop} (h : callE T r C f args pos σ K) : JE X (.Call f args [] pos) σ K := by
  unfold callE at h
  split at h
  · obtain ⟨g, h⟩ := h.out
    exact applyE_ok hr c g (nameE_ok c h)
  · obtain ⟨g, h⟩ := h.out
    obtain ⟨g1, g2⟩ := Bool.and_eq_true_iff.mp g
    exact JE_MethX c.ok g2 g1 ((hr.e c h).mono fun a σ₁ h => methE_ok hr c h)
  · exact h.elim
end
end
section
section
variable {X : Fx} {σ : SS} {T : Tb} {C : Ct} {r : Run} {n : Nat}
theorem quiet_of {X : Fx} (O : X.Ok) : interactive X.env = false := by
  unfold interactive
  rw [O.kind]; rfl
theorem comp_ctx (c : Ctx T X C) {sc : Scope} {X' : Fx} (ic : IsComp X X' sc) : Ctx T X' (compCt C sc) :=
  ⟨ic.ok, ⟨by rw [ic.names, c.ag.names]; rfl, by rw [ic.vid, c.ag.vid]; rfl, fun e => (by cases e), quiet_of ic.ok⟩, by rw [ic.w, ic.D, ic.U]; exact c.tb, by rw [ic.U]; exact c.u⟩
theorem compE_out (hr : Sound T r n) (c : Ctx T X C) {elt : Expr} {gens : List Comprehension} {sc : Scope} {K : List SV → SS → Prop} (h : compE r C elt gens sc σ K) : ∃ x px iter ifs, gens = [⟨.Name x px, iter, ifs, 0⟩] ∧ X.comp = none ∧ scopeOk sc x = true ∧ freesOk sc.names X.vid = true ∧ (∀ v, foldedSetIterable iter X.env v = pure v) ∧
    JE X iter σ fun a σ₁ => ∃ its, Iters X a σ₁ its ∧ its.length ≤ 16384 ∧ ∀ X', IsComp X X' sc → JCmp X' x ifs elt its [] σ₁.cel fun acc cel => K acc ⟨σ₁.loc, cel⟩ := by
  unfold compE at h
  split at h
  · rename_i x px iter ifs isa
    obtain ⟨g, h⟩ := h.out
    obtain ⟨g, g5⟩ := Bool.and_eq_true_iff.mp g
    obtain ⟨g, g4⟩ := Bool.and_eq_true_iff.mp g
    obtain ⟨g, g3⟩ := Bool.and_eq_true_iff.mp g
    obtain ⟨g1, g2⟩ := Bool.and_eq_true_iff.mp g
    have hisa : isa = 0 := of_decide_eq_true g4
    refine ⟨x, px, iter, ifs, by rw [hisa], c.ag.comp (by simpa using g1), g2, by rw [c.ag.vid]; exact g3, isSetE_ok (by simpa using g5) _, (hr.e c h).mono fun a σ₁ h => ?_⟩
    obtain ⟨its, hi, h⟩ := itD_ok (σ := σ₁) c h
    obtain ⟨g, h⟩ := h.out
    exact ⟨its, hi, Nat.le_of_ble_eq_true g, fun X' ic => hr X' _ _ (comp_ctx c ic) h.out⟩
  · exact h.elim
theorem binX_ok {op : Operator} {a b : AV} {K : AV → SS → Prop} (O : X.Ok) (h : binX op a b σ K) : J2 X (binaryOp op) a b σ K := by
  unfold binX at h
  split at h
  · split at h
    · split at h
      · rename_i hl
        obtain ⟨g, h⟩ := h.out
        intro ow ρ s va vb S ra rb Q E q
        cases rb with | c hr =>
        obtain ⟨a, vs, n, rfl, ha, r1⟩ := lst_of ra.inv
        obtain ⟨ob, hb, e2⟩ := S.cel _ _ _ hr hl
        cases e2 with | lst r2 =>
        rename_i ws m
        have g := Nat.le_of_ble_eq_true g
        refine P.add_list ha hb ?_ (by rw [List.size_toArray, List.size_toArray, r1.length, r2.length]; exact Nat.le_trans g (by decide))
        have e : vs.toArray ++ ws.toArray = (vs ++ ws).toArray := by simp
        rw [e]
        exact run_push_list S (r1.append r2) h q
      · exact h.elim
    · exact h.elim
  · exact binD_ok O h
theorem stE_ok (hr : Sound T r n) (c : Ctx T X C) {e : Expr} {K : AV → SS → Prop} (h : stE T r C e σ K) : JE X e σ K := by
  unfold stE at h
  split at h
  · exact constE_ok h
  · exact nameE_ok c h
  · exact JE_BinOp ((hr.e c h).mono fun a σ₁ h => (hr.e c h).mono fun b σ₂ h => binX_ok c.ok h)
  · exact cmpE_ok hr c h
  · exact unE_ok hr c h
  · exact JE_IfExp ((hr.t c h).mono fun t σ₁ h => h.mono (hr.e c) (hr.e c))
  · exact orE_ok hr c h
  · exact JE_Tuple (hr.l c h)
  · split at h
    · exact JE_ListCell (hr.l c h)
    · exact JE_List (hr.l c h)
  · exact dictE_ok c h
  · exact subE_ok hr c h
  · exact attrE_ok c h
  · split at h
    · exact callE_ok hr c h
    · exact h.elim
  · obtain ⟨x, px, iter, ifs, rfl, a1, a2, a3, a4, j⟩ := compE_out hr c h
    exact JE_ListComp c.ok a1 a2 a3 a4 j
  · exact h.elim
theorem plainT_ok {e : Expr} (h : plainT e = true) (env : Env) : isTrue e env (eval e env) = (do let v ← eval e env; standAt (Expr.pos e); holding [v] (truthy v)) := by
  cases e <;> first | rfl | cases h | (rename_i op x pos; cases op <;> first | rfl | cases h)
theorem stT_ok (hr : Sound T r n) (c : Ctx T X C) {e : Expr} {K : Bool → SS → Prop} (h : stT r C e σ K) : JT X e σ K := by
  unfold stT at h
  split at h
  · exact JT_Not (hr.t c h)
  · exact JT_BoolOp (hr.tl c h)
  · exact chainE_ok hr c h
  · obtain ⟨g, h⟩ := h.out
    exact JT_plain ((hr.e c h).mono fun v σ₁ k => truD_ok k) (plainT_ok g _)
theorem stTL_ok (hr : Sound T r n) (c : Ctx T X C) {op : BoolOp} {es : List Expr} {K : Bool → SS → Prop} (h : stTL r C op es σ K) : JTL X op es σ K := by
  unfold stTL at h
  split at h
  · exact JTL_nil h
  · refine JTL_cons ((hr.t c h).mono fun b σ₁ h => ?_)
    cases op
    · exact h.mono (hr.tl c) id
    · exact h.mono id (hr.tl c)
theorem stL_ok (hr : Sound T r n) (c : Ctx T X C) {pos : Pos} {es : List Expr} {K : List AV → SS → Prop} (h : stL r C pos es σ K) : JL X pos es σ K := by
  unfold stL at h
  split at h
  · exact JL_nil h
  · obtain ⟨g, h⟩ := h.out
    exact JL_cons (starEach_cons g) ((hr.e c h).mono fun a σ₁ h => hr.l c h)
theorem stB_ok (hr : Sound T r n) (c : Ctx T X C) {es : List Stmt} {K : SF → SS → Prop} (h : stB r C es σ K) : JB X es σ K := by
  unfold stB at h
  split at h
  · exact JB_nil h
  · refine JB_cons ((hr.s c h).mono fun f σ₁ h => ?_)
    rw [forceS_eq] at h
    cases f
    · exact hr.b c h
    · exact h
    · exact h
    · exact h
theorem asV_set {name : Str} {a v : AV} {k : SS → Prop} (c : Ctx T X C) (h : asV v fun d => setD name a d σ fun Cc σ₂ => Gd (fieldk Cc name T.field) (k σ₂)) : JSetA X name a v σ k := by
  obtain ⟨d, rfl, h'⟩ := asV_out h
  exact setD_ok c.ok (setD_mono h' fun Cc σ₂ g => ⟨c.tb.field _ _ g.out.1, g.out.2⟩)
theorem asV_setI {a b v : AV} {k : SS → Prop} (h : asV v fun d => setX a b d σ k) : JSetI X a b v σ k := by
  obtain ⟨d, rfl, h'⟩ := asV_out h
  unfold setX at h'
  split at h'
  · split at h'
    · exact setBa_ok h'
    · exact setItD_ok h'
  · exact h'.elim
theorem JA_SubV {o i : Expr} {pos : Pos} {v : AV} {K : SS → Prop} (h : JE X o σ fun a σ₁ => JE X i σ₁ fun b σ₂ => JSetI X a b v σ₂ K) : JA X (.Subscript o i pos) v σ K := by
  intro ow ρ s va S r Q E q
  refine kas_sub (h ow ρ s S _ _ fun a sa σ₁ ow₁ ρ₁ h₁ tk₁ e₁ S₁ r₁ k₁ => k₁ ow₁ ρ₁ { s with heap := h₁, toks := tk₁ } S₁ _ _ fun b sb σ₂ ow₂ ρ₂ h₂ tk₂ e₂ S₂ r₂ k₂ => ?_)
  exact k₂ ow₂ ρ₂ { s with heap := h₂, toks := tk₂ } a b va S₂ (S₁.ar e₂ r₁) r₂ (S.ar (e₁.trans e₂) r) _ _ fun _ _ σ₃ ow₃ ρ₃ h₃ tk₃ e₃ S₃ _ k₃ => q () () σ₃ ow₃ ρ₃ h₃ tk₃ ((e₁.trans e₂).trans e₃) S₃ trivial k₃
theorem stA_ok (hr : Sound T r n) (c : Ctx T X C) {t : Expr} {v : AV} {K : SS → Prop} (h : stA T r C t v σ K) : JA X t v σ K := by
  unfold stA at h
  split at h
  · exact JA_Name (storD_ok c h)
  · split at h
    · obtain ⟨g, h⟩ := h.out
      obtain ⟨g1, g2⟩ := Bool.and_eq_true_iff.mp g
      exact JA_Tuple ((assignEach_len g2).trans (Nat.eq_of_beq_eq_true g1)) (assignEach_idx g2) (fun v => .inl rfl) (hr.as c h)
    · exact h.elim
  · exact JA_Attr ((hr.e c h).mono fun a σ₁ h => asV_set c h)
  · exact JA_SubV ((hr.e c h).mono fun a σ₁ h => (hr.e c h).mono fun b σ₂ h => asV_setI h)
  · exact h.elim
theorem stAs_ok (hr : Sound T r n) (c : Ctx T X C) {ts : List Expr} {vs : List AV} {K : SS → Prop} (h : stAs r C ts vs σ K) : JAs X ts vs σ K := by
  unfold stAs at h
  split at h
  · exact JAs_nil h
  · obtain ⟨g, h⟩ := h.out
    exact JAs_cons (assignEach_cons g) ((hr.a c h).mono fun σ₁ h => hr.as c h)
  · exact h.elim
theorem asgTup_ok (hr : Sound T r n) (c : Ctx T X C) {ts : List Expr} {k : Nat} {tp pos : Pos} {value : Expr} {K : SF → SS → Prop} (h : asgTup r C ts k tp value σ K) : JS X (.Assign [.Tuple ts k tp] value pos) σ K := by
  unfold asgTup at h
  split at h
  · split at h
    · rename_i ns e
      rw [← c.ag.names] at e
      refine JS_AssignSwap (swapsSole_false rfl) (swapped_ok c.ok.kind e) ((hr.l c h).mono fun l σ₁ h => h.mono fun h => storsD_ok c h)
    · exact h.elim
  · rename_i hn
    obtain ⟨g, h⟩ := h.out
    have ht : isTupE value = false := by cases value <;> first | rfl | exact (hn _ _ _ rfl).elim
    exact JS_AssignTuple (swapsSole_false (by simpa using g)) (swapped_none ht) ((hr.e c h).mono fun v σ₁ h => hr.a c h)
theorem asgName_ok (hr : Sound T r n) (c : Ctx T X C) {x : Str} {px pos : Pos} {value : Expr} {K : SF → SS → Prop} (h : asgName r C x px value σ K) : JS X (.Assign [.Name x px] value pos) σ K := by
  unfold asgName at h
  split at h
  · obtain ⟨g, h⟩ := h.out
    obtain ⟨g, g3⟩ := Bool.and_eq_true_iff.mp g
    obtain ⟨g1, g2⟩ := Bool.and_eq_true_iff.mp g
    obtain ⟨y, py, iter, ifs, rfl, a1, a2, a3, a4, j⟩ := compE_out hr c h
    have hk : X.env.kindOf x = some .local := by
      rw [c.kind]
      split at g1
      · assumption
      · cases g1
    exact JS_AssignComp c.ok a1 a2 a3 a4 hk g2 (by simpa using g3) j
  · obtain ⟨g, h⟩ := h.out
    exact JS_AssignName (swaps_false (by simpa using g)) ((hr.e c h).mono fun v σ₁ h => storD_ok c h)
theorem asgE_ok (hr : Sound T r n) (c : Ctx T X C) {t value : Expr} {pos : Pos} {K : SF → SS → Prop} (h : asgE T r C t value σ K) : JS X (.Assign [t] value pos) σ K := by
  unfold asgE at h
  split at h
  · exact asgName_ok hr c h
  · exact asgTup_ok hr c h
  · obtain ⟨g, h⟩ := h.out
    exact JS_AssignAttr (by simpa using g) ((hr.e c h).mono fun v σ₁ h => (hr.e c h).mono fun a σ₂ h => asV_set c h)
  · obtain ⟨g, h⟩ := h.out
    exact JS_AssignSub (by simpa using g) ((hr.e c h).mono fun v σ₁ h => (hr.e c h).mono fun a σ₂ h => (hr.e c h).mono fun b σ₃ h => asV_setI h)
  · exact h.elim
theorem intD_mono {a : AV} {k k' : Int → Prop} (h : intD a k) (f : ∀ i, k i → k' i) : intD a k' := by
  cases a with
  | c => exact h
  | v x => cases x <;> first | exact f _ h | exact h
theorem augE_ok (hr : Sound T r n) (c : Ctx T X C) {t value : Expr} {op : Operator} {pos : Pos} {K : SF → SS → Prop} (h : augE T r C t op value σ K) : JS X (.AugAssign t op value pos) σ K := by
  unfold augE at h
  split at h
  · refine JS_AugA ((hr.e c h).mono fun a σ₁ h => attD_ok (K := fun old σ₂ => JE X value σ₂ fun v σ₃ => intD old fun x => intD v fun y => JSetA X _ a (.v (.int (x + y))) σ₃ fun σ₄ => K .next σ₄) c.ok (attD_mono h fun Cc old g => ?_))
    obtain ⟨g, h⟩ := g.out
    obtain ⟨g1, g2⟩ := Bool.and_eq_true_iff.mp g
    refine ⟨c.tb.field _ _ g1, by simpa using g2, (hr.e c h).mono fun v σ₃ h => ?_⟩
    exact intD_mono h fun x h => intD_mono h fun y h => asV_set c (v := .v (.int (x + y))) h
  · exact h.elim
theorem enumF_some {target iter e : Expr} {x : Str} {cpos : Pos} (h : enumF target iter = some (x, cpos, e)) : ∃ ts k tp px, target = .Tuple ts k tp ∧ iter = .Call (.Name x px) [e] [] cpos := by
  unfold enumF at h
  split at h
  · split at h
    · cases h; exact ⟨_, _, _, _, rfl, rfl⟩
    · cases h
  · cases h
theorem forE_ok (hr : Sound T r n) (c : Ctx T X C) {target iter : Expr} {body : List Stmt} {pos : Pos} {K : SF → SS → Prop} (h : forE T r C target iter body σ K) : JS X (.For target iter body [] pos) σ K := by
  unfold forE at h
  split at h
  · rename_i e
    obtain ⟨ts, k, tp, px, rfl, rfl⟩ := enumF_some e
    obtain ⟨g, h⟩ := h.out
    refine JS_ForEnum c.ok g ((nameE_ok c h).mono fun fv σ₁ h => ?_)
    split at h
    · refine ⟨rfl, (hr.l c h).mono fun as σ₂ h => ?_⟩
      unfold enumD at h ⊢
      split at h
      · exact hr X C _ c h.out
      · exact h.elim
    · exact h.elim
  · obtain ⟨g, h⟩ := h.out
    refine JS_For c.ok (isSetE_ok (by simpa using g) _) ((hr.e c h).mono fun a σ₁ h => ?_)
    obtain ⟨its, hi, h⟩ := itD_ok (σ := σ₁) c h
    exact ⟨its, hi, hr X C _ c h.out⟩
theorem stS_ok (hr : Sound T r n) (c : Ctx T X C) {e : Stmt} {K : SF → SS → Prop} (h : stS T r C e σ K) : JS X e σ K := by
  unfold stS at h
  split at h
  · obtain ⟨g, h⟩ := h.out
    exact JS_Expr (quiet_of c.ok) (swaps_false (by simpa using g)) (hr.e c h)
  · exact JS_Return (hr.e c h)
  · exact JS_If ((hr.t c h).mono fun t σ₁ h => h.mono (hr.b c) (hr.b c))
  · split at h
    · exact asgE_ok hr c h
    · exact h.elim
  · exact augE_ok hr c h
  · split at h
    · exact forE_ok hr c h
    · exact h.elim
  · split at h
    · exact JS_While n (hr X C _ c h.out)
    · exact h.elim
  · split at h
    · exact JS_Try (hr.b c h)
    · exact h.elim
  · exact fun ow ρ s S Q E q => wpAny_Pass (q _ _ σ ow ρ s.heap s.toks .refl S .next h)
  · exact h.elim
theorem stF_ok (hr : Sound T r n) (c : Ctx T X C) {target : Expr} {body : List Stmt} {its : List SV} {K : SF → SS → Prop} (h : stF r C target body its σ K) : JFor X target body its σ K := by
  unfold stF at h
  split at h
  · exact h
  · refine (hr.a c h).mono fun σ₁ h => (hr.b c h).mono fun f σ₂ h => ?_
    cases f
    · exact hr X C _ c h
    · exact h
    · exact hr X C _ c h
    · exact h
theorem stW_ok (hr : Sound T r n) (c : Ctx T X C) {test : Expr} {body : List Stmt} {K : SF → SS → Prop} (h : stW r C test body σ K) : JWh X test body (n + 1) σ K := by
  unfold stW at h
  refine (hr.t c h).mono fun b σ₁ h => h.mono (fun h => (hr.b c h).mono fun f σ₂ h => ?_) id
  cases f
  · exact hr X C _ c h
  · exact h
  · exact hr X C _ c h
  · exact h
theorem stC_ok (hr : Sound T r n) (c : Ctx T X C) {x : Str} {ifs : List Expr} {elt : Expr} {its acc : List SV} {cel : List SObj} {K : List SV → List SObj → Prop} (h : stC r C x ifs elt its acc cel K) : JCmp X x ifs elt its acc cel K := by
  unfold stC at h
  split at h
  · exact h
  · rename_i d ds
    have fin : ∀ b σ₁, Br b (r C (.e elt σ₁ fun v σ₂ => asV v fun sv => r C (.c x ifs elt ds (acc ++ [sv]) σ₂.cel K))) (r C (.c x ifs elt ds acc σ₁.cel K)) → Br b (JE X elt σ₁ fun v σ₂ => asV v fun sv => JCmp X x ifs elt ds (acc ++ [sv]) σ₂.cel K) (JCmp X x ifs elt ds acc σ₁.cel K) := fun b σ₁ h => h.mono (fun h => (hr.e c h).mono fun v σ₂ h => by
      obtain ⟨sv, rfl, h'⟩ := asV_out h
      exact hr X C _ c h') (fun h => hr X C _ c h)
    show JIfs X ifs ⟨[(x, .v d)], cel⟩ _
    unfold ifsE at h
    unfold JIfs
    split at h
    · exact fin _ _ h
    · exact (hr.t c h).mono fin
    · exact h.elim
theorem step_ok (hr : Sound T r n) (c : Ctx T X C) (t : Tk) (h : step T r C t) : t.sound X (n + 1) := by
  cases t with
  | e e σ K => exact stE_ok hr c h
  | t e σ K => exact stT_ok hr c h
  | tl op es σ K => exact stTL_ok hr c h
  | l pos es σ K => exact stL_ok hr c h
  | s st σ K => exact stS_ok hr c h
  | b sts σ K => exact stB_ok hr c h
  | a t v σ K => exact stA_ok hr c h
  | as ts vs σ K => exact stAs_ok hr c h
  | f target body its σ K => exact stF_ok hr c h
  | w test body σ K => exact stW_ok hr c h
  | c x ifs elt its acc cel K => exact stC_ok hr c h
theorem run_sound (T : Tb) : ∀ n, Sound T (run T n) n
  | 0 => fun X C t c h => h.elim
  | n + 1 => fun X C t c h => step_ok (run_sound T n) c t h
end
end
section
theorem FnOk.of_run {w : World} {f : Addr} {D U : Nat} {sp : Spec} {qual : Str} {params : Arguments} {body : List Stmt} {sc : Scope} {ns : List Str} {T : Tb} (mu : List Nat) (N : Nat)
    (hf : FnIn w f qual params body sc) (hb : Bnd params ns)
    (hc : ScOk sc ns)
    (hlen : ∀ as cel K, sp as cel K → as.length = ns.length) (tb : TbOk w D U T) (hU : 10 ≤ U)
    (h : ∀ (as : List AV) (cel : List SObj) (K : SV → List SObj → Prop), sp as cel K → run T N ⟨sc.names, mkVid cel.length (cells0 sc), mu, false⟩ (.b body (entSS sc ns as cel) (Kret cel.length K))) : FnOk w f (D + 1) (U + 3) sp :=
  FnOk.of_body hf hb hc hlen fun X as cel K O hw hD hU' ag hsp => run_sound T N X _ (.b body _ _) ⟨O, ⟨ag.names, ag.vid, fun _ => ag.comp, quiet_of O⟩, by rw [hw, hD, hU']; exact tb, by rw [hU']; exact hU⟩ (h as cel K hsp)
noncomputable def fdAt (f : Addr) (P : Params) : Option FuncData := match (tp.heap_1 P).lookup f with
  | some ⟨_, _, .func fd, _⟩ => some fd
  | _ => none
end
section
noncomputable def bd (f : Addr) (P : Params) : List Stmt := match fdAt f P with
  | some fd => (match fd.body with | .stmts b => b | _ => [])
  | none => []
noncomputable def scp (f : Addr) (P : Params) : Scope := match fdAt f P with
  | some fd => fd.scope
  | none => ⟨.module, [], false, false, []⟩
noncomputable def prm (f : Addr) (P : Params) : Arguments := match fdAt f P with
  | some fd => fd.params
  | none => ⟨[], [], none, [], [], none, []⟩
noncomputable def qul (f : Addr) (P : Params) : Str := match fdAt f P with
  | some fd => fd.qualname
  | none => ""
noncomputable abbrev ctAt (f : Addr) (w : World) (n : Nat) (mu : List Nat) : Ct := ⟨(scp f w.params).names, mkVid n (cells0 (scp f w.params)), mu, false⟩
abbrev FnAt (f : Addr) (w : World) : Prop := FnIn w f (qul f w.params) (prm f w.params) (bd f w.params) (scp f w.params)
abbrev Rn (sp : Spec) (T : Tb) (N : Nat) (f : Addr) (mu : List Nat) (ns : List Str) (w : World) : Prop := ∀ (as : List AV) (cel : List SObj) (K : SV → List SObj → Prop), sp as cel K → run T N (ctAt f w cel.length mu) (.b (bd f w.params) (entSS (scp f w.params) ns as cel) (Kret cel.length K))
abbrev bA (p : Arguments) (fd : FuncData) (vs : List Value) : Sem (List (Str × Value)) := bindArgs { fd with params := p, defaults := .none, kwdefaults := .none } ⟨vs, []⟩
theorem bnd {p : Arguments} {ns : List Str} (h : ∀ fd vs, vs.length = ns.length → bA p fd vs = pure (ns.zip vs)) : Bnd p ns := fun fd vs h1 h2 h3 hl => by
  have := h fd vs hl
  rw [← this]
  obtain ⟨name, qual, params, body, scope, globals, closure, defaults, kwdefaults⟩ := fd
  dsimp only at h1 h2 h3
  subst h1 h2 h3
  rfl
theorem bnd1 {p : Arguments} {a : Str} (h : ∀ fd v, bA p fd [v] = pure ([a].zip [v])) : Bnd p [a] := bnd fun fd vs hl => by
  match vs, hl with
  | [v], _ => exact h fd v
theorem bnd2 {p : Arguments} {a b : Str} (h : ∀ fd v w, bA p fd [v, w] = pure ([a, b].zip [v, w])) : Bnd p [a, b] := bnd fun fd vs hl => by
  match vs, hl with
  | [v, w], _ => exact h fd v w
theorem bnd3 {p : Arguments} {a b c : Str} (h : ∀ fd v w x, bA p fd [v, w, x] = pure ([a, b, c].zip [v, w, x])) : Bnd p [a, b, c] := bnd fun fd vs hl => by
  match vs, hl with
  | [v, w, x], _ => exact h fd v w x
theorem bnd4 {p : Arguments} {a b c d : Str} (h : ∀ fd v w x y, bA p fd [v, w, x, y] = pure ([a, b, c, d].zip [v, w, x, y])) : Bnd p [a, b, c, d] := bnd fun fd vs hl => by
  match vs, hl with
  | [v, w, x, y], _ => exact h fd v w x y
theorem FnOk.at {w : World} (f : Addr) {D U : Nat} {sp : Spec} {ns : List Str} {T : Tb} (mu : List Nat) (N : Nat)
    (hf : FnAt f w) (hb : Bnd (prm f w.params) ns)
    (hc : ScOk (scp f w.params) ns)
    (hlen : ∀ as cel K, sp as cel K → as.length = ns.length) (tb : TbOk w D U T) (hU : 10 ≤ U)
    (h : Rn sp T N f mu ns w) : FnOk w f (D + 1) (U + 3) sp :=
  FnOk.of_run mu N hf hb hc hlen tb hU h
def spInt (p : Int → (SV → Prop) → Prop) : Spec := fun as cel K => match as with
  | [.v (.int n)] => (match cel with | [] => p n fun v => K v [] | _ => False)
  | _ => False
def spSize : Spec := spInt fun n k => 0 ≤ n ∧ n < 4611686018427387904 ∧ ((n < 64 → k (.int 1)) ∧ (64 ≤ n → n < 16384 → k (.int 2)) ∧ (16384 ≤ n → n < 1073741824 → k (.int 4)) ∧ (1073741824 ≤ n → k (.int 8)))
def T0 : Tb := { glob := [("VARINT_SIZES", .tup [.int 1, .int 2, .int 4, .int 8])], fn := [], field := [], meth := [] }
theorem in83 (w : World) : FnAt 83 w := ⟨_, _, _, _, _, _, _, _, _, rfl, by kernel_rfl⟩
theorem bind83 (w : World) : Bnd (prm 83 w.params) ["n"] := bnd1 fun _ _ => by kernel_rfl
theorem varint_size_run (w : World) : Rn spSize T0 200 83 [] ["n"] w := fun as cel K h => by
  unfold spSize spInt at h
  split at h
  · split at h
    · obtain ⟨h0, h1, k1, k2, k3, k4⟩ := h
      conv => whnf
      refine ⟨?_⟩
      conv => whnf
      refine Br.intro (fun h => ?_) (fun h => absurd h (by simp; omega))
      conv => whnf
      refine Br.intro (fun h => ?_) (fun h => ?_)
      · conv => whnf
        exact k1 (by simp at h; omega)
      conv => whnf
      refine Br.intro (fun h => ?_) (fun h => absurd h (by simp; omega))
      conv => whnf
      refine Br.intro (fun h => ?_) (fun h => ?_)
      · conv => whnf
        exact k2 (by simp at *; omega) (by simp at *; omega)
      conv => whnf
      refine Br.intro (fun h => ?_) (fun h => absurd h (by simp; omega))
      conv => whnf
      refine Br.intro (fun h => ?_) (fun h => ?_)
      · conv => whnf
        exact k3 (by simp at *; omega) (by simp at *; omega)
      conv => whnf
      refine Br.intro (fun h => ?_) (fun h => absurd h (by simp; omega))
      conv => whnf
      refine Br.intro (fun h => ?_) (fun h => absurd h (by simp; omega))
      conv => whnf
      exact k4 (by simp at *; omega)
    · exact h.elim
  · exact h.elim
end
section
def gNames : List Str := ["bytearray", "put_whole", "put_varint", "put_numbers", "put_counted", "put_ack", "put_stream", "put_new_cid", "put_close", "put_octets_frame", "put_frame", "put_frames", "frame_size", "_law_packet_right"]
noncomputable def memS (x : Str) : List Str → Bool
  | [] => false
  | y :: r => match Fast.sEq x y with
    | true => true
    | false => memS x r
noncomputable def hasG : Nat → Expr → Bool
  | 0, _ => false
  | n + 1, e => match e with
    | .Call f args _ _ => (match f with | .Name x _ => memS x gNames | _ => false) || args.any (hasG n)
    | .BinOp l _ r _ => hasG n l || hasG n r
    | .Compare l _ rs _ => hasG n l || rs.any (hasG n)
    | .BoolOp _ vs _ => vs.any (hasG n)
    | .UnaryOp _ x _ => hasG n x
    | .IfExp t a b _ => hasG n t || hasG n a || hasG n b
    | .ListComp elt _ _ _ => hasG n elt
    | .Tuple es _ _ => es.any (hasG n)
    | .List es _ => es.any (hasG n)
    | .Subscript v _ _ => hasG n v
    | _ => false
inductive TkG where
  | e (e : Expr) (σ : SS) (K : AV → SS → Prop)
  | t (e : Expr) (σ : SS) (K : Bool → SS → Prop)
  | tl (op : BoolOp) (es : List Expr) (σ : SS) (K : Bool → SS → Prop)
  | l (pos : Pos) (es : List Expr) (σ : SS) (K : List AV → SS → Prop)
  | s (st : Stmt) (σ : SS) (K : SF → SS → Prop)
  | b (sts : List Stmt) (σ : SS) (K : SF → SS → Prop)
  | c (x : Str) (elt : Expr) (its acc : List SV) (cel : List SObj) (K : List SV → List SObj → Prop)
abbrev RunG := Ct → TkG → Prop
noncomputable def gApply (T : Tb) (rg : RunG) (C : Ct) (fv : AV) (pos : Pos) (args : List Expr) (σ : SS) (K : AV → SS → Prop) : Prop := match fv with
  | .v (.ref f) => (match fnk f T.fnG with
    | some sp => rg C (.l pos args σ fun as σ₂ => callS sp as σ₂ K)
    | none => (match fnk f T.fn with
      | some sp => rg C (.l pos args σ fun as σ₂ => callS sp as σ₂ K)
      | none => False))
  | .v (.bi b) => rg C (.l pos args σ fun as σ₂ => biD b as fun v => K (.v v) σ₂)
  | .v (.ty .bytearray) => rg C (.l pos args σ fun as σ₂ => baD as σ₂ K)
  | _ => False
noncomputable def gMeth (rg : RunG) (C : Ct) (name : Str) (a : AV) (pos : Pos) (args : List Expr) (σ : SS) (K : AV → SS → Prop) : Prop := match a with
  | .v (.bytes []) => Gd (Fast.sEq name "join") (rg C (.l pos args σ fun as σ₂ => joinD as fun v => K (.v v) σ₂))
  | _ => False
noncomputable def gCall (T : Tb) (r : Run) (rg : RunG) (C : Ct) (f : Expr) (args : List Expr) (pos : Pos) (σ : SS) (K : AV → SS → Prop) : Prop := match f with
  | .Name x _ => Gd (noStar args && hasArgs args) (nameE T C x σ fun fv σ₁ => gApply T rg C fv pos args σ₁ K)
  | .Attribute o name apos => Gd (mOk args apos pos && isBase o && hasArgs args) (r C (.e o σ fun a σ₁ => gMeth rg C name a pos args σ₁ K))
  | _ => False
noncomputable def gComp (r : Run) (rg : RunG) (C : Ct) (elt : Expr) (gens : List Comprehension) (sc : Scope) (σ : SS) (K : List SV → SS → Prop) : Prop := match gens with
  | [⟨.Name x _, iter, [], isa⟩] => Gd (!C.comp && scopeOk sc x && freesOk sc.names C.vid && decide (isa = 0) && !isSetE iter) (r C (.e iter σ fun a σ₁ => itD a fun its => Gd (Nat.ble its.length 16384) (Hold (rg (compCt C sc) (.c x elt its [] σ₁.cel fun acc cel => K acc ⟨σ₁.loc, cel⟩)))))
  | _ => False
def gCmp (r : Run) (rg : RunG) (C : Ct) (l : Expr) (ops : List CmpOp) (rs : List Expr) (σ : SS) (K : AV → SS → Prop) : Prop := match ops, rs with
  | [op], [x] => Gd (!behindInMarks op x) (rg C (.e l σ fun a σ₁ => rg C (.e x σ₁ fun b σ₂ => cmpD op a b fun v => K (.v v) σ₂)))
  | _, _ => False
def gOr (rg : RunG) (C : Ct) (op : BoolOp) (vs : List Expr) (σ : SS) (K : AV → SS → Prop) : Prop := match op, vs with
  | .Or, [a, b] => rg C (.e a σ fun v σ₁ => truD v fun c => Br c (K v σ₁) (rg C (.e b σ₁ K)))
  | _, _ => False
noncomputable def gE (T : Tb) (r : Run) (rg : RunG) (C : Ct) (e : Expr) (σ : SS) (K : AV → SS → Prop) : Prop := match hasG 12 e with
  | false => r C (.e e σ K)
  | true => (match e with
    | .BinOp l op x _ => rg C (.e l σ fun a σ₁ => rg C (.e x σ₁ fun b σ₂ => binD op a b fun v => K (.v v) σ₂))
    | .Compare l ops rs _ => gCmp r rg C l ops rs σ K
    | .IfExp t a b _ => rg C (.t t σ fun c σ₁ => Br c (rg C (.e a σ₁ K)) (rg C (.e b σ₁ K)))
    | .BoolOp op vs _ => gOr rg C op vs σ K
    | .Call f args kws pos => (match kws with | [] => gCall T r rg C f args pos σ K | _ => False)
    | .ListComp elt gens sc _ => gComp r rg C elt gens sc σ fun acc σ₁ => K (.v (.lst acc)) σ₁
    | _ => False)
def gChain (rg : RunG) (C : Ct) (l : Expr) (ops : List CmpOp) (rs : List Expr) (σ : SS) (K : Bool → SS → Prop) : Prop := match ops, rs with
  | [op], [x] => Gd (!behindInMarks op x) (rg C (.e l σ fun a σ₁ => rg C (.e x σ₁ fun b σ₂ => cmpD op a b fun c => truD (.v c) fun t => K t σ₂)))
  | _, _ => False
noncomputable def gT (r : Run) (rg : RunG) (C : Ct) (e : Expr) (σ : SS) (K : Bool → SS → Prop) : Prop := match hasG 12 e with
  | false => r C (.t e σ K)
  | true => (match e with
    | .UnaryOp .Not x _ => rg C (.t x σ fun b σ₁ => K (!b) σ₁)
    | .BoolOp op vs _ => rg C (.tl op vs σ K)
    | .Compare l ops rs _ => gChain rg C l ops rs σ K
    | e => Gd (plainT e) (rg C (.e e σ fun v σ₁ => truD v fun b => K b σ₁)))
def gTL (r : Run) (rg : RunG) (C : Ct) (op : BoolOp) (es : List Expr) (σ : SS) (K : Bool → SS → Prop) : Prop := match es with
  | [] => r C (.tl op [] σ K)
  | x :: rest => rg C (.t x σ fun b σ₁ => match op with | .And => Br b (rg C (.tl op rest σ₁ K)) (K false σ₁) | .Or => Br b (K true σ₁) (rg C (.tl op rest σ₁ K)))
def gL (rg : RunG) (C : Ct) (pos : Pos) (es : List Expr) (σ : SS) (K : List AV → SS → Prop) : Prop := match es with
  | [] => K [] σ
  | e :: es => Gd (noStar (e :: es)) (rg C (.e e σ fun a σ₁ => rg C (.l pos es σ₁ fun as σ₂ => K (a :: as) σ₂)))
def gB (rg : RunG) (C : Ct) (sts : List Stmt) (σ : SS) (K : SF → SS → Prop) : Prop := match sts with
  | [] => K .next σ
  | st :: rest => rg C (.s st σ fun f σ₁ => forceS σ₁ fun σ₁ => match f with | .next => rg C (.b rest σ₁ K) | f => K f σ₁)
noncomputable def gAsg (r : Run) (rg : RunG) (C : Ct) (ts : List Expr) (value : Expr) (pos : Pos) (σ : SS) (K : SF → SS → Prop) : Prop := match hasG 12 value with
  | false => r C (.s (.Assign ts value pos) σ K)
  | true => (match ts with
    | [.Name x _] => Gd (!isComp value) (rg C (.e value σ fun v σ₁ => storD C x v σ₁ fun σ₂ => K .next σ₂))
    | _ => False)
noncomputable def gS (r : Run) (rg : RunG) (C : Ct) (st : Stmt) (σ : SS) (K : SF → SS → Prop) : Prop := match st with
  | .Return (some e) _ => rg C (.e e σ fun v σ₁ => K (.ret v) σ₁)
  | .If t a b _ => rg C (.t t σ fun c σ₁ => Br c (rg C (.b a σ₁ K)) (rg C (.b b σ₁ K)))
  | .Assign ts value pos => gAsg r rg C ts value pos σ K
  | st => r C (.s st σ K)
def gC (rg : RunG) (C : Ct) (x : Str) (elt : Expr) (its acc : List SV) (cel : List SObj) (K : List SV → List SObj → Prop) : Prop := match its with
  | [] => K acc cel
  | d :: ds => rg C (.e elt ⟨[(x, .v d)], cel⟩ fun v σ₂ => asV v fun sv => rg C (.c x elt ds (acc ++ [sv]) σ₂.cel K))
noncomputable def stepG (T : Tb) (r : Run) (rg : RunG) (C : Ct) (t : TkG) : Prop := match t with
  | .e e σ K => gE T r rg C e σ K
  | .t e σ K => gT r rg C e σ K
  | .tl op es σ K => gTL r rg C op es σ K
  | .l pos es σ K => gL rg C pos es σ K
  | .s st σ K => gS r rg C st σ K
  | .b sts σ K => gB rg C sts σ K
  | .c x elt its acc cel K => gC rg C x elt its acc cel K
noncomputable def runG (T : Tb) : Nat → RunG
  | 0 => fun _ _ => False
  | n + 1 => fun C t => stepG T (run T n) (runG T n) C t
def TkG.sound (X : Fx) : TkG → Prop
  | .e x σ K => JEG X x σ K
  | .t x σ K => JTG X x σ K
  | .tl op es σ K => JTLG X op es σ K
  | .l pos es σ K => JLG X pos es σ K
  | .s st σ K => JSG X st σ K
  | .b sts σ K => JBG X sts σ K
  | .c x elt its acc cel K => JCmpG X x elt its acc cel K
abbrev SoundG (T : Tb) (rg : RunG) : Prop := ∀ X C t, Ctx T X C → rg C t → t.sound X
section
variable {X : Fx} {σ : SS} {T : Tb} {C : Ct} {r : Run} {rg : RunG} {n : Nat}
theorem SoundG.e (hr : SoundG T rg) (c : Ctx T X C) {e : Expr} {K : AV → SS → Prop} (h : rg C (.e e σ K)) : JEG X e σ K := hr X C _ c h
theorem SoundG.t (hr : SoundG T rg) (c : Ctx T X C) {e : Expr} {K : Bool → SS → Prop} (h : rg C (.t e σ K)) : JTG X e σ K := hr X C _ c h
theorem SoundG.tl (hr : SoundG T rg) (c : Ctx T X C) {op : BoolOp} {e : List Expr} {K : Bool → SS → Prop} (h : rg C (.tl op e σ K)) : JTLG X op e σ K := hr X C _ c h
theorem SoundG.l (hr : SoundG T rg) (c : Ctx T X C) {p : Pos} {e : List Expr} {K : List AV → SS → Prop} (h : rg C (.l p e σ K)) : JLG X p e σ K := hr X C _ c h
theorem SoundG.s (hr : SoundG T rg) (c : Ctx T X C) {e : Stmt} {K : SF → SS → Prop} (h : rg C (.s e σ K)) : JSG X e σ K := hr X C _ c h
theorem SoundG.b (hr : SoundG T rg) (c : Ctx T X C) {e : List Stmt} {K : SF → SS → Prop} (h : rg C (.b e σ K)) : JBG X e σ K := hr X C _ c h
theorem callG_ok (c : Ctx T X C) {f : Addr} {sp : Spec} (hf : fnk f T.fnG = some sp) {as : List AV} {K : AV → SS → Prop} (h : callS sp as σ K) : JCallG X (.ref f) as σ K := by
  obtain ⟨⟨D', U', fo, h1, h2⟩, _⟩ := c.tb.fnG f sp hf
  exact JCallG_of c.ok fo h1 h2 h
theorem gApply_ok (hr : SoundG T rg) (c : Ctx T X C) {fv : AV} {pos : Pos} {args : List Expr} {K : AV → SS → Prop} (h : gApply T rg C fv pos args σ K) : CallKG X pos args fv σ K := by
  unfold gApply at h
  split at h
  · split at h
    · rename_i sp e
      exact ⟨(c.tb.fnG _ sp e).2, (hr.l c h).mono fun as σ₂ h => callG_ok c e h⟩
    · split at h
      · rename_i sp e
        exact ⟨(c.tb.fn _ sp e).2, (hr.l c h).mono fun as σ₂ h => .of (call_ok c e h)⟩
      · exact h.elim
  · exact (hr.l c h).mono fun as σ₂ h => .of (biD_ok c.ok h)
  · exact (hr.l c h).mono fun as σ₂ h => baD_ok h
  · exact h.elim
theorem gCall_ok (hr : Sound T r n) (hg : SoundG T rg) (c : Ctx T X C) {f : Expr} {args : List Expr} {pos : Pos} {K : AV → SS → Prop} (h : gCall T r rg C f args pos σ K) : JEG X (.Call f args [] pos) σ K := by
  unfold gCall at h
  split at h
  · obtain ⟨g, h⟩ := h.out
    obtain ⟨g1, g2⟩ := Bool.and_eq_true_iff.mp g
    cases args with
    | nil => cases g2
    | cons e args => exact JEG_Call g1 ((nameE_ok c h).mono fun fv σ₁ h => gApply_ok hg c h)
  · obtain ⟨g, h⟩ := h.out
    obtain ⟨g, g3⟩ := Bool.and_eq_true_iff.mp g
    obtain ⟨g1, g2⟩ := Bool.and_eq_true_iff.mp g
    cases args with
    | nil => cases g3
    | cons e args =>
      refine JEG_MethB g2 g1 ((hr.e c h).mono fun a σ₁ h => ?_)
      unfold gMeth at h
      split at h
      · obtain ⟨g, h⟩ := h.out
        obtain rfl := Fast.sEq_iff.mp g
        exact ⟨"bytes.join", JGm_join, (hg.l c h).mono fun as σ₂ h => .of (run_join h)⟩
      · exact h.elim
  · exact h.elim
theorem gE_ok (hr : Sound T r n) (hg : SoundG T rg) (c : Ctx T X C) {e : Expr} {K : AV → SS → Prop} (h : gE T r rg C e σ K) : JEG X e σ K := by
  unfold gE at h
  split at h
  · exact .of (hr.e c h)
  · split at h
    · exact JEG_BinOp ((hg.e c h).mono fun a σ₁ h => (hg.e c h).mono fun b σ₂ h => binD_ok c.ok h)
    · unfold gCmp at h
      split at h
      · obtain ⟨g, h⟩ := h.out
        exact JEG_Compare (by simpa using g) ((hg.e c h).mono fun a σ₁ h => (hg.e c h).mono fun b σ₂ h => cmpD_ok c.ok c.u h)
      · exact h.elim
    · exact JEG_IfExp ((hg.t c h).mono fun t σ₁ h => h.mono (hg.e c) (hg.e c))
    · unfold gOr at h
      split at h
      · exact JEG_Or2 ((hg.e c h).mono fun v σ₁ k => (truD_ok (K := fun b σ₁ => Br b (K v σ₁) (rg C (.e _ σ₁ K))) k).mono fun b σ₂ k => k.mono (fun k => ⟨rfl, k⟩) (fun k => hg.e c k))
      · exact h.elim
    · split at h
      · exact gCall_ok hr hg c h
      · exact h.elim
    · unfold gComp at h
      split at h
      · rename_i x px iter isa _
        obtain ⟨g, h'⟩ := h.out
        obtain ⟨g, g5⟩ := Bool.and_eq_true_iff.mp g
        obtain ⟨g, g4⟩ := Bool.and_eq_true_iff.mp g
        obtain ⟨g, g3⟩ := Bool.and_eq_true_iff.mp g
        obtain ⟨g1, g2⟩ := Bool.and_eq_true_iff.mp g
        have hisa : isa = 0 := of_decide_eq_true g4
        subst hisa
        refine JEG_ListComp c.ok (c.ag.comp (by simpa using g1)) g2 (by rw [c.ag.vid]; exact g3) (isSetE_ok (by simpa using g5) _) ((hr.e c h').mono fun a σ₁ h => ?_)
        obtain ⟨its, hi, h⟩ := itD_ok (σ := σ₁) c h
        obtain ⟨g, h⟩ := h.out
        exact ⟨its, hi, Nat.le_of_ble_eq_true g, fun X' ic => hg X' _ _ (comp_ctx c ic) h.out⟩
      · exact h.elim
    · exact h.elim
theorem gT_ok (hr : Sound T r n) (hg : SoundG T rg) (c : Ctx T X C) {e : Expr} {K : Bool → SS → Prop} (h : gT r rg C e σ K) : JTG X e σ K := by
  unfold gT at h
  split at h
  · exact .of (hr.t c h)
  · split at h
    · exact JTG_Not (hg.t c h)
    · exact JTG_BoolOp (hg.tl c h)
    · unfold gChain at h
      split at h
      · obtain ⟨g, h⟩ := h.out
        exact JTG_Compare (by simpa using g) ((hg.e c h).mono fun a σ₁ h => (hg.e c h).mono fun b σ₂ h => (cmpD_ok (K := fun v σ' => truD v fun t => K t σ') c.ok c.u h).mono fun v σ' k => truD_ok k)
      · exact h.elim
    · obtain ⟨g, h⟩ := h.out
      exact JTG_plain ((hg.e c h).mono fun v σ₁ k => truD_ok k) (plainT_ok g _)
theorem stepG_ok (hr : Sound T r n) (hg : SoundG T rg) (c : Ctx T X C) (t : TkG) (h : stepG T r rg C t) : t.sound X := by
  cases t with
  | e e σ K => exact gE_ok hr hg c h
  | t e σ K => exact gT_ok hr hg c h
  | tl op es σ K =>
    cases es with
    | nil => exact .of (hr.tl c h)
    | cons x rest =>
      refine JTLG_cons ((hg.t c h).mono fun b σ₁ h => ?_)
      cases op
      · exact h.mono (hg.tl c) id
      · exact h.mono id (hg.tl c)
  | l pos es σ K =>
    cases es with
    | nil => exact JLG_nil h
    | cons e es => exact JLG_cons (starEach_cons (Gd.out h).1) ((hg.e c (Gd.out h).2).mono fun a σ₁ h => hg.l c h)
  | s st σ K =>
    have h : gS r rg C st σ K := h
    unfold gS at h
    split at h
    · exact JSG_Return (hg.e c h)
    · exact JSG_If ((hg.t c h).mono fun t σ₁ h => h.mono (hg.b c) (hg.b c))
    · unfold gAsg at h
      split at h
      · exact .of (hr.s c h)
      · split at h
        · obtain ⟨g, h⟩ := h.out
          exact JSG_AssignName (swaps_false (by simpa using g)) ((hg.e c h).mono fun v σ₁ h => storD_ok c h)
        · exact h.elim
    · exact .of (hr.s c h)
  | b sts σ K =>
    cases sts with
    | nil => exact JBG_nil h
    | cons st rest =>
      refine JBG_cons ((hg.s c h).mono fun f σ₁ h => ?_)
      replace h := (forceS_eq _ _).mp h
      cases f
      · exact hg.b c h
      · exact h
      · exact h
      · exact h
  | c x elt its acc cel K =>
    cases its with
    | nil => exact h
    | cons d ds =>
      refine (hg.e c h).mono fun v σ₂ h => ?_
      obtain ⟨sv, rfl, h'⟩ := asV_out h
      exact hg X C _ c h'
theorem runG_sound (T : Tb) : ∀ n, SoundG T (runG T n)
  | 0 => fun X C t c h => h.elim
  | n + 1 => fun X C t c h => stepG_ok (run_sound T n) (runG_sound T n) c t h
end
abbrev RnG (sp : Spec) (T : Tb) (N : Nat) (f : Addr) (mu : List Nat) (ns : List Str) (w : World) : Prop := ∀ (as : List AV) (cel : List SObj) (K : SV → List SObj → Prop), sp as cel K → runG T N (ctAt f w cel.length mu) (.b (bd f w.params) (entSS (scp f w.params) ns as cel) (Kret cel.length K))
theorem FnOkG.at {w : World} (f : Addr) {D U : Nat} {sp : Spec} {ns : List Str} {T : Tb} (mu : List Nat) (N : Nat)
    (hf : FnAt f w) (hb : Bnd (prm f w.params) ns)
    (hc : ScOk (scp f w.params) ns)
    (hlen : ∀ as cel K, sp as cel K → as.length = ns.length) (tb : TbOk w D U T) (hU : 10 ≤ U)
    (h : RnG sp T N f mu ns w) : FnOkG w f (D + 1) (U + 3) sp :=
  FnOkG.of_body hf hb hc hlen fun X as cel K O hw hD hU' ag hsp =>
    runG_sound T N X _ (.b (bd f w.params) _ _) ⟨O, ⟨ag.names, ag.vid, fun _ => ag.comp, quiet_of O⟩, by rw [hw, hD, hU']; exact tb, by rw [hU']; exact hU⟩ (h as cel K hsp)
theorem FnOkC.at {w : World} (f : Addr) {D U : Nat} {sp : Spec} {ns : List Str} {T : Tb} (mu : List Nat) (N : Nat)
    (hf : FnAt f w) (hb : Bnd (prm f w.params) ns)
    (hc : ScOk (scp f w.params) ns)
    (hlen : ∀ as cel K, sp as cel K → as.length = ns.length) (tb : TbOk w D U T) (hU : 10 ≤ U)
    (h : Rn sp T N f mu ns w) : FnOkC w f (D + 1) (U + 3) sp :=
  FnOkC.of_body hf hb hc hlen fun X as cel K O hw hD hU' ag hsp =>
    run_sound T N X _ (.b (bd f w.params) _ _) ⟨O, ⟨ag.names, ag.vid, fun _ => ag.comp, quiet_of O⟩, by rw [hw, hD, hU']; exact tb, by rw [hU']; exact hU⟩ (h as cel K hsp)
end
section
noncomputable def gv (x : Str) (P : Params) : Value := match nsIn (tp.heap_1 P) mainGlobals x with
  | some (some v) => v
  | _ => .none
def GoodG (w : World) (x : Str) (sv : SV) : Prop := (∃ v, nsIn (tp.heap_1 w.params) mainGlobals x = some (some v) ∧ KV w v sv) ∨ (x ≠ "__name__" ∧ nsIn (tp.heap_1 w.params) mainGlobals x = some none ∧ ∃ v, bootBuiltins x = some v ∧ KV w v sv)
inductive GAll (w : World) : List (Str × SV) → Prop
  | nil : GAll w []
  | cons {x : Str} {sv : SV} {l : List (Str × SV)} : GoodG w x sv → GAll w l → GAll w ((x, sv) :: l)
theorem GAll.get {w : World} {l : List (Str × SV)} (h : GAll w l) : ∀ x sv, glk x l = some sv → GoodG w x sv := by
  induction h with
  | nil => intro x sv e; cases e
  | cons g _ ih =>
    intro x sv e
    unfold glk at e
    split at e
    · rename_i q; cases e; rw [Fast.sEq_iff.mp q]; exact g
    · exact ih x sv e
def sVARINT_SIZES : SV := .tup [.int 1, .int 2, .int 4, .int 8]
theorem g_0 (w : World) : GoodG w "VARINT_SIZES" sVARINT_SIZES := .inl ⟨gv "VARINT_SIZES" w.params, by kernel_rfl, fun P hP => (.tup (a := 62) (hP _ _ rfl) (.cons (.int _ _) (.cons (.int _ _) (.cons (.int _ _) (.cons (.int _ _) .nil)))))⟩
def sPLAIN_FRAMES : SV := .dic [(.int 1, .tup [.str "ping", .int 0]), (.int 4, .tup [.str "reset_stream", .int 3]), (.int 5, .tup [.str "stop_sending", .int 2]), (.int 16, .tup [.str "max_data", .int 1]), (.int 17, .tup [.str "max_stream_data", .int 2]), (.int 20, .tup [.str "data_blocked", .int 1]), (.int 21, .tup [.str "stream_data_blocked", .int 2]), (.int 25, .tup [.str "retire_connection_id", .int 1]), (.int 30, .tup [.str "handshake_done", .int 0])]
theorem g_1 (w : World) : GoodG w "PLAIN_FRAMES" sPLAIN_FRAMES := .inl ⟨gv "PLAIN_FRAMES" w.params, by kernel_rfl, fun P hP => (.dic (a := 154) (hP _ _ rfl) rfl (.cons (.int rfl rfl) (.tup (a := _) (hP _ _ rfl) (.cons (.str _ _) (.cons (.int _ _) .nil))) (.cons (.int rfl rfl) (.tup (a := _) (hP _ _ rfl) (.cons (.str _ _) (.cons (.int _ _) .nil))) (.cons (.int rfl rfl) (.tup (a := _) (hP _ _ rfl) (.cons (.str _ _) (.cons (.int _ _) .nil))) (.cons (.int rfl rfl) (.tup (a := _) (hP _ _ rfl) (.cons (.str _ _) (.cons (.int _ _) .nil))) (.cons (.int rfl rfl) (.tup (a := _) (hP _ _ rfl) (.cons (.str _ _) (.cons (.int _ _) .nil))) (.cons (.int rfl rfl) (.tup (a := _) (hP _ _ rfl) (.cons (.str _ _) (.cons (.int _ _) .nil))) (.cons (.int rfl rfl) (.tup (a := _) (hP _ _ rfl) (.cons (.str _ _) (.cons (.int _ _) .nil))) (.cons (.int rfl rfl) (.tup (a := _) (hP _ _ rfl) (.cons (.str _ _) (.cons (.int _ _) .nil))) (.cons (.int rfl rfl) (.tup (a := _) (hP _ _ rfl) (.cons (.str _ _) (.cons (.int _ _) .nil))) .nil))))))))))⟩
def sCOUNT_FRAMES : SV := .dic [(.int 18, .tup [.str "max_streams", .bool false]), (.int 19, .tup [.str "max_streams", .bool true]), (.int 22, .tup [.str "streams_blocked", .bool false]), (.int 23, .tup [.str "streams_blocked", .bool true])]
theorem g_2 (w : World) : GoodG w "COUNT_FRAMES" sCOUNT_FRAMES := .inl ⟨gv "COUNT_FRAMES" w.params, by kernel_rfl, fun P hP => (.dic (a := 164) (hP _ _ rfl) rfl (.cons (.int rfl rfl) (.tup (a := _) (hP _ _ rfl) (.cons (.str _ _) (.cons (.bool _) .nil))) (.cons (.int rfl rfl) (.tup (a := _) (hP _ _ rfl) (.cons (.str _ _) (.cons (.bool _) .nil))) (.cons (.int rfl rfl) (.tup (a := _) (hP _ _ rfl) (.cons (.str _ _) (.cons (.bool _) .nil))) (.cons (.int rfl rfl) (.tup (a := _) (hP _ _ rfl) (.cons (.str _ _) (.cons (.bool _) .nil))) .nil)))))⟩
def sPLACES : SV := .dic [(.str "padding", .str "IH01"), (.str "ping", .str "IH01"), (.str "ack", .str "IH1"), (.str "reset_stream", .str "01"), (.str "stop_sending", .str "01"), (.str "crypto", .str "IH1"), (.str "new_token", .str "1"), (.str "stream", .str "01"), (.str "max_data", .str "01"), (.str "max_stream_data", .str "01"), (.str "max_streams", .str "01"), (.str "data_blocked", .str "01"), (.str "stream_data_blocked", .str "01"), (.str "streams_blocked", .str "01"), (.str "new_connection_id", .str "01"), (.str "retire_connection_id", .str "1"), (.str "path_challenge", .str "01"), (.str "path_response", .str "1"), (.str "close", .str "IH01"), (.str "handshake_done", .str "1")]
theorem g_3 (w : World) : GoodG w "PLACES" sPLACES := .inl ⟨gv "PLACES" w.params, by kernel_rfl, fun P hP => (.dic (a := 263) (hP _ _ rfl) rfl (.cons (.str rfl rfl) (.str _ _) (.cons (.str rfl rfl) (.str _ _) (.cons (.str rfl rfl) (.str _ _) (.cons (.str rfl rfl) (.str _ _) (.cons (.str rfl rfl) (.str _ _) (.cons (.str rfl rfl) (.str _ _) (.cons (.str rfl rfl) (.str _ _) (.cons (.str rfl rfl) (.str _ _) (.cons (.str rfl rfl) (.str _ _) (.cons (.str rfl rfl) (.str _ _) (.cons (.str rfl rfl) (.str _ _) (.cons (.str rfl rfl) (.str _ _) (.cons (.str rfl rfl) (.str _ _) (.cons (.str rfl rfl) (.str _ _) (.cons (.str rfl rfl) (.str _ _) (.cons (.str rfl rfl) (.str _ _) (.cons (.str rfl rfl) (.str _ _) (.cons (.str rfl rfl) (.str _ _) (.cons (.str rfl rfl) (.str _ _) (.cons (.str rfl rfl) (.str _ _) .nil)))))))))))))))))))))⟩
def sLETTERS : SV := .dic [(.str "initial", .str "I"), (.str "handshake", .str "H"), (.str "zero", .str "0"), (.str "short", .str "1")]
theorem g_4 (w : World) : GoodG w "LETTERS" sLETTERS := .inl ⟨gv "LETTERS" w.params, by kernel_rfl, fun P hP => (.dic (a := 265) (hP _ _ rfl) rfl (.cons (.str rfl rfl) (.str _ _) (.cons (.str rfl rfl) (.str _ _) (.cons (.str rfl rfl) (.str _ _) (.cons (.str rfl rfl) (.str _ _) .nil)))))⟩
def sNOT_ELICITING : SV := .tup [.str "ack", .str "padding", .str "close"]
theorem g_5 (w : World) : GoodG w "NOT_ELICITING" sNOT_ELICITING := .inl ⟨gv "NOT_ELICITING" w.params, by kernel_rfl, fun P hP => (.tup (a := 266) (hP _ _ rfl) (.cons (.str _ _) (.cons (.str _ _) (.cons (.str _ _) .nil))))⟩
def sPROBING : SV := .tup [.str "path_challenge", .str "path_response", .str "new_connection_id", .str "padding"]
theorem g_6 (w : World) : GoodG w "PROBING" sPROBING := .inl ⟨gv "PROBING" w.params, by kernel_rfl, fun P hP => (.tup (a := 267) (hP _ _ rfl) (.cons (.str _ _) (.cons (.str _ _) (.cons (.str _ _) (.cons (.str _ _) .nil)))))⟩
def sSERVER_ALONE : SV := .tup [.str "new_token", .str "handshake_done"]
theorem g_7 (w : World) : GoodG w "SERVER_ALONE" sSERVER_ALONE := .inl ⟨gv "SERVER_ALONE" w.params, by kernel_rfl, fun P hP => (.tup (a := 268) (hP _ _ rfl) (.cons (.str _ _) (.cons (.str _ _) .nil)))⟩
def sNUMBER_FRAMES : SV := .dic [(.str "ping", .int 1), (.str "reset_stream", .int 4), (.str "stop_sending", .int 5), (.str "max_data", .int 16), (.str "max_stream_data", .int 17), (.str "data_blocked", .int 20), (.str "stream_data_blocked", .int 21), (.str "retire_connection_id", .int 25), (.str "handshake_done", .int 30)]
theorem g_8 (w : World) : GoodG w "NUMBER_FRAMES" sNUMBER_FRAMES := .inl ⟨gv "NUMBER_FRAMES" w.params, by kernel_rfl, fun P hP => (.dic (a := 338) (hP _ _ rfl) rfl (.cons (.str rfl rfl) (.int _ _) (.cons (.str rfl rfl) (.int _ _) (.cons (.str rfl rfl) (.int _ _) (.cons (.str rfl rfl) (.int _ _) (.cons (.str rfl rfl) (.int _ _) (.cons (.str rfl rfl) (.int _ _) (.cons (.str rfl rfl) (.int _ _) (.cons (.str rfl rfl) (.int _ _) (.cons (.str rfl rfl) (.int _ _) .nil))))))))))⟩
def slaw_kinds : SV := .tup [.str "ping", .str "ack", .str "crypto", .str "stream", .str "max_data", .str "max_streams", .str "new_connection_id", .str "path_response", .str "close", .str "handshake_done", .str "retire_connection_id", .str "path_challenge", .str "new_token"]
theorem g_9 (w : World) : GoodG w "_law_kinds" slaw_kinds := .inl ⟨gv "_law_kinds" w.params, by kernel_rfl, fun P hP => (.tup (a := 412) (hP _ _ rfl) (.cons (.str _ _) (.cons (.str _ _) (.cons (.str _ _) (.cons (.str _ _) (.cons (.str _ _) (.cons (.str _ _) (.cons (.str _ _) (.cons (.str _ _) (.cons (.str _ _) (.cons (.str _ _) (.cons (.str _ _) (.cons (.str _ _) (.cons (.str _ _) .nil))))))))))))))⟩
theorem g_10 (w : World) : GoodG w "PROTOCOL_VIOLATION" (.int 10) := .inl ⟨gv "PROTOCOL_VIOLATION" w.params, by kernel_rfl, fun P hP => .int _ _⟩
theorem g_11 (w : World) : GoodG w "PADDING" (.int 0) := .inl ⟨gv "PADDING" w.params, by kernel_rfl, fun P hP => .int _ _⟩
theorem g_12 (w : World) : GoodG w "ACK" (.int 2) := .inl ⟨gv "ACK" w.params, by kernel_rfl, fun P hP => .int _ _⟩
theorem g_13 (w : World) : GoodG w "ACK_ECN" (.int 3) := .inl ⟨gv "ACK_ECN" w.params, by kernel_rfl, fun P hP => .int _ _⟩
theorem g_14 (w : World) : GoodG w "CRYPTO" (.int 6) := .inl ⟨gv "CRYPTO" w.params, by kernel_rfl, fun P hP => .int _ _⟩
theorem g_15 (w : World) : GoodG w "NEW_TOKEN" (.int 7) := .inl ⟨gv "NEW_TOKEN" w.params, by kernel_rfl, fun P hP => .int _ _⟩
theorem g_16 (w : World) : GoodG w "STREAM" (.int 8) := .inl ⟨gv "STREAM" w.params, by kernel_rfl, fun P hP => .int _ _⟩
theorem g_17 (w : World) : GoodG w "MAX_STREAMS_BIDI" (.int 18) := .inl ⟨gv "MAX_STREAMS_BIDI" w.params, by kernel_rfl, fun P hP => .int _ _⟩
theorem g_18 (w : World) : GoodG w "MAX_STREAMS_UNI" (.int 19) := .inl ⟨gv "MAX_STREAMS_UNI" w.params, by kernel_rfl, fun P hP => .int _ _⟩
theorem g_21 (w : World) : GoodG w "NEW_CONNECTION_ID" (.int 24) := .inl ⟨gv "NEW_CONNECTION_ID" w.params, by kernel_rfl, fun P hP => .int _ _⟩
theorem g_22 (w : World) : GoodG w "PATH_CHALLENGE" (.int 26) := .inl ⟨gv "PATH_CHALLENGE" w.params, by kernel_rfl, fun P hP => .int _ _⟩
theorem g_23 (w : World) : GoodG w "PATH_RESPONSE" (.int 27) := .inl ⟨gv "PATH_RESPONSE" w.params, by kernel_rfl, fun P hP => .int _ _⟩
theorem g_24 (w : World) : GoodG w "CLOSE" (.int 28) := .inl ⟨gv "CLOSE" w.params, by kernel_rfl, fun P hP => .int _ _⟩
theorem g_25 (w : World) : GoodG w "CLOSE_APPLICATION" (.int 29) := .inl ⟨gv "CLOSE_APPLICATION" w.params, by kernel_rfl, fun P hP => .int _ _⟩
theorem g_26 (w : World) : GoodG w "BIT_FIN" (.int 1) := .inl ⟨gv "BIT_FIN" w.params, by kernel_rfl, fun P hP => .int _ _⟩
theorem g_27 (w : World) : GoodG w "BIT_LENGTH" (.int 2) := .inl ⟨gv "BIT_LENGTH" w.params, by kernel_rfl, fun P hP => .int _ _⟩
theorem g_28 (w : World) : GoodG w "BIT_OFFSET" (.int 4) := .inl ⟨gv "BIT_OFFSET" w.params, by kernel_rfl, fun P hP => .int _ _⟩
theorem g_29 (w : World) : GoodG w "GREATEST" (.int 4611686018427387903) := .inl ⟨gv "GREATEST" w.params, by kernel_rfl, fun P hP => .int _ _⟩
theorem g_30 (w : World) : GoodG w "MOST_STREAMS" (.int 1152921504606846976) := .inl ⟨gv "MOST_STREAMS" w.params, by kernel_rfl, fun P hP => .int _ _⟩
theorem g_31 (w : World) : GoodG w "CID_SIZE" (.int 20) := .inl ⟨gv "CID_SIZE" w.params, by kernel_rfl, fun P hP => .int _ _⟩
theorem g_32 (w : World) : GoodG w "TOKEN_SIZE" (.int 16) := .inl ⟨gv "TOKEN_SIZE" w.params, by kernel_rfl, fun P hP => .int _ _⟩
theorem g_33 (w : World) : GoodG w "CHALLENGE_SIZE" (.int 8) := .inl ⟨gv "CHALLENGE_SIZE" w.params, by kernel_rfl, fun P hP => .int _ _⟩
theorem g_34 (w : World) : GoodG w "put_whole" (.ref 69) := .inl ⟨.ref 69, by kernel_rfl, fun P hP => .ref _⟩
theorem g_35 (w : World) : GoodG w "get_whole" (.ref 76) := .inl ⟨.ref 76, by kernel_rfl, fun P hP => .ref _⟩
theorem g_36 (w : World) : GoodG w "varint_size" (.ref 83) := .inl ⟨.ref 83, by kernel_rfl, fun P hP => .ref _⟩
theorem g_37 (w : World) : GoodG w "put_varint" (.ref 90) := .inl ⟨.ref 90, by kernel_rfl, fun P hP => .ref _⟩
theorem g_38 (w : World) : GoodG w "get_varint" (.ref 97) := .inl ⟨.ref 97, by kernel_rfl, fun P hP => .ref _⟩
theorem g_39 (w : World) : GoodG w "Reader" (.ref 149) := .inl ⟨.ref 149, by kernel_rfl, fun P hP => .ref _⟩
theorem g_40 (w : World) : GoodG w "read_type" (.ref 182) := .inl ⟨.ref 182, by kernel_rfl, fun P hP => .ref _⟩
theorem g_41 (w : World) : GoodG w "read_counted" (.ref 189) := .inl ⟨.ref 189, by kernel_rfl, fun P hP => .ref _⟩
theorem g_42 (w : World) : GoodG w "read_ranges" (.ref 196) := .inl ⟨.ref 196, by kernel_rfl, fun P hP => .ref _⟩
theorem g_43 (w : World) : GoodG w "read_ack" (.ref 201) := .inl ⟨.ref 201, by kernel_rfl, fun P hP => .ref _⟩
theorem g_44 (w : World) : GoodG w "read_stream" (.ref 208) := .inl ⟨.ref 208, by kernel_rfl, fun P hP => .ref _⟩
theorem g_45 (w : World) : GoodG w "read_crypto" (.ref 215) := .inl ⟨.ref 215, by kernel_rfl, fun P hP => .ref _⟩
theorem g_46 (w : World) : GoodG w "read_new_cid" (.ref 222) := .inl ⟨.ref 222, by kernel_rfl, fun P hP => .ref _⟩
theorem g_47 (w : World) : GoodG w "read_close" (.ref 229) := .inl ⟨.ref 229, by kernel_rfl, fun P hP => .ref _⟩
theorem g_48 (w : World) : GoodG w "read_octets_frame" (.ref 243) := .inl ⟨.ref 243, by kernel_rfl, fun P hP => .ref _⟩
theorem g_49 (w : World) : GoodG w "read_body" (.ref 248) := .inl ⟨.ref 248, by kernel_rfl, fun P hP => .ref _⟩
theorem g_50 (w : World) : GoodG w "read_frame" (.ref 255) := .inl ⟨.ref 255, by kernel_rfl, fun P hP => .ref _⟩
theorem g_51 (w : World) : GoodG w "read_frames" (.ref 262) := .inl ⟨.ref 262, by kernel_rfl, fun P hP => .ref _⟩
theorem g_52 (w : World) : GoodG w "may_stand" (.ref 275) := .inl ⟨.ref 275, by kernel_rfl, fun P hP => .ref _⟩
theorem g_53 (w : World) : GoodG w "is_eliciting" (.ref 282) := .inl ⟨.ref 282, by kernel_rfl, fun P hP => .ref _⟩
theorem g_54 (w : World) : GoodG w "counts_in_flight" (.ref 289) := .inl ⟨.ref 289, by kernel_rfl, fun P hP => .ref _⟩
theorem g_55 (w : World) : GoodG w "is_probing" (.ref 296) := .inl ⟨.ref 296, by kernel_rfl, fun P hP => .ref _⟩
theorem g_56 (w : World) : GoodG w "any_eliciting" (.ref 301) := .inl ⟨.ref 301, by kernel_rfl, fun P hP => .ref _⟩
theorem g_57 (w : World) : GoodG w "any_in_flight" (.ref 306) := .inl ⟨.ref 306, by kernel_rfl, fun P hP => .ref _⟩
theorem g_58 (w : World) : GoodG w "are_probing" (.ref 311) := .inl ⟨.ref 311, by kernel_rfl, fun P hP => .ref _⟩
theorem g_61 (w : World) : GoodG w "check_frames" (.ref 332) := .inl ⟨.ref 332, by kernel_rfl, fun P hP => .ref _⟩
theorem g_62 (w : World) : GoodG w "without_kinds" (.ref 337) := .inl ⟨.ref 337, by kernel_rfl, fun P hP => .ref _⟩
theorem g_63 (w : World) : GoodG w "put_numbers" (.ref 343) := .inl ⟨.ref 343, by kernel_rfl, fun P hP => .ref _⟩
theorem g_64 (w : World) : GoodG w "put_counted" (.ref 350) := .inl ⟨.ref 350, by kernel_rfl, fun P hP => .ref _⟩
theorem g_65 (w : World) : GoodG w "ack_numbers" (.ref 357) := .inl ⟨.ref 357, by kernel_rfl, fun P hP => .ref _⟩
theorem g_66 (w : World) : GoodG w "put_ack" (.ref 364) := .inl ⟨.ref 364, by kernel_rfl, fun P hP => .ref _⟩
theorem g_67 (w : World) : GoodG w "put_stream" (.ref 371) := .inl ⟨.ref 371, by kernel_rfl, fun P hP => .ref _⟩
theorem g_68 (w : World) : GoodG w "put_new_cid" (.ref 378) := .inl ⟨.ref 378, by kernel_rfl, fun P hP => .ref _⟩
theorem g_69 (w : World) : GoodG w "put_close" (.ref 385) := .inl ⟨.ref 385, by kernel_rfl, fun P hP => .ref _⟩
theorem g_70 (w : World) : GoodG w "put_octets_frame" (.ref 392) := .inl ⟨.ref 392, by kernel_rfl, fun P hP => .ref _⟩
theorem g_71 (w : World) : GoodG w "put_frame" (.ref 399) := .inl ⟨.ref 399, by kernel_rfl, fun P hP => .ref _⟩
theorem g_72 (w : World) : GoodG w "put_frames" (.ref 404) := .inl ⟨.ref 404, by kernel_rfl, fun P hP => .ref _⟩
theorem g_73 (w : World) : GoodG w "frame_size" (.ref 411) := .inl ⟨.ref 411, by kernel_rfl, fun P hP => .ref _⟩
theorem g_74 (w : World) : GoodG w "_law_places" (.ref 419) := .inl ⟨.ref 419, by kernel_rfl, fun P hP => .ref _⟩
theorem g_75 (w : World) : GoodG w "_law_take" (.ref 426) := .inl ⟨.ref 426, by kernel_rfl, fun P hP => .ref _⟩
theorem g_76 (w : World) : GoodG w "_law_number" (.ref 433) := .inl ⟨.ref 433, by kernel_rfl, fun P hP => .ref _⟩
theorem g_77 (w : World) : GoodG w "_law_some" (.ref 440) := .inl ⟨.ref 440, by kernel_rfl, fun P hP => .ref _⟩
theorem g_78 (w : World) : GoodG w "_law_frame" (.ref 447) := .inl ⟨.ref 447, by kernel_rfl, fun P hP => .ref _⟩
theorem g_79 (w : World) : GoodG w "_law_varint" (.ref 452) := .inl ⟨.ref 452, by kernel_rfl, fun P hP => .ref _⟩
theorem g_80 (w : World) : GoodG w "_law_counted" (.ref 459) := .inl ⟨.ref 459, by kernel_rfl, fun P hP => .ref _⟩
theorem g_81 (w : World) : GoodG w "_law_parts" (.ref 466) := .inl ⟨.ref 466, by kernel_rfl, fun P hP => .ref _⟩
theorem g_82 (w : World) : GoodG w "_law_written" (.ref 473) := .inl ⟨.ref 473, by kernel_rfl, fun P hP => .ref _⟩
theorem g_83 (w : World) : GoodG w "_law_may_be" (.ref 480) := .inl ⟨.ref 480, by kernel_rfl, fun P hP => .ref _⟩
theorem g_84 (w : World) : GoodG w "_law_judged" (.ref 487) := .inl ⟨.ref 487, by kernel_rfl, fun P hP => .ref _⟩
theorem g_86 (w : World) : GoodG w "QuicError" (.ref 38) := .inl ⟨.ref 38, by kernel_rfl, fun P hP => .ref _⟩
theorem g_87 (w : World) : GoodG w "len" (.bi .len) := .inr ⟨by decide, by kernel_rfl, _, by kernel_rfl, fun P hP => .bi _⟩
theorem g_88 (w : World) : GoodG w "min" (.bi .min) := .inr ⟨by decide, by kernel_rfl, _, by kernel_rfl, fun P hP => .bi _⟩
theorem g_89 (w : World) : GoodG w "sum" (.bi .sum) := .inr ⟨by decide, by kernel_rfl, _, by kernel_rfl, fun P hP => .bi _⟩
theorem g_90 (w : World) : GoodG w "isinstance" (.bi .isi) := .inr ⟨by decide, by kernel_rfl, _, by kernel_rfl, fun P hP => .bi _⟩
theorem g_91 (w : World) : GoodG w "range" (.ty .range) := .inr ⟨by decide, by kernel_rfl, _, by kernel_rfl, fun P hP => .ty _⟩
theorem g_92 (w : World) : GoodG w "bytes" (.ty .bytes) := .inr ⟨by decide, by kernel_rfl, _, by kernel_rfl, fun P hP => .ty _⟩
theorem g_93 (w : World) : GoodG w "bytearray" (.ty .bytearray) := .inr ⟨by decide, by kernel_rfl, _, by kernel_rfl, fun P hP => .ty _⟩
theorem g_94 (w : World) : GoodG w "tuple" (.ty .tuple) := .inr ⟨by decide, by kernel_rfl, _, by kernel_rfl, fun P hP => .ty _⟩
theorem g_95 (w : World) : GoodG w "list" (.ty .list) := .inr ⟨by decide, by kernel_rfl, _, by kernel_rfl, fun P hP => .ty _⟩
theorem g_96 (w : World) : GoodG w "int" (.ty .int) := .inr ⟨by decide, by kernel_rfl, _, by kernel_rfl, fun P hP => .ty _⟩
theorem g_97 (w : World) : GoodG w "enumerate" (.ty .enumerate) := .inr ⟨by decide, by kernel_rfl, _, by kernel_rfl, fun P hP => .ty _⟩
end
section
inductive FAll (w : World) (D U : Nat) : List (Nat × Spec) → Prop
  | nil : FAll w D U []
  | cons {a D' U' : Nat} {sp : Spec} {l : List (Nat × Spec)} : FnOk w a D' U' sp → Nat.ble D' D = true → Nat.ble U' U = true → keepIn (tp.heap_1 w.params) (.ref a) = true → FAll w D U l → FAll w D U ((a, sp) :: l)
theorem FAll.get {w : World} {D U : Nat} {l : List (Nat × Spec)} (h : FAll w D U l) : ∀ a sp, fnk a l = some sp → (∃ D' U', FnOk w a D' U' sp ∧ D' ≤ D ∧ U' ≤ U) ∧ keepIn (tp.heap_1 w.params) (.ref a) = true := by
  induction h with
  | nil => intro a sp e; cases e
  | cons f d u k _ ih =>
    intro a sp e
    unfold fnk at e
    split at e
    · rename_i q; cases e; rw [Nat.eq_of_beq_eq_true q]; exact ⟨⟨_, _, f, Nat.le_of_ble_eq_true d, Nat.le_of_ble_eq_true u⟩, k⟩
    · exact ih a sp e
inductive GFAll (w : World) (D U : Nat) : List (Nat × Spec) → Prop
  | nil : GFAll w D U []
  | cons {a D' U' : Nat} {sp : Spec} {l : List (Nat × Spec)} : FnOkG w a D' U' sp → Nat.ble D' D = true → Nat.ble U' U = true → keepIn (tp.heap_1 w.params) (.ref a) = true → GFAll w D U l → GFAll w D U ((a, sp) :: l)
theorem GFAll.get {w : World} {D U : Nat} {l : List (Nat × Spec)} (h : GFAll w D U l) : ∀ a sp, fnk a l = some sp → (∃ D' U', FnOkG w a D' U' sp ∧ D' ≤ D ∧ U' ≤ U) ∧ keepIn (tp.heap_1 w.params) (.ref a) = true := by
  induction h with
  | nil => intro a sp e; cases e
  | cons f d u k _ ih =>
    intro a sp e
    unfold fnk at e
    split at e
    · rename_i q; cases e; rw [Nat.eq_of_beq_eq_true q]; exact ⟨⟨_, _, f, Nat.le_of_ble_eq_true d, Nat.le_of_ble_eq_true u⟩, k⟩
    · exact ih a sp e
inductive FdAll (w : World) : List (Nat × Str) → Prop
  | nil : FdAll w []
  | cons {C : Nat} {x : Str} {l : List (Nat × Str)} : FieldOk w C x → FdAll w l → FdAll w ((C, x) :: l)
theorem FdAll.get {w : World} {l : List (Nat × Str)} (h : FdAll w l) : ∀ C x, fieldk C x l = true → FieldOk w C x := by
  induction h with
  | nil => intro a sp e; cases e
  | cons f _ ih =>
    intro C x e
    unfold fieldk at e
    split at e
    · rename_i q
      obtain ⟨q1, q2⟩ := Bool.and_eq_true_iff.mp q
      rw [Nat.eq_of_beq_eq_true q1, Fast.sEq_iff.mp q2]; exact f
    · exact ih C x e
inductive MtAll (w : World) : List ((Nat × Str) × Nat) → Prop
  | nil : MtAll w []
  | cons {C f : Nat} {x : Str} {l : List ((Nat × Str) × Nat)} : MethOk w C x f → MtAll w l → MtAll w (((C, x), f) :: l)
theorem MtAll.get {w : World} {l : List ((Nat × Str) × Nat)} (h : MtAll w l) : ∀ C x f, methk C x l = some f → MethOk w C x f := by
  induction h with
  | nil => intro a sp f e; cases e
  | cons g _ ih =>
    intro C x f e
    unfold methk at e
    split at e
    · rename_i q
      obtain ⟨q1, q2⟩ := Bool.and_eq_true_iff.mp q
      cases e
      rw [Nat.eq_of_beq_eq_true q1, Fast.sEq_iff.mp q2]; exact g
    · exact ih C x f e
theorem tbOk {w : World} {D U : Nat} {gl : List (Str × SV)} {fn fnG : List (Nat × Spec)} {fd : List (Nat × Str)} {mt : List ((Nat × Str) × Nat)} (g : GAll w gl) (f : FAll w D U fn) (fg : GFAll w D U fnG) (fi : FdAll w fd) (m : MtAll w mt) : TbOk w D U { glob := gl, fn := fn, fnG := fnG, cls := [], field := fd, meth := mt } where
  glob := g.get
  fn := f.get
  fnG := fg.get
  cls := fun a sp e => by cases e
  field := fi.get
  meth := m.get
def beI : Nat → Int → List UInt8
  | 0, _ => []
  | k + 1, n => beI k (n.fdiv 256) ++ [(n.fmod 256).toNat.toUInt8]
def spI2 (p : Int → Int → (SV → Prop) → Prop) : Spec := fun as cel K => match as with
  | [.v (.int n), .v (.int m)] => (match cel with | [] => p n m fun v => K v [] | _ => False)
  | _ => False
theorem Br.f {b : Bool} {P Q : Prop} (h : b = false) (q : Q) : Br b P Q := by subst h; exact q
theorem Br.t {b : Bool} {P Q : Prop} (h : b = true) (q : P) : Br b P Q := by subst h; exact q
theorem and3 {a b c : Bool} (ha : a = true) (hb : b = true) (hc : c = true) : (a && b && c) = true := by rw [ha, hb, hc]; rfl
theorem and2 {a b : Bool} (ha : a = true) (hb : b = true) : (a && b) = true := by rw [ha, hb]; rfl
theorem b256_fmod (n : Int) : b256 (n.fmod 256) = true := by
  unfold b256
  have h1 := Int.fmod_nonneg_of_pos n (show (0 : Int) < 256 by decide)
  have h2 := Int.fmod_lt_of_pos n (show (0 : Int) < 256 by decide)
  rw [decide_eq_true h1, decide_eq_true h2]; rfl
theorem fdiv_ne {n m : Int} (h0 : 0 ≤ n) (h1 : n < m) : (n.fdiv m != 0) = false := by
  have : n.fdiv m = 0 := by rw [Int.fdiv_eq_ediv_of_nonneg _ (by omega)]; exact Int.ediv_eq_zero_of_lt h0 h1
  rw [this]; rfl
def spWhole : Spec := spI2 fun n s k => 0 ≤ n ∧ ((s = 1 ∧ n < 256 ∧ k (.bytes (beI 1 n))) ∨ (s = 2 ∧ n < 65536 ∧ k (.bytes (beI 2 n))) ∨ (s = 4 ∧ n < 4294967296 ∧ k (.bytes (beI 4 n))) ∨ (s = 8 ∧ n < 18446744073709551616 ∧ k (.bytes (beI 8 n))))
def T69 : Tb := { glob := [("range", .ty .range), ("bytes", .ty .bytes), ("bytearray", .ty .bytearray)], fn := [], field := [], meth := [] }
theorem whole_run (w : World) : RnG spWhole T69 200 69 [] ["n", "size"] w := fun as cel K h => by
  unfold spWhole spI2 at h
  split at h
  · split at h
    · rename_i n s
      obtain ⟨h0, ⟨rfl, h1, k⟩ | ⟨rfl, h1, k⟩ | ⟨rfl, h1, k⟩ | ⟨rfl, h1, k⟩⟩ := h
      · conv => whnf
        refine Br.f (by simp; omega) ?_
        conv => whnf
        refine Br.f (fdiv_ne h0 h1) ?_
        conv => whnf
        refine ⟨?_⟩
        conv => whnf
        refine Gd.mk (and3 rfl rfl (b256_fmod _)) ?_
        conv => whnf
        exact k
      · conv => whnf
        refine Br.f (by simp; omega) ?_
        conv => whnf
        refine Br.f (fdiv_ne h0 h1) ?_
        conv => whnf
        refine ⟨?_⟩
        conv => whnf
        refine Gd.mk (and3 rfl rfl (b256_fmod _)) ?_
        conv => whnf
        refine Gd.mk (and3 rfl rfl (b256_fmod _)) ?_
        conv => whnf
        exact k
      · conv => whnf
        refine Br.f (by simp; omega) ?_
        conv => whnf
        refine Br.f (fdiv_ne h0 h1) ?_
        conv => whnf
        refine ⟨?_⟩
        conv => whnf
        refine Gd.mk (and3 rfl rfl (b256_fmod _)) ?_
        conv => whnf
        refine Gd.mk (and3 rfl rfl (b256_fmod _)) ?_
        conv => whnf
        refine Gd.mk (and3 rfl rfl (b256_fmod _)) ?_
        conv => whnf
        refine Gd.mk (and3 rfl rfl (b256_fmod _)) ?_
        conv => whnf
        exact k
      · conv => whnf
        refine Br.f (by simp; omega) ?_
        conv => whnf
        refine Br.f (fdiv_ne h0 h1) ?_
        conv => whnf
        refine ⟨?_⟩
        conv => whnf
        refine Gd.mk (and3 rfl rfl (b256_fmod _)) ?_
        conv => whnf
        refine Gd.mk (and3 rfl rfl (b256_fmod _)) ?_
        conv => whnf
        refine Gd.mk (and3 rfl rfl (b256_fmod _)) ?_
        conv => whnf
        refine Gd.mk (and3 rfl rfl (b256_fmod _)) ?_
        conv => whnf
        refine Gd.mk (and3 rfl rfl (b256_fmod _)) ?_
        conv => whnf
        refine Gd.mk (and3 rfl rfl (b256_fmod _)) ?_
        conv => whnf
        refine Gd.mk (and3 rfl rfl (b256_fmod _)) ?_
        conv => whnf
        refine Gd.mk (and3 rfl rfl (b256_fmod _)) ?_
        conv => whnf
        exact k
    · exact h.elim
  · exact h.elim
theorem spI2_len {p : Int → Int → (SV → Prop) → Prop} (as : List AV) (cel : List SObj) (K : SV → List SObj → Prop) (h : spI2 p as cel K) : as.length = 2 := by
  unfold spI2 at h
  split at h
  · rfl
  · exact h.elim
theorem bindTwo {n1 n2 : Str} {f : Addr} {w : World} (hk : ∀ (fd : FuncData) (a b : Value), fd.params = prm f w.params → fd.defaults = .none → fd.kwdefaults = .none → bindArgs fd ⟨[a, b], []⟩ = pure [(n1, a), (n2, b)]) : ∀ (fd : FuncData) (vs : List Value), fd.params = prm f w.params → fd.defaults = .none → fd.kwdefaults = .none → vs.length = 2 → bindArgs fd ⟨vs, []⟩ = pure (([n1, n2] : List Str).zip vs) := by
  intro fd vs h h2 h3 hl
  match vs, hl with
  | [a, b], _ => exact hk fd a b h h2 h3
theorem in69 (w : World) : FnAt 69 w := ⟨_, _, _, _, _, _, _, _, _, rfl, by kernel_rfl⟩
theorem bind69 (w : World) : Bnd (prm 69 w.params) ["n", "size"] := bnd2 fun _ _ _ => by kernel_rfl
theorem ok69 (w : World) : FnOkG w 69 1 13 spWhole :=
  FnOkG.at (ns := ["n", "size"]) (T := T69) (U := 10) (D := 0) 69 [] 200 (in69 w) (bind69 w) (by kernel_rfl) spI2_len (tbOk (.cons (g_91 w) (.cons (g_92 w) (.cons (g_93 w) .nil))) .nil .nil .nil .nil) (by decide) (whole_run w)
end
section
theorem bitOr_nn {x y : Int} (hx : 0 ≤ x) (hy : 0 ≤ y) : Builtin.bitOr x y = ((x.toNat ||| y.toNat : Nat) : Int) := by
  unfold Builtin.bitOr Builtin.bitAnd
  have h1 : ¬ (0 ≤ Builtin.bitNot x) := by unfold Builtin.bitNot; omega
  have h2 : ¬ (0 ≤ Builtin.bitNot y) := by unfold Builtin.bitNot; omega
  rw [decide_eq_false h1, decide_eq_false h2]
  have e1 : Builtin.bitNot (Builtin.bitNot x) = x := by unfold Builtin.bitNot; omega
  have e2 : Builtin.bitNot (Builtin.bitNot y) = y := by unfold Builtin.bitNot; omega
  show Builtin.bitNot (Builtin.bitNot (((Builtin.bitNot (Builtin.bitNot x)).toNat ||| (Builtin.bitNot (Builtin.bitNot y)).toNat : Nat) : Int)) = _
  rw [e1, e2]
  unfold Builtin.bitNot; omega
theorem or_low {e i : Nat} {n : Int} (h0 : 0 ≤ n) (h1 : n < ((2 ^ i : Nat) : Int)) : Builtin.bitOr (((e * 2 ^ i : Nat)) : Int) n = n + ((e * 2 ^ i : Nat) : Int) := by
  rw [bitOr_nn (Int.natCast_nonneg _) h0]
  obtain ⟨m, rfl⟩ := Int.eq_ofNat_of_zero_le h0
  have hm : m < 2 ^ i := by exact_mod_cast h1
  have := Nat.two_pow_add_eq_or_of_lt hm e
  simp only [Int.toNat_natCast]
  rw [Nat.mul_comm e, ← this]
  push_cast; omega
theorem bitAnd_low {i : Nat} {n : Int} (h0 : 0 ≤ n) : Builtin.bitAnd n (((2 ^ i : Nat) : Int) - 1) = n % ((2 ^ i : Nat) : Int) := by
  obtain ⟨m, rfl⟩ := Int.eq_ofNat_of_zero_le h0
  have hp : 1 ≤ 2 ^ i := Nat.one_le_two_pow
  have e : (((2 ^ i : Nat) : Int) - 1) = ((2 ^ i - 1 : Nat) : Int) := by omega
  rw [e]
  unfold Builtin.bitAnd
  rw [decide_eq_true (Int.natCast_nonneg _), decide_eq_true (Int.natCast_nonneg _)]
  simp only [Int.toNat_natCast]
  rw [Nat.and_two_pow_sub_one_eq_mod]
  exact_mod_cast rfl
def foldBe (l : List UInt8) : Int := l.foldl (fun a c => a * 256 + (c.toNat : Int)) 0
theorem beI_length : ∀ k n, (beI k n).length = k
  | 0, _ => rfl
  | k + 1, n => by rw [beI, List.length_append, beI_length k]; rfl
theorem foldBe_beI : ∀ (k : Nat) (n : Int), 0 ≤ n → n < ((256 ^ k : Nat) : Int) → foldBe (beI k n) = n
  | 0, n, h0, h1 => by
    have : n = 0 := by simp at h1; omega
    subst this; rfl
  | k + 1, n, h0, h1 => by
    have hd : n.fdiv 256 = n / 256 := Int.fdiv_eq_ediv_of_nonneg _ (by omega)
    have hm : n.fmod 256 = n % 256 := Int.fmod_eq_emod_of_nonneg _ (by omega)
    have h2 : n / 256 < ((256 ^ k : Nat) : Int) := by
      have : ((256 ^ (k + 1) : Nat) : Int) = ((256 ^ k : Nat) : Int) * 256 := by rw [Nat.pow_succ]; push_cast; rfl
      rw [this] at h1
      omega
    have ih := foldBe_beI k (n / 256) (by omega) h2
    unfold foldBe at ih ⊢
    rw [beI, List.foldl_append, hd, ih, hm]
    show n / 256 * 256 + (((n % 256).toNat.toUInt8).toNat : Int) = n
    have hb : (n % 256).toNat < 256 := by omega
    rw [show ((n % 256).toNat.toUInt8).toNat = (n % 256).toNat from by simp [Nat.toUInt8]; omega]
    omega
def lv (n : Int) : Nat := if n < 64 then 0 else if n < 16384 then 1 else if n < 1073741824 then 2 else 3
def vb : Nat → Int → List UInt8
  | 0, n => beI 1 n
  | 1, n => beI 2 (n + 16384)
  | 2, n => beI 4 (n + 2147483648)
  | _, n => beI 8 (n + 13835058055282163712)
def spVar : Spec := fun as cel K => match as with
  | [.v (.int n), .v .none] => (match cel with | [] => 0 ≤ n ∧ n < 4611686018427387904 ∧ K (.bytes (vb (lv n) n)) [] | _ => False)
  | _ => False
theorem ok83 (w : World) : FnOk w 83 1 13 spSize :=
  FnOk.at (ns := ["n"]) (T := T0) (U := 10) (D := 0) 83 [] 200 (in83 w) (bind83 w) (by kernel_rfl) (fun as cel K h => by
    unfold spSize spInt at h
    split at h
    · rfl
    · exact h.elim) (tbOk (.cons (g_0 w) .nil) .nil .nil .nil .nil) (by decide) (varint_size_run w)
def T90 : Tb := { glob := [("varint_size", .ref 83), ("put_whole", .ref 69), ("VARINT_SIZES", sVARINT_SIZES)], fn := [(83, spSize)], fnG := [(69, spWhole)], field := [], meth := [] }
theorem put_varint_run (w : World) : RnG spVar T90 200 90 [] ["n", "size"] w := fun as cel K h => by
  unfold spVar at h
  split at h
  · split at h
    · rename_i n _
      obtain ⟨h0, h1, k⟩ := h
      conv => whnf
      refine ⟨h0, h1, fun q => ?_, fun q1 q2 => ?_, fun q1 q2 => ?_, fun q => ?_⟩
      · rw [show lv n = 0 from if_pos q] at k
        conv => whnf
        rw [show ((↑(0 : Nat) : Int) * 2 ^ (8 * 1 - 2 : Int).toNat) = ((0 * 2 ^ 6 : Nat) : Int) from rfl, or_low h0 (by omega)]
        refine ⟨by omega, .inl ⟨rfl, by omega, ?_⟩⟩
        conv => whnf
        rw [show n + ((0 * 2 ^ 6 : Nat) : Int) = n from Int.add_zero n]; exact k
      · rw [show lv n = 1 from by unfold lv; rw [if_neg (by omega), if_pos q2]] at k
        conv => whnf
        rw [show ((↑(1 : Nat) : Int) * 2 ^ (8 * 2 - 2 : Int).toNat) = ((1 * 2 ^ 14 : Nat) : Int) from rfl, or_low h0 (by omega)]
        refine ⟨by omega, .inr (.inl ⟨rfl, by omega, ?_⟩)⟩
        conv => whnf
        exact k
      · rw [show lv n = 2 from by unfold lv; rw [if_neg (by omega), if_neg (by omega), if_pos q2]] at k
        conv => whnf
        rw [show ((↑(2 : Nat) : Int) * 2 ^ (8 * 4 - 2 : Int).toNat) = ((2 * 2 ^ 30 : Nat) : Int) from rfl, or_low h0 (by omega)]
        refine ⟨by omega, .inr (.inr (.inl ⟨rfl, by omega, ?_⟩))⟩
        conv => whnf
        exact k
      · rw [show lv n = 3 from by unfold lv; rw [if_neg (by omega), if_neg (by omega), if_neg (by omega)]] at k
        conv => whnf
        rw [show ((↑(3 : Nat) : Int) * 2 ^ (8 * 8 - 2 : Int).toNat) = ((3 * 2 ^ 62 : Nat) : Int) from rfl, or_low h0 (by omega)]
        refine ⟨by omega, .inr (.inr (.inr ⟨rfl, by omega, ?_⟩))⟩
        conv => whnf
        exact k
    · exact h.elim
  · exact h.elim
theorem in90 (w : World) : FnAt 90 w := ⟨_, _, _, _, _, _, _, _, _, rfl, by kernel_rfl⟩
theorem bind90 (w : World) : Bnd (prm 90 w.params) ["n", "size"] := bnd2 fun _ _ _ => by kernel_rfl
theorem ok90 (w : World) : FnOkG w 90 2 16 spVar :=
  FnOkG.at (ns := ["n", "size"]) (T := T90) (U := 13) (D := 1) 90 [] 200 (in90 w) (bind90 w) (by kernel_rfl) (fun as cel K h => by
    unfold spVar at h
    split at h
    · rfl
    · exact h.elim) (tbOk (.cons (g_36 w) (.cons (g_34 w) (.cons (g_0 w) .nil))) (.cons (ok83 w) (by decide) (by decide) (by kernel_rfl) .nil) (.cons (ok69 w) (by decide) (by decide) (by kernel_rfl) .nil) .nil .nil) (by decide) (put_varint_run w)
end
section
def spGW : Spec := fun as cel K => match as with
  | [.v (.bytes d), .v (.int a), .v (.int s)] => (match cel with | [] => ∃ pre l rest, d = pre ++ l ++ rest ∧ a = (pre.length : Int) ∧ s = (l.length : Int) ∧ (l.length = 1 ∨ l.length = 2 ∨ l.length = 4 ∨ l.length = 8) ∧ d.length ≤ 1000000 ∧ K (.int (foldBe l)) [] | _ => False)
  | _ => False
theorem Hold.f_of {T : Tb} {n : Nat} {C : Ct} {t : Expr} {body : List Stmt} {its its' : List SV} {σ : SS} {K : SF → SS → Prop} (e : its = its') (h : Hold (run T n C (.f t body its' σ K))) : Hold (run T n C (.f t body its σ K)) := by subst e; exact h
theorem clip_len {n : Nat} {k : Nat} (h : k ≤ n) : clipAt n (k : Int) = k := by
  rw [clipAt_nat]; exact Nat.min_eq_left h
theorem slice_mid {α : Type} (pre l rest : List α) : sliceL (pre ++ l ++ rest) (some (pre.length : Int)) (some ((pre.length : Int) + (l.length : Int))) = l := by
  have e : (pre.length : Int) + (l.length : Int) = ((pre.length + l.length : Nat) : Int) := by push_cast; rfl
  unfold sliceL
  rw [e]
  simp only [Option.elim]
  rw [clip_len (by simp only [List.length_append]; omega), clip_len (by simp only [List.length_append]; omega)]
  rw [List.append_assoc, List.drop_left, Nat.add_sub_cancel_left]; exact List.take_left
theorem ble_of {a b : Nat} (h : a ≤ b) : Nat.ble a b = true := Nat.ble_eq_true_of_le h
def T76 : Tb := { glob := [("len", .bi .len)], fn := [], fnG := [], field := [], meth := [] }
theorem get_whole_run (w : World) : Rn spGW T76 200 76 [] ["data", "at", "size"] w := fun as cel K h => by
  unfold spGW at h
  split at h
  · split at h
    · obtain ⟨pre, l, rest, rfl, rfl, rfl, hl, hd, k⟩ := h
      conv => whnf
      refine Gd.mk (ble_of (Nat.le_trans hd (by decide))) ?_
      conv => whnf
      refine Br.f ?_ ?_
      · simp only [decide_eq_false_iff_not, List.length_append, Int.not_lt]; push_cast; omega
      conv => whnf
      refine Gd.mk (ble_of (Nat.le_trans hd (by decide))) ?_
      conv => whnf
      refine Hold.f_of (its' := bytesInts l) (congrArg bytesInts (slice_mid pre l rest)) ?_
      refine ⟨?_⟩
      rcases hl with hl | hl | hl | hl
      · match l, hl, k with
        | [a], _, k =>
          conv => whnf
          exact k
      · match l, hl, k with
        | [a, b], _, k =>
          conv => whnf
          exact k
      · match l, hl, k with
        | [a, b, c, d], _, k =>
          conv => whnf
          exact k
      · match l, hl, k with
        | [a, b, c, d, e, f, g, h], _, k =>
          conv => whnf
          exact k
    · exact h.elim
  · exact h.elim
theorem in76 (w : World) : FnAt 76 w := ⟨_, _, _, _, _, _, _, _, _, rfl, by kernel_rfl⟩
theorem bind76 (w : World) : Bnd (prm 76 w.params) ["data", "at", "size"] := bnd3 fun _ _ _ _ => by kernel_rfl
theorem ok76 (w : World) : FnOk w 76 1 13 spGW :=
  FnOk.at (ns := ["data", "at", "size"]) (T := T76) (U := 10) (D := 0) 76 [] 200 (in76 w) (bind76 w) (by kernel_rfl) (fun as cel K h => by
    unfold spGW at h
    split at h
    · rfl
    · exact h.elim) (tbOk (.cons (g_87 w) .nil) .nil .nil .nil .nil) (by decide) (get_whole_run w)
theorem be_head : ∀ (k : Nat) (m : Int), 0 ≤ m → m < ((256 ^ (k + 1) : Nat) : Int) → (((beI (k + 1) m).getD 0 0).toNat : Int) = m / ((256 ^ k : Nat) : Int)
  | 0, m, h0, h1 => by
    have hm : m.fmod 256 = m % 256 := Int.fmod_eq_emod_of_nonneg _ (by omega)
    show (((m.fmod 256).toNat.toUInt8).toNat : Int) = _
    rw [hm]
    have hb : (m % 256).toNat < 256 := by omega
    rw [show ((m % 256).toNat.toUInt8).toNat = (m % 256).toNat from by simp [Nat.toUInt8]; omega]
    simp at h1 ⊢; omega
  | k + 1, m, h0, h1 => by
    have hd : m.fdiv 256 = m / 256 := Int.fdiv_eq_ediv_of_nonneg _ (by omega)
    have e1 : ((256 ^ (k + 1 + 1) : Nat) : Int) = ((256 ^ (k + 1) : Nat) : Int) * 256 := by rw [Nat.pow_succ]; push_cast; rfl
    have e2 : ((256 ^ (k + 1) : Nat) : Int) = 256 * ((256 ^ k : Nat) : Int) := by rw [Nat.pow_succ, Nat.mul_comm]; push_cast; rfl
    have ih := be_head k (m / 256) (by omega) (by rw [e1] at h1; omega)
    have g : (beI (k + 1) (m / 256) ++ [(m.fmod 256).toNat.toUInt8]).getD 0 0 = (beI (k + 1) (m / 256)).getD 0 0 := by
      simp only [List.getD_eq_getElem?_getD]
      rw [List.getElem?_append_left (by rw [beI_length]; omega)]
    rw [beI, hd, g, ih, e2]
    rw [Int.ediv_ediv_of_nonneg (by omega)]
def lim : Nat → Int
  | 0 => 64
  | 1 => 16384
  | 2 => 1073741824
  | _ => 4611686018427387904
def sz : Nat → Nat
  | 0 => 1
  | 1 => 2
  | 2 => 4
  | _ => 8
theorem vb_len (e : Nat) (n : Int) : (vb e n).length = sz e := by
  match e with
  | 0 => exact beI_length _ _
  | 1 => exact beI_length _ _
  | 2 => exact beI_length _ _
  | e + 3 => exact beI_length _ _
def off : Nat → Int
  | 0 => 0
  | 1 => 16384
  | 2 => 2147483648
  | _ => 13835058055282163712
theorem vb_eq (e : Nat) (n : Int) : vb e n = beI (sz e) (n + off e) := by
  match e with
  | 0 => show beI 1 n = beI 1 (n + 0); rw [Int.add_zero]
  | 1 => rfl
  | 2 => rfl
  | e + 3 => rfl
theorem vb_fold {e : Nat} {n : Int} (h0 : 0 ≤ n) (h1 : n < lim e) : foldBe (vb e n) = n + off e := by
  rw [vb_eq]
  refine foldBe_beI _ _ ?_ ?_
  · match e with
    | 0 => simp [off]; omega
    | 1 => simp [off]; omega
    | 2 => simp [off]; omega
    | e + 3 => simp [off]; omega
  · match e, h1 with
    | 0, h1 => simp [off, sz, lim] at *; omega
    | 1, h1 => simp [off, sz, lim] at *; omega
    | 2, h1 => simp [off, sz, lim] at *; omega
    | e + 3, h1 => simp [off, sz, lim] at *; omega
theorem vb_first {e : Nat} {n : Int} (h0 : 0 ≤ n) (h1 : n < lim e) (he : e = 0 ∨ e = 1 ∨ e = 2 ∨ e = 3) (pre rest : List UInt8) : (((pre ++ vb e n ++ rest).getD ((pre.length : Int)).toNat 0).toNat : Int).fdiv (2 ^ (6 : Int).toNat) = (e : Int) := by
  have hp : ((pre.length : Int)).toNat = pre.length := Int.toNat_natCast _
  have hl : 0 < (vb e n).length := by rw [vb_len]; unfold sz; split <;> omega
  have g : (pre ++ vb e n ++ rest).getD pre.length 0 = (vb e n).getD 0 0 := by
    rw [List.append_assoc]
    simp only [List.getD_eq_getElem?_getD]
    rw [List.getElem?_append_right (Nat.le_refl _), Nat.sub_self, List.getElem?_append_left hl]
  rw [hp, g, vb_eq]
  have hd : ∀ x : Int, x.fdiv (2 ^ (6 : Int).toNat) = x / 64 := fun x => Int.fdiv_eq_ediv_of_nonneg _ (by decide)
  rw [hd]
  rcases he with rfl | rfl | rfl | rfl
  · have := be_head 0 (n + off 0) (by simp [off]; omega) (by simp [off, lim] at *; omega)
    show (((beI (0 + 1) (n + off 0)).getD 0 0).toNat : Int) / 64 = 0
    rw [this]; simp [off, lim] at *; omega
  · have := be_head 1 (n + off 1) (by simp [off]; omega) (by simp [off, lim] at *; omega)
    show (((beI (1 + 1) (n + off 1)).getD 0 0).toNat : Int) / 64 = 1
    rw [this]; simp [off, lim] at *; omega
  · have := be_head 3 (n + off 2) (by simp [off]; omega) (by simp [off, lim] at *; omega)
    show (((beI (3 + 1) (n + off 2)).getD 0 0).toNat : Int) / 64 = 2
    rw [this]; simp [off, lim] at *; omega
  · have := be_head 7 (n + off 3) (by simp [off]; omega) (by simp [off, lim] at *; omega)
    show (((beI (7 + 1) (n + off 3)).getD 0 0).toNat : Int) / 64 = 3
    rw [this]; simp [off, lim] at *; omega
def spGV : Spec := fun as cel K => match as with
  | [.v (.bytes d), .v (.int a)] => (match cel with | [] => ∃ pre e n rest, d = pre ++ vb e n ++ rest ∧ a = (pre.length : Int) ∧ (e = 0 ∨ e = 1 ∨ e = 2 ∨ e = 3) ∧ 0 ≤ n ∧ n < lim e ∧ d.length ≤ 1000000 ∧ K (.tup [.int n, .int (a + (sz e : Int))]) [] | _ => False)
  | _ => False
def T97 : Tb := { glob := [("len", .bi .len), ("VARINT_SIZES", sVARINT_SIZES), ("get_whole", .ref 76)], fn := [(76, spGW)], fnG := [], field := [], meth := [] }
theorem get_varint_run (w : World) : Rn spGV T97 200 97 [] ["data", "at"] w := fun as cel K h => by
  unfold spGV at h
  split at h
  · split at h
    · obtain ⟨pre, e, n, rest, rfl, rfl, he, h0, h1, hd, k⟩ := h
      have hx := vb_first h0 h1 he pre rest
      have hlen : (pre ++ vb e n ++ rest).length = pre.length + sz e + rest.length := by rw [List.length_append, List.length_append, vb_len]
      have hs : 0 < sz e := by unfold sz; split <;> omega
      conv => whnf
      refine Gd.mk (ble_of (Nat.le_trans hd (by decide))) ?_
      conv => whnf
      refine Br.f ?_ ?_
      · rw [hlen]; simp only [decide_eq_false_iff_not]; push_cast; omega
      conv => whnf
      refine Gd.mk ?_ ?_
      · rw [hlen]; simp only [Bool.and_eq_true, decide_eq_true_eq]; refine ⟨⟨?_, ?_⟩, ble_of ?_⟩ <;> omega
      conv => whnf
      rw [hx]
      have key : ∀ (i : Nat) (x : Int), x = ((2 ^ i : Nat) : Int) - 1 → (n + off e) % ((2 ^ i : Nat) : Int) = n → Builtin.bitAnd (foldBe (vb e n)) x = n := fun i x hx hm => by
        rw [hx, vb_fold h0 h1, bitAnd_low (by unfold off; split <;> omega), hm]
      have eo : (e : Int) = Int.ofNat e := rfl
      rcases he with rfl | rfl | rfl | rfl
      · conv => whnf
        refine ⟨pre, vb 0 n, rest, rfl, rfl, rfl, .inl (vb_len 0 n), hd, ?_⟩
        conv => whnf
        rw [key 6 (1 * 2 ^ (8 * 1 - 2 : Int).toNat - 1) rfl (by simp [off, lim] at *; omega)]
        exact k
      · conv => whnf
        refine ⟨pre, vb 1 n, rest, rfl, rfl, rfl, .inr (.inl (vb_len 1 n)), hd, ?_⟩
        conv => whnf
        rw [key 14 (1 * 2 ^ (8 * 2 - 2 : Int).toNat - 1) rfl (by simp [off, lim] at *; omega)]
        exact k
      · conv => whnf
        refine ⟨pre, vb 2 n, rest, rfl, rfl, rfl, .inr (.inr (.inl (vb_len 2 n))), hd, ?_⟩
        conv => whnf
        rw [key 30 (1 * 2 ^ (8 * 4 - 2 : Int).toNat - 1) rfl (by simp [off, lim] at *; omega)]
        exact k
      · conv => whnf
        refine ⟨pre, vb 3 n, rest, rfl, rfl, rfl, .inr (.inr (.inr (vb_len 3 n))), hd, ?_⟩
        conv => whnf
        rw [key 62 (1 * 2 ^ (8 * 8 - 2 : Int).toNat - 1) rfl (by simp [off, lim] at *; omega)]
        exact k
    · exact h.elim
  · exact h.elim
theorem in97 (w : World) : FnAt 97 w := ⟨_, _, _, _, _, _, _, _, _, rfl, by kernel_rfl⟩
theorem bind97 (w : World) : Bnd (prm 97 w.params) ["data", "at"] := bnd2 fun _ _ _ => by kernel_rfl
theorem ok97 (w : World) : FnOk w 97 2 16 spGV :=
  FnOk.at (ns := ["data", "at"]) (T := T97) (U := 13) (D := 1) 97 [] 200 (in97 w) (bind97 w) (by kernel_rfl) (fun as cel K h => by
    unfold spGV at h
    split at h
    · rfl
    · exact h.elim) (tbOk (.cons (g_87 w) (.cons (g_0 w) (.cons (g_35 w) .nil))) (.cons (ok76 w) (by decide) (by decide) (by kernel_rfl) .nil) .nil .nil .nil) (by decide) (get_varint_run w)
end
section
abbrev rd (d : List UInt8) (a : Int) : List SObj := [.inst 149 1, .idict [("data", .bytes d), ("at", .int a)]]
theorem fd_149_data (w : World) : FieldOk w 149 "data" := ⟨by kernel_rfl, by kernel_rfl, ⟨none, by kernel_rfl, by kernel_rfl⟩, by kernel_rfl, by kernel_rfl, by kernel_rfl⟩
theorem fd_149_at (w : World) : FieldOk w 149 "at" := ⟨by kernel_rfl, by kernel_rfl, ⟨none, by kernel_rfl, by kernel_rfl⟩, by kernel_rfl, by kernel_rfl, by kernel_rfl⟩
theorem mt_149_left (w : World) : MethOk w 149 "left" 118 := ⟨by kernel_rfl, by kernel_rfl, by kernel_rfl, by kernel_rfl⟩
theorem mt_149_take (w : World) : MethOk w 149 "take" 125 := ⟨by kernel_rfl, by kernel_rfl, by kernel_rfl, by kernel_rfl⟩
theorem mt_149_whole (w : World) : MethOk w 149 "whole" 139 := ⟨by kernel_rfl, by kernel_rfl, by kernel_rfl, by kernel_rfl⟩
theorem mt_149_varint (w : World) : MethOk w 149 "varint" 146 := ⟨by kernel_rfl, by kernel_rfl, by kernel_rfl, by kernel_rfl⟩
theorem cls_149 (w : World) : ClsOk w 149 111 := ⟨by kernel_rfl, by kernel_rfl, by kernel_rfl⟩
def At (d : List UInt8) (a : Int) (l : List UInt8) : Prop := (∃ pre, d = pre ++ l ∧ a = (pre.length : Int)) ∧ d.length ≤ 1000000
theorem At.len {d : List UInt8} {a : Int} {l : List UInt8} (h : At d a l) : (d.length : Int) = a + l.length := by
  obtain ⟨⟨pre, rfl, rfl⟩, _⟩ := h; rw [List.length_append]; push_cast; rfl
theorem At.next {d : List UInt8} {a : Int} {l r : List UInt8} {n : Int} (h : At d a (l ++ r)) (hn : n = (l.length : Int)) : At d (a + n) r := by
  obtain ⟨⟨pre, rfl, rfl⟩, b⟩ := h
  exact ⟨⟨pre ++ l, by rw [List.append_assoc], by rw [hn, List.length_append]; push_cast; rfl⟩, b⟩
def spInit : Spec := fun as cel K => match as with
  | [.c 0, .v (.bytes d)] => (match cel with | [.inst 149 1, .idict []] => K .none (rd d 0) | _ => False)
  | _ => False
def spRd (p : List UInt8 → Int → (SV → Int → Prop) → Prop) : Spec := fun as cel K => match as with
  | [.c 0] => ∃ d a, cel = rd d a ∧ p d a fun v b => K v (rd d b)
  | _ => False
def spRd1 (p : List UInt8 → Int → Int → (SV → Int → Prop) → Prop) : Spec := fun as cel K => match as with
  | [.c 0, .v (.int m)] => ∃ d a, cel = rd d a ∧ p d a m fun v b => K v (rd d b)
  | _ => False
def spLeft : Spec := spRd fun d a k => ∃ l, At d a l ∧ k (.int l.length) a
def spTake : Spec := spRd1 fun d a m k => ∃ l r, At d a (l ++ r) ∧ m = (l.length : Int) ∧ k (.bytes l) (a + m)
def spRWhole : Spec := spRd1 fun d a m k => ∃ x r, At d a (x :: r) ∧ m = 1 ∧ k (.int (x.toNat : Int)) (a + 1)
def spVarint : Spec := spRd fun d a k => ∃ e n r, At d a (vb e n ++ r) ∧ (e = 0 ∨ e = 1 ∨ e = 2 ∨ e = 3) ∧ 0 ≤ n ∧ n < lim e ∧ k (.int n) (a + (sz e : Int))
def T111 : Tb := { glob := [], fn := [], fnG := [], field := [(149, "data"), (149, "at")], meth := [] }
theorem init_run (w : World) : Rn spInit T111 200 111 [] ["self", "data"] w := fun as cel K h => by
  unfold spInit at h
  split at h
  · split at h
    · conv => whnf
      exact h
    · exact h.elim
  · exact h.elim
theorem in111 (w : World) : FnAt 111 w := ⟨_, _, _, _, _, _, _, _, _, rfl, by kernel_rfl⟩
theorem bind111 (w : World) : Bnd (prm 111 w.params) ["self", "data"] := bnd2 fun _ _ _ => by kernel_rfl
theorem ok111 (w : World) : FnOkC w 111 1 13 spInit :=
  FnOkC.at (ns := ["self", "data"]) (T := T111) (U := 10) (D := 0) 111 [] 200 (in111 w) (bind111 w) (by kernel_rfl) (fun as cel K h => by
    unfold spInit at h
    split at h
    · rfl
    · exact h.elim) (tbOk .nil .nil .nil (.cons (fd_149_data w) (.cons (fd_149_at w) .nil)) .nil) (by decide) (init_run w)
def T118 : Tb := { glob := [("len", .bi .len)], fn := [], fnG := [], field := [(149, "data"), (149, "at")], meth := [] }
theorem left_run (w : World) : Rn spLeft T118 200 118 [] ["self"] w := fun as cel K h => by
  unfold spLeft spRd at h
  split at h
  · obtain ⟨d, a, rfl, l, hat, k⟩ := h
    conv => whnf
    refine Gd.mk (ble_of (Nat.le_trans hat.2 (by decide))) ?_
    conv => whnf
    have e : (d.length : Int) - a = l.length := by rw [hat.len]; omega
    rw [← e] at k
    exact k
  · exact h.elim
theorem in118 (w : World) : FnAt 118 w := ⟨_, _, _, _, _, _, _, _, _, rfl, by kernel_rfl⟩
theorem bind118 (w : World) : Bnd (prm 118 w.params) ["self"] := bnd1 fun _ _ => by kernel_rfl
theorem ok118 (w : World) : FnOk w 118 1 13 spLeft :=
  FnOk.at (ns := ["self"]) (T := T118) (U := 10) (D := 0) 118 [] 200 (in118 w) (bind118 w) (by kernel_rfl) (fun as cel K h => by
    unfold spLeft spRd at h
    split at h
    · rfl
    · exact h.elim) (tbOk (.cons (g_87 w) .nil) .nil .nil (.cons (fd_149_data w) (.cons (fd_149_at w) .nil)) .nil) (by decide) (left_run w)
def T125 : Tb := { glob := [], fn := [(118, spLeft)], fnG := [], field := [(149, "data"), (149, "at")], meth := [((149, "left"), 118)] }
theorem take_run (w : World) : Rn spTake T125 200 125 [] ["self", "many"] w := fun as cel K h => by
  unfold spTake spRd1 at h
  split at h
  · obtain ⟨d, a, rfl, l, r, hat, rfl, k⟩ := h
    conv => whnf
    refine ⟨d, a, rfl, l ++ r, hat, ?_⟩
    conv => whnf
    refine Br.f ?_ ?_
    · simp only [decide_eq_false_iff_not, List.length_append, Int.not_lt]; push_cast; omega
    conv => whnf
    refine Gd.mk (ble_of (Nat.le_trans hat.2 (by decide))) ?_
    conv => whnf
    have e : sliceL d (some (a + (l.length : Int) - (l.length : Int))) (some (a + (l.length : Int))) = l := by
      obtain ⟨⟨pre, rfl, rfl⟩, _⟩ := hat
      rw [Int.add_sub_cancel, ← List.append_assoc]
      exact slice_mid pre l r
    rw [e]
    exact k
  · exact h.elim
theorem in125 (w : World) : FnAt 125 w := ⟨_, _, _, _, _, _, _, _, _, rfl, by kernel_rfl⟩
theorem bind125 (w : World) : Bnd (prm 125 w.params) ["self", "many"] := bnd2 fun _ _ _ => by kernel_rfl
theorem ok125 (w : World) : FnOk w 125 2 16 spTake :=
  FnOk.at (ns := ["self", "many"]) (T := T125) (U := 13) (D := 1) 125 [] 200 (in125 w) (bind125 w) (by kernel_rfl) (fun as cel K h => by
    unfold spTake spRd1 at h
    split at h
    · rfl
    · exact h.elim) (tbOk .nil (.cons (ok118 w) (by decide) (by decide) (by kernel_rfl) .nil) .nil (.cons (fd_149_data w) (.cons (fd_149_at w) .nil)) (.cons (mt_149_left w) .nil)) (by decide) (take_run w)
def T139 : Tb := { glob := [("get_whole", .ref 76)], fn := [(76, spGW)], fnG := [], field := [(149, "data"), (149, "at")], meth := [] }
theorem rwhole_run (w : World) : Rn spRWhole T139 200 139 [] ["self", "size"] w := fun as cel K h => by
  unfold spRWhole spRd1 at h
  split at h
  · obtain ⟨d, a, rfl, x, r, hat, rfl, k⟩ := h
    conv => whnf
    obtain ⟨⟨pre, rfl, rfl⟩, hd⟩ := hat
    refine ⟨pre, [x], r, by rw [List.append_assoc]; rfl, rfl, rfl, .inl rfl, hd, ?_⟩
    conv => whnf
    have e : foldBe [x] = (x.toNat : Int) := by show (0 * 256 + (x.toNat : Int)) = _; omega
    rw [e]
    exact k
  · exact h.elim
theorem in139 (w : World) : FnAt 139 w := ⟨_, _, _, _, _, _, _, _, _, rfl, by kernel_rfl⟩
theorem bind139 (w : World) : Bnd (prm 139 w.params) ["self", "size"] := bnd2 fun _ _ _ => by kernel_rfl
theorem ok139 (w : World) : FnOk w 139 2 16 spRWhole :=
  FnOk.at (ns := ["self", "size"]) (T := T139) (U := 13) (D := 1) 139 [] 200 (in139 w) (bind139 w) (by kernel_rfl) (fun as cel K h => by
    unfold spRWhole spRd1 at h
    split at h
    · rfl
    · exact h.elim) (tbOk (.cons (g_35 w) .nil) (.cons (ok76 w) (by decide) (by decide) (by kernel_rfl) .nil) .nil (.cons (fd_149_data w) (.cons (fd_149_at w) .nil)) .nil) (by decide) (rwhole_run w)
def T146 : Tb := { glob := [("get_varint", .ref 97)], fn := [(97, spGV)], fnG := [], field := [(149, "data"), (149, "at")], meth := [] }
theorem rvarint_run (w : World) : Rn spVarint T146 200 146 [] ["self"] w := fun as cel K h => by
  unfold spVarint spRd at h
  split at h
  · obtain ⟨d, a, rfl, e, n, r, hat, he, h0, h1, k⟩ := h
    conv => whnf
    obtain ⟨⟨pre, rfl, rfl⟩, hd⟩ := hat
    refine ⟨pre, e, n, r, by rw [List.append_assoc], rfl, he, h0, h1, hd, ?_⟩
    conv => whnf
    exact k
  · exact h.elim
theorem in146 (w : World) : FnAt 146 w := ⟨_, _, _, _, _, _, _, _, _, rfl, by kernel_rfl⟩
theorem bind146 (w : World) : Bnd (prm 146 w.params) ["self"] := bnd1 fun _ _ => by kernel_rfl
theorem ok146 (w : World) : FnOk w 146 3 19 spVarint :=
  FnOk.at (ns := ["self"]) (T := T146) (U := 16) (D := 2) 146 [] 200 (in146 w) (bind146 w) (by kernel_rfl) (fun as cel K h => by
    unfold spVarint spRd at h
    split at h
    · rfl
    · exact h.elim) (tbOk (.cons (g_38 w) .nil) (.cons (ok97 w) (by decide) (by decide) (by kernel_rfl) .nil) .nil (.cons (fd_149_data w) (.cons (fd_149_at w) .nil)) .nil) (by decide) (rvarint_run w)
end
section
structure Nm (e : Nat) (n : Int) : Prop where
  he : e = 0 ∨ e = 1 ∨ e = 2 ∨ e = 3
  h0 : 0 ≤ n
  h1 : n < lim e
theorem At.vb {d : List UInt8} {a : Int} {e : Nat} {n : Int} {r : List UInt8} (h : At d a (vb e n ++ r)) : At d (a + (sz e : Int)) r := h.next (by rw [vb_len])
theorem At.app {d : List UInt8} {a : Int} {l r : List UInt8} (h : At d a (l ++ r)) : At d (a + (l.length : Int)) r := h.next rfl
theorem At.bound {d : List UInt8} {a : Int} {l : List UInt8} (h : At d a l) : l.length ≤ 1000000 := by
  obtain ⟨⟨pre, rfl, _⟩, b⟩ := h; rw [List.length_append] at b; omega
def spType : Spec := spRd fun d a k => ∃ t r, 0 ≤ t ∧ t < 64 ∧ At d a (Mine.vb 0 t ++ r) ∧ ∀ b, At d b r → k (.int t) b
def spCounted : Spec := spRd fun d a k => ∃ e l r, Nm e ((l : List UInt8).length : Int) ∧ At d a (Mine.vb e l.length ++ (l ++ r)) ∧ ∀ b, At d b r → k (.bytes l) b
def T182 : Tb := { glob := [("varint_size", .ref 83)], fn := [(83, spSize), (146, spVarint)], fnG := [], field := [(149, "at")], meth := [((149, "varint"), 146)] }
theorem type_run (w : World) : Rn spType T182 200 182 [] ["reader"] w := fun as cel K h => by
  unfold spType spRd at h
  split at h
  · obtain ⟨d, a, rfl, t, r, h0, h1, hat, k⟩ := h
    conv => whnf
    refine ⟨d, a, rfl, 0, t, r, hat, .inl rfl, h0, h1, ?_⟩
    conv => whnf
    refine ⟨h0, by omega, fun _ => ?_, fun q => absurd h1 (by omega), fun q => absurd h1 (by omega), fun q => absurd h1 (by omega)⟩
    conv => whnf
    refine Br.f ?_ ?_
    · have : a + ((sz 0 : Nat) : Int) - a = 1 := by show a + 1 - a = 1; omega
      rw [this]; rfl
    conv => whnf
    exact k _ hat.vb
  · exact h.elim
theorem in182 (w : World) : FnAt 182 w := ⟨_, _, _, _, _, _, _, _, _, rfl, by kernel_rfl⟩
theorem bind182 (w : World) : Bnd (prm 182 w.params) ["reader"] := bnd1 fun _ _ => by kernel_rfl
theorem ok182 (w : World) : FnOk w 182 4 22 spType :=
  FnOk.at (ns := ["reader"]) (T := T182) (U := 19) (D := 3) 182 [] 200 (in182 w) (bind182 w) (by kernel_rfl) (fun as cel K h => by
    unfold spType spRd at h
    split at h
    · rfl
    · exact h.elim) (tbOk (.cons (g_36 w) .nil) (.cons (ok83 w) (by decide) (by decide) (by kernel_rfl) (.cons (ok146 w) (by decide) (by decide) (by kernel_rfl) .nil)) .nil (.cons (fd_149_at w) .nil) (.cons (mt_149_varint w) .nil)) (by decide) (type_run w)
def T189 : Tb := { glob := [], fn := [(146, spVarint), (125, spTake)], fnG := [], field := [], meth := [((149, "varint"), 146), ((149, "take"), 125)] }
theorem counted_run (w : World) : Rn spCounted T189 200 189 [] ["reader"] w := fun as cel K h => by
  unfold spCounted spRd at h
  split at h
  · obtain ⟨d, a, rfl, e, l, r, nm, hat, k⟩ := h
    conv => whnf
    refine ⟨d, a, rfl, e, _, _, hat, nm.he, nm.h0, nm.h1, ?_⟩
    conv => whnf
    refine ⟨d, _, rfl, l, r, hat.vb, rfl, ?_⟩
    conv => whnf
    exact k _ hat.vb.app
  · exact h.elim
theorem in189 (w : World) : FnAt 189 w := ⟨_, _, _, _, _, _, _, _, _, rfl, by kernel_rfl⟩
theorem bind189 (w : World) : Bnd (prm 189 w.params) ["reader"] := bnd1 fun _ _ => by kernel_rfl
theorem ok189 (w : World) : FnOk w 189 4 22 spCounted :=
  FnOk.at (ns := ["reader"]) (T := T189) (U := 19) (D := 3) 189 [] 200 (in189 w) (bind189 w) (by kernel_rfl) (fun as cel K h => by
    unfold spCounted spRd at h
    split at h
    · rfl
    · exact h.elim) (tbOk .nil (.cons (ok146 w) (by decide) (by decide) (by kernel_rfl) (.cons (ok125 w) (by decide) (by decide) (by kernel_rfl) .nil)) .nil .nil (.cons (mt_149_varint w) (.cons (mt_149_take w) .nil))) (by decide) (counted_run w)
def spRanges : Spec := spRd1 fun d a told k => ∃ e1 e2 e3 e4 e5 e6 delay low r, Nm e1 (low + 2) ∧ Nm e2 delay ∧ Nm e3 1 ∧ Nm e4 2 ∧ Nm e5 2 ∧ Nm e6 3 ∧ 7 ≤ low ∧
  At d a (Mine.vb e1 (low + 2) ++ (Mine.vb e2 delay ++ (Mine.vb e3 1 ++ (Mine.vb e4 2 ++ (Mine.vb e5 2 ++ (Mine.vb e6 3 ++ r)))))) ∧ ∀ b, At d b r → k (.tup [.int delay, .tup [.tup [.int low, .int (low + 2)], .tup [.int (low - 7), .int (low - 4)]]]) b
def T196 : Tb := { glob := [("range", .ty .range), ("tuple", .ty .tuple)], fn := [(146, spVarint)], fnG := [], field := [], meth := [((149, "varint"), 146)] }
theorem ranges_run (w : World) : Rn spRanges T196 200 196 [131013] ["reader", "told"] w := fun as cel K h => by
  unfold spRanges spRd1 at h
  split at h
  · obtain ⟨d, a, rfl, e1, e2, e3, e4, e5, e6, delay, low, r, n1, n2, n3, n4, n5, n6, hl, hat, k⟩ := h
    conv => whnf
    refine ⟨d, _, rfl, e1, _, _, hat, n1.he, n1.h0, n1.h1, ?_⟩
    conv => whnf
    refine ⟨d, _, rfl, e2, _, _, hat.vb, n2.he, n2.h0, n2.h1, ?_⟩
    conv => whnf
    refine ⟨d, _, rfl, e3, _, _, hat.vb.vb, n3.he, n3.h0, n3.h1, ?_⟩
    conv => whnf
    refine ⟨d, _, rfl, e4, _, _, hat.vb.vb.vb, n4.he, n4.h0, n4.h1, ?_⟩
    conv => whnf
    refine Br.f (decide_eq_false (by omega)) ?_
    conv => whnf
    refine ⟨?_⟩
    conv => whnf
    refine ⟨d, _, rfl, e5, _, _, hat.vb.vb.vb.vb, n5.he, n5.h0, n5.h1, ?_⟩
    conv => whnf
    refine ⟨d, _, rfl, e6, _, _, hat.vb.vb.vb.vb.vb, n6.he, n6.h0, n6.h1, ?_⟩
    conv => whnf
    refine Br.f (decide_eq_false (by omega)) ?_
    conv => whnf
    have k' := k _ hat.vb.vb.vb.vb.vb.vb
    have z1 : low = low + 2 - 2 := by omega
    have z2 : low - 4 = low + 2 - 2 - 2 - 2 := by omega
    have z3 : low - 7 = low + 2 - 2 - 2 - 2 - 3 := by omega
    rw [z2, z3] at k'
    generalize hx : low + 2 = x at k' z1 ⊢
    subst z1
    exact k'
  · exact h.elim
theorem in196 (w : World) : FnAt 196 w := ⟨_, _, _, _, _, _, _, _, _, rfl, by kernel_rfl⟩
theorem bind196 (w : World) : Bnd (prm 196 w.params) ["reader", "told"] := bnd2 fun _ _ _ => by kernel_rfl
theorem ok196 (w : World) : FnOk w 196 4 22 spRanges :=
  FnOk.at (ns := ["reader", "told"]) (T := T196) (U := 19) (D := 3) 196 [131013] 200 (in196 w) (bind196 w) (by kernel_rfl) (fun as cel K h => by
    unfold spRanges spRd1 at h
    split at h
    · rfl
    · exact h.elim) (tbOk (.cons (g_91 w) (.cons (g_94 w) .nil)) (.cons (ok146 w) (by decide) (by decide) (by kernel_rfl) .nil) .nil .nil (.cons (mt_149_varint w) .nil)) (by decide) (ranges_run w)
end
section
def sRng (low : Int) : SV := .tup [.tup [.int low, .int (low + 2)], .tup [.int (low - 7), .int (low - 4)]]
def spAck : Spec := spRd1 fun d a told k => ∃ e1 e2 e3 e4 e5 e6 delay low tl, Nm e1 (low + 2) ∧ Nm e2 delay ∧ Nm e3 1 ∧ Nm e4 2 ∧ Nm e5 2 ∧ Nm e6 3 ∧ 7 ≤ low ∧
  At d a (Mine.vb e1 (low + 2) ++ (Mine.vb e2 delay ++ (Mine.vb e3 1 ++ (Mine.vb e4 2 ++ (Mine.vb e5 2 ++ (Mine.vb e6 3 ++ tl)))))) ∧
  ((told = 2 ∧ ∀ b, At d b tl → k (.tup [.str "ack", .int delay, sRng low, .none]) b) ∨
   (told = 3 ∧ ∃ f1 f2 f3 r, Nm f1 1 ∧ Nm f2 0 ∧ Nm f3 300 ∧ tl = Mine.vb f1 1 ++ (Mine.vb f2 0 ++ (Mine.vb f3 300 ++ r)) ∧ ∀ b, At d b r → k (.tup [.str "ack", .int delay, sRng low, .tup [.int 1, .int 0, .int 300]]) b))
def spStream : Spec := spRd1 fun d a told k => ∃ e1 e2 e3 num off l r fin, Nm e1 num ∧ Nm e2 off ∧ Nm e3 ((l : List UInt8).length : Int) ∧ off < 1000000000000 ∧ told = (match fin with | true => 15 | false => 14) ∧
  At d a (Mine.vb e1 num ++ (Mine.vb e2 off ++ (Mine.vb e3 l.length ++ (l ++ r)))) ∧ ∀ b, At d b r → k (.tup [.str "stream", .int num, .int off, .bytes l, .bool fin]) b
def spCrypto : Spec := spRd1 fun d a told k => ∃ e2 e3 off l r, Nm e2 off ∧ Nm e3 ((l : List UInt8).length : Int) ∧ off < 1000000000000 ∧
  At d a (Mine.vb e2 off ++ (Mine.vb e3 l.length ++ (l ++ r))) ∧ ∀ b, At d b r → k (.tup [.str "crypto", .int off, .bytes l]) b
def spNcid : Spec := spRd1 fun d a told k => ∃ e1 e2 s p c t r, Nm e1 s ∧ Nm e2 p ∧ p ≤ s ∧ 1 ≤ (c : List UInt8).length ∧ c.length ≤ 20 ∧ (t : List UInt8).length = 16 ∧
  At d a (Mine.vb e1 s ++ (Mine.vb e2 p ++ (c.length.toUInt8 :: (c ++ (t ++ r))))) ∧ ∀ b, At d b r → k (.tup [.str "new_connection_id", .int s, .int p, .bytes c, .bytes t]) b
def spClose : Spec := spRd1 fun d a told k => ∃ e1 e3 c tl l r, Nm e1 c ∧ Nm e3 ((l : List UInt8).length : Int) ∧
  ((told = 29 ∧ tl = Mine.vb e3 l.length ++ (l ++ r) ∧ ∀ b, At d b r → k (.tup [.str "close", .int c, .none, .bytes l]) b) ∨
   (told = 28 ∧ ∃ e2 f, Nm e2 f ∧ tl = Mine.vb e2 f ++ (Mine.vb e3 l.length ++ (l ++ r)) ∧ ∀ b, At d b r → k (.tup [.str "close", .int c, .int f, .bytes l]) b)) ∧
  At d a (Mine.vb e1 c ++ tl)
def T201 : Tb := { glob := [("read_ranges", .ref 196), ("ACK_ECN", .int 3), ("range", .ty .range), ("tuple", .ty .tuple)], fn := [(196, spRanges), (146, spVarint)], fnG := [], field := [], meth := [((149, "varint"), 146)] }
theorem ack_run (w : World) : Rn spAck T201 200 201 [] ["reader", "told"] w := fun as cel K h => by
  unfold spAck spRd1 at h
  split at h
  · obtain ⟨d, a, rfl, e1, e2, e3, e4, e5, e6, delay, low, tl, n1, n2, n3, n4, n5, n6, hl, hat, h⟩ := h
    conv => whnf
    refine ⟨d, _, rfl, e1, e2, e3, e4, e5, e6, delay, low, _, n1, n2, n3, n4, n5, n6, hl, hat, fun b hb => ?_⟩
    conv => whnf
    rcases h with ⟨rfl, k⟩ | ⟨rfl, f1, f2, f3, r, m1, m2, m3, rfl, k⟩
    · conv => whnf
      exact k b hb
    · conv => whnf
      refine ⟨?_⟩
      conv => whnf
      refine ⟨d, _, rfl, f1, _, _, hb, m1.he, m1.h0, m1.h1, ?_⟩
      conv => whnf
      refine ⟨d, _, rfl, f2, _, _, hb.vb, m2.he, m2.h0, m2.h1, ?_⟩
      conv => whnf
      refine ⟨d, _, rfl, f3, _, _, hb.vb.vb, m3.he, m3.h0, m3.h1, ?_⟩
      conv => whnf
      exact k _ hb.vb.vb.vb
  · exact h.elim
theorem in201 (w : World) : FnAt 201 w := ⟨_, _, _, _, _, _, _, _, _, rfl, by kernel_rfl⟩
theorem bind201 (w : World) : Bnd (prm 201 w.params) ["reader", "told"] := bnd2 fun _ _ _ => by kernel_rfl
theorem ok201 (w : World) : FnOk w 201 5 25 spAck :=
  FnOk.at (ns := ["reader", "told"]) (T := T201) (U := 22) (D := 4) 201 [] 200 (in201 w) (bind201 w) (by kernel_rfl) (fun as cel K h => by
    unfold spAck spRd1 at h
    split at h
    · rfl
    · exact h.elim) (tbOk (.cons (g_42 w) (.cons (g_13 w) (.cons (g_91 w) (.cons (g_94 w) .nil)))) (.cons (ok196 w) (by decide) (by decide) (by kernel_rfl) (.cons (ok146 w) (by decide) (by decide) (by kernel_rfl) .nil)) .nil .nil (.cons (mt_149_varint w) .nil)) (by decide) (ack_run w)
def T208 : Tb := { glob := [("STREAM", .int 8), ("BIT_OFFSET", .int 4), ("BIT_LENGTH", .int 2), ("BIT_FIN", .int 1), ("GREATEST", .int 4611686018427387903), ("read_counted", .ref 189), ("len", .bi .len)], fn := [(189, spCounted), (146, spVarint)], fnG := [], field := [], meth := [((149, "varint"), 146)] }
theorem stream_run (w : World) : Rn spStream T208 200 208 [] ["reader", "told"] w := fun as cel K h => by
  unfold spStream spRd1 at h
  split at h
  · obtain ⟨d, a, rfl, e1, e2, e3, num, off, l, r, fin, n1, n2, n3, hoff, rfl, hat, k⟩ := h
    have hb := hat.vb.vb.vb.bound
    rw [List.length_append] at hb
    have go : ∀ (told : Int) , told = 14 ∨ told = 15 → True := fun _ _ => trivial
    cases fin
    all_goals
      conv => whnf
      refine ⟨d, _, rfl, e1, _, _, hat, n1.he, n1.h0, n1.h1, ?_⟩
      conv => whnf
      refine ⟨d, _, rfl, e2, _, _, hat.vb, n2.he, n2.h0, n2.h1, ?_⟩
      conv => whnf
      refine ⟨d, _, rfl, e3, l, r, n3, hat.vb.vb, fun b hb' => ?_⟩
      conv => whnf
      refine Gd.mk (ble_of (by omega)) ?_
      conv => whnf
      refine Br.f (decide_eq_false (by omega)) ?_
      conv => whnf
      exact k b hb'
  · exact h.elim
theorem in208 (w : World) : FnAt 208 w := ⟨_, _, _, _, _, _, _, _, _, rfl, by kernel_rfl⟩
theorem bind208 (w : World) : Bnd (prm 208 w.params) ["reader", "told"] := bnd2 fun _ _ _ => by kernel_rfl
theorem ok208 (w : World) : FnOk w 208 5 25 spStream :=
  FnOk.at (ns := ["reader", "told"]) (T := T208) (U := 22) (D := 4) 208 [] 200 (in208 w) (bind208 w) (by kernel_rfl) (fun as cel K h => by
    unfold spStream spRd1 at h
    split at h
    · rfl
    · exact h.elim) (tbOk (.cons (g_16 w) (.cons (g_28 w) (.cons (g_27 w) (.cons (g_26 w) (.cons (g_29 w) (.cons (g_41 w) (.cons (g_87 w) .nil))))))) (.cons (ok189 w) (by decide) (by decide) (by kernel_rfl) (.cons (ok146 w) (by decide) (by decide) (by kernel_rfl) .nil)) .nil .nil (.cons (mt_149_varint w) .nil)) (by decide) (stream_run w)
def T215 : Tb := { glob := [("read_counted", .ref 189), ("GREATEST", .int 4611686018427387903), ("len", .bi .len)], fn := [(189, spCounted), (146, spVarint)], fnG := [], field := [], meth := [((149, "varint"), 146)] }
theorem crypto_run (w : World) : Rn spCrypto T215 200 215 [] ["reader", "told"] w := fun as cel K h => by
  unfold spCrypto spRd1 at h
  split at h
  · obtain ⟨d, a, rfl, e2, e3, off, l, r, n2, n3, hoff, hat, k⟩ := h
    have hb := hat.vb.vb.bound
    rw [List.length_append] at hb
    conv => whnf
    refine ⟨d, _, rfl, e2, _, _, hat, n2.he, n2.h0, n2.h1, ?_⟩
    conv => whnf
    refine ⟨d, _, rfl, e3, l, r, n3, hat.vb, fun b hb' => ?_⟩
    conv => whnf
    refine Gd.mk (ble_of (by omega)) ?_
    conv => whnf
    refine Br.f (decide_eq_false (by omega)) ?_
    conv => whnf
    exact k b hb'
  · exact h.elim
theorem in215 (w : World) : FnAt 215 w := ⟨_, _, _, _, _, _, _, _, _, rfl, by kernel_rfl⟩
theorem bind215 (w : World) : Bnd (prm 215 w.params) ["reader", "told"] := bnd2 fun _ _ _ => by kernel_rfl
theorem ok215 (w : World) : FnOk w 215 5 25 spCrypto :=
  FnOk.at (ns := ["reader", "told"]) (T := T215) (U := 22) (D := 4) 215 [] 200 (in215 w) (bind215 w) (by kernel_rfl) (fun as cel K h => by
    unfold spCrypto spRd1 at h
    split at h
    · rfl
    · exact h.elim) (tbOk (.cons (g_41 w) (.cons (g_29 w) (.cons (g_87 w) .nil))) (.cons (ok189 w) (by decide) (by decide) (by kernel_rfl) (.cons (ok146 w) (by decide) (by decide) (by kernel_rfl) .nil)) .nil .nil (.cons (mt_149_varint w) .nil)) (by decide) (crypto_run w)
def T222 : Tb := { glob := [("CID_SIZE", .int 20), ("TOKEN_SIZE", .int 16)], fn := [(146, spVarint), (139, spRWhole), (125, spTake)], fnG := [], field := [], meth := [((149, "varint"), 146), ((149, "whole"), 139), ((149, "take"), 125)] }
theorem ncid_run (w : World) : Rn spNcid T222 200 222 [] ["reader", "told"] w := fun as cel K h => by
  unfold spNcid spRd1 at h
  split at h
  · obtain ⟨d, a, rfl, e1, e2, s, p, c, t, r, n1, n2, hps, c1, c2, ht, hat, k⟩ := h
    conv => whnf
    refine ⟨d, _, rfl, e1, _, _, hat, n1.he, n1.h0, n1.h1, ?_⟩
    conv => whnf
    refine ⟨d, _, rfl, e2, _, _, hat.vb, n2.he, n2.h0, n2.h1, ?_⟩
    conv => whnf
    refine Br.f (decide_eq_false (by omega)) ?_
    conv => whnf
    refine ⟨d, _, rfl, _, _, hat.vb.vb, rfl, ?_⟩
    have hz : ((c.length.toUInt8.toNat : Nat) : Int) = c.length := by
      have : c.length.toUInt8.toNat = c.length := by simp [Nat.toUInt8]; omega
      rw [this]
    rw [hz]
    conv => whnf
    refine Br.f (decide_eq_false (by omega)) ?_
    conv => whnf
    refine Br.f (decide_eq_false (by omega)) ?_
    conv => whnf
    have h3 : At d (a + (sz e1 : Int) + (sz e2 : Int) + 1) (c ++ (t ++ r)) := At.next (l := [c.length.toUInt8]) hat.vb.vb rfl
    refine ⟨d, _, rfl, c, _, h3, rfl, ?_⟩
    conv => whnf
    refine ⟨d, _, rfl, t, r, h3.app, by rw [ht]; rfl, ?_⟩
    conv => whnf
    have h4 := h3.app.app
    rw [ht] at h4
    exact k _ h4
  · exact h.elim
theorem in222 (w : World) : FnAt 222 w := ⟨_, _, _, _, _, _, _, _, _, rfl, by kernel_rfl⟩
theorem bind222 (w : World) : Bnd (prm 222 w.params) ["reader", "told"] := bnd2 fun _ _ _ => by kernel_rfl
theorem ok222 (w : World) : FnOk w 222 4 22 spNcid :=
  FnOk.at (ns := ["reader", "told"]) (T := T222) (U := 19) (D := 3) 222 [] 200 (in222 w) (bind222 w) (by kernel_rfl) (fun as cel K h => by
    unfold spNcid spRd1 at h
    split at h
    · rfl
    · exact h.elim) (tbOk (.cons (g_31 w) (.cons (g_32 w) .nil)) (.cons (ok146 w) (by decide) (by decide) (by kernel_rfl) (.cons (ok139 w) (by decide) (by decide) (by kernel_rfl) (.cons (ok125 w) (by decide) (by decide) (by kernel_rfl) .nil))) .nil .nil (.cons (mt_149_varint w) (.cons (mt_149_whole w) (.cons (mt_149_take w) .nil)))) (by decide) (ncid_run w)
def T229 : Tb := { glob := [("CLOSE", .int 28), ("read_counted", .ref 189)], fn := [(189, spCounted), (146, spVarint)], fnG := [], field := [], meth := [((149, "varint"), 146)] }
theorem close_run (w : World) : Rn spClose T229 200 229 [] ["reader", "told"] w := fun as cel K h => by
  unfold spClose spRd1 at h
  split at h
  · obtain ⟨d, a, rfl, e1, e3, c, tl, l, r, n1, n3, h, hat⟩ := h
    rcases h with ⟨rfl, rfl, k⟩ | ⟨rfl, e2, f, n2, rfl, k⟩
    · conv => whnf
      refine ⟨d, _, rfl, e1, _, _, hat, n1.he, n1.h0, n1.h1, ?_⟩
      conv => whnf
      refine ⟨d, _, rfl, e3, l, r, n3, hat.vb, fun b hb' => ?_⟩
      conv => whnf
      exact k b hb'
    · conv => whnf
      refine ⟨d, _, rfl, e1, _, _, hat, n1.he, n1.h0, n1.h1, ?_⟩
      conv => whnf
      refine ⟨d, _, rfl, e2, _, _, hat.vb, n2.he, n2.h0, n2.h1, ?_⟩
      conv => whnf
      refine ⟨d, _, rfl, e3, l, r, n3, hat.vb.vb, fun b hb' => ?_⟩
      conv => whnf
      exact k b hb'
  · exact h.elim
theorem in229 (w : World) : FnAt 229 w := ⟨_, _, _, _, _, _, _, _, _, rfl, by kernel_rfl⟩
theorem bind229 (w : World) : Bnd (prm 229 w.params) ["reader", "told"] := bnd2 fun _ _ _ => by kernel_rfl
theorem ok229 (w : World) : FnOk w 229 5 25 spClose :=
  FnOk.at (ns := ["reader", "told"]) (T := T229) (U := 22) (D := 4) 229 [] 200 (in229 w) (bind229 w) (by kernel_rfl) (fun as cel K h => by
    unfold spClose spRd1 at h
    split at h
    · rfl
    · exact h.elim) (tbOk (.cons (g_24 w) (.cons (g_41 w) .nil)) (.cons (ok189 w) (by decide) (by decide) (by kernel_rfl) (.cons (ok146 w) (by decide) (by decide) (by kernel_rfl) .nil)) .nil .nil (.cons (mt_149_varint w) .nil)) (by decide) (close_run w)
end
section
inductive Fm where
  | ping
  | ack (delay low : Int) (e : Bool)
  | crypto (off : Int) (l : List UInt8)
  | stream (num off : Int) (l : List UInt8) (fin : Bool)
  | maxData (n : Int)
  | maxStreams (u : Bool) (n : Int)
  | ncid (p : Int) (c : List UInt8)
  | pathResp
  | close (c : Int) (ft : Bool) (l : List UInt8)
  | done
  | retire (n : Int)
  | pathChal
  | newToken (l : List UInt8)
def sEcn : Bool → SV
  | true => .tup [.int 1, .int 0, .int 300]
  | false => .none
def sFt : Bool → SV
  | true => .int 6
  | false => .none
def Fm.sv : Fm → SV
  | .ping => .tup [.str "ping"]
  | .ack d low e => .tup [.str "ack", .int d, sRng low, sEcn e]
  | .crypto o l => .tup [.str "crypto", .int o, .bytes l]
  | .stream n o l f => .tup [.str "stream", .int n, .int o, .bytes l, .bool f]
  | .maxData n => .tup [.str "max_data", .int n]
  | .maxStreams u n => .tup [.str "max_streams", .bool u, .int n]
  | .ncid p c => .tup [.str "new_connection_id", .int (p + 1), .int p, .bytes c, .bytes (upto 0 16)]
  | .pathResp => .tup [.str "path_response", .bytes (upto 0 8)]
  | .close c ft l => .tup [.str "close", .int c, sFt ft, .bytes l]
  | .done => .tup [.str "handshake_done"]
  | .retire n => .tup [.str "retire_connection_id", .int n]
  | .pathChal => .tup [.str "path_challenge", .bytes (upto 0 8)]
  | .newToken l => .tup [.str "new_token", .bytes l]
def Fm.told : Fm → Int
  | .ping => 1
  | .ack _ _ true => 3
  | .ack _ _ false => 2
  | .crypto _ _ => 6
  | .newToken _ => 7
  | .stream _ _ _ true => 15
  | .stream _ _ _ false => 14
  | .maxData _ => 16
  | .maxStreams true _ => 19
  | .maxStreams false _ => 18
  | .ncid _ _ => 24
  | .retire _ => 25
  | .pathChal => 26
  | .pathResp => 27
  | .close _ true _ => 28
  | .close _ false _ => 29
  | .done => 30
def BdR : Fm → List UInt8 → List UInt8 → Prop
  | .ping, l, r => l = r
  | .done, l, r => l = r
  | .ack d low e, l, r => ∃ e1 e2 e3 e4 e5 e6 tl, Nm e1 (low + 2) ∧ Nm e2 d ∧ Nm e3 1 ∧ Nm e4 2 ∧ Nm e5 2 ∧ Nm e6 3 ∧ 7 ≤ low ∧ l = Mine.vb e1 (low + 2) ++ (Mine.vb e2 d ++ (Mine.vb e3 1 ++ (Mine.vb e4 2 ++ (Mine.vb e5 2 ++ (Mine.vb e6 3 ++ tl))))) ∧
    (match e with | false => tl = r | true => ∃ f1 f2 f3, Nm f1 1 ∧ Nm f2 0 ∧ Nm f3 300 ∧ tl = Mine.vb f1 1 ++ (Mine.vb f2 0 ++ (Mine.vb f3 300 ++ r)))
  | .crypto o x, l, r => ∃ e2 e3, Nm e2 o ∧ Nm e3 (x.length : Int) ∧ o < 1000000000000 ∧ l = Mine.vb e2 o ++ (Mine.vb e3 x.length ++ (x ++ r))
  | .stream n o x _, l, r => ∃ e1 e2 e3, Nm e1 n ∧ Nm e2 o ∧ Nm e3 (x.length : Int) ∧ o < 1000000000000 ∧ l = Mine.vb e1 n ++ (Mine.vb e2 o ++ (Mine.vb e3 x.length ++ (x ++ r)))
  | .maxData n, l, r => ∃ e, Nm e n ∧ l = Mine.vb e n ++ r
  | .retire n, l, r => ∃ e, Nm e n ∧ l = Mine.vb e n ++ r
  | .maxStreams _ n, l, r => ∃ e, Nm e n ∧ n ≤ 1000000000000 ∧ l = Mine.vb e n ++ r
  | .ncid p c, l, r => ∃ e1 e2, Nm e1 (p + 1) ∧ Nm e2 p ∧ 1 ≤ c.length ∧ c.length ≤ 20 ∧ l = Mine.vb e1 (p + 1) ++ (Mine.vb e2 p ++ (c.length.toUInt8 :: (c ++ (upto 0 16 ++ r))))
  | .pathResp, l, r => l = upto 0 8 ++ r
  | .pathChal, l, r => l = upto 0 8 ++ r
  | .close c ft x, l, r => ∃ e1 e3 tl, Nm e1 c ∧ Nm e3 (x.length : Int) ∧ l = Mine.vb e1 c ++ tl ∧ (match ft with | false => tl = Mine.vb e3 x.length ++ (x ++ r) | true => ∃ e2, Nm e2 6 ∧ tl = Mine.vb e2 6 ++ (Mine.vb e3 x.length ++ (x ++ r)))
  | .newToken x, l, r => ∃ e, Nm e (x.length : Int) ∧ 1 ≤ x.length ∧ l = Mine.vb e x.length ++ (x ++ r)
def isOct : Fm → Bool
  | .crypto _ _ => true
  | .newToken _ => true
  | .pathChal => true
  | .pathResp => true
  | .maxStreams _ _ => true
  | _ => false
def spOct : Spec := spRd1 fun d a told k => ∃ f l r, isOct f = true ∧ told = f.told ∧ BdR f l r ∧ At d a l ∧ ∀ b, At d b r → k f.sv b
def spBody : Spec := spRd1 fun d a told k => ∃ f l r, told = f.told ∧ BdR f l r ∧ At d a l ∧ ∀ b, At d b r → k f.sv b
def T243 : Tb := { glob := [("CRYPTO", .int 6), ("NEW_TOKEN", .int 7), ("read_crypto", .ref 215), ("read_counted", .ref 189), ("PATH_CHALLENGE", .int 26), ("PATH_RESPONSE", .int 27), ("CHALLENGE_SIZE", .int 8), ("COUNT_FRAMES", sCOUNT_FRAMES), ("MOST_STREAMS", .int 1152921504606846976), ("len", .bi .len)], fn := [(215, spCrypto), (189, spCounted), (125, spTake), (146, spVarint)], fnG := [], field := [], meth := [((149, "take"), 125), ((149, "varint"), 146)] }
theorem oct_run (w : World) : Rn spOct T243 200 243 [] ["reader", "told"] w := fun as cel K h => by
  unfold spOct spRd1 at h
  split at h
  · obtain ⟨d, a, rfl, f, l, r, hf, rfl, hbd, hat, k⟩ := h
    cases f with
    | crypto off x =>
      obtain ⟨e2, e3, n2, n3, ho, rfl⟩ := hbd
      conv => whnf
      refine ⟨d, _, rfl, e2, e3, off, x, r, n2, n3, ho, hat, fun b hb => ?_⟩
      conv => whnf
      exact k b hb
    | newToken x =>
      obtain ⟨e, n1, hx, rfl⟩ := hbd
      have hbn := hat.vb.bound
      rw [List.length_append] at hbn
      conv => whnf
      refine ⟨d, _, rfl, e, x, r, n1, hat, fun b hb => ?_⟩
      conv => whnf
      refine Gd.mk (ble_of (by omega)) ?_
      conv => whnf
      refine Br.f (decide_eq_false (by omega)) ?_
      conv => whnf
      exact k b hb
    | pathChal =>
      cases hbd
      conv => whnf
      refine ⟨d, _, rfl, upto 0 8, r, hat, rfl, ?_⟩
      conv => whnf
      exact k _ (hat.next rfl)
    | pathResp =>
      cases hbd
      conv => whnf
      refine ⟨d, _, rfl, upto 0 8, r, hat, rfl, ?_⟩
      conv => whnf
      exact k _ (hat.next rfl)
    | maxStreams u n =>
      obtain ⟨e, n1, hn, rfl⟩ := hbd
      cases u
      all_goals
        conv => whnf
        refine ⟨d, _, rfl, e, _, _, hat, n1.he, n1.h0, n1.h1, ?_⟩
        conv => whnf
        refine Br.f (decide_eq_false (by omega)) ?_
        conv => whnf
        exact k _ hat.vb
    | _ => cases hf
  · exact h.elim
theorem in243 (w : World) : FnAt 243 w := ⟨_, _, _, _, _, _, _, _, _, rfl, by kernel_rfl⟩
theorem bind243 (w : World) : Bnd (prm 243 w.params) ["reader", "told"] := bnd2 fun _ _ _ => by kernel_rfl
theorem ok243 (w : World) : FnOk w 243 6 28 spOct :=
  FnOk.at (ns := ["reader", "told"]) (T := T243) (U := 25) (D := 5) 243 [] 200 (in243 w) (bind243 w) (by kernel_rfl) (fun as cel K h => by
    unfold spOct spRd1 at h
    split at h
    · rfl
    · exact h.elim) (tbOk (.cons (g_14 w) (.cons (g_15 w) (.cons (g_45 w) (.cons (g_41 w) (.cons (g_22 w) (.cons (g_23 w) (.cons (g_33 w) (.cons (g_2 w) (.cons (g_30 w) (.cons (g_87 w) .nil)))))))))) (.cons (ok215 w) (by decide) (by decide) (by kernel_rfl) (.cons (ok189 w) (by decide) (by decide) (by kernel_rfl) (.cons (ok125 w) (by decide) (by decide) (by kernel_rfl) (.cons (ok146 w) (by decide) (by decide) (by kernel_rfl) .nil)))) .nil .nil (.cons (mt_149_take w) (.cons (mt_149_varint w) .nil))) (by decide) (oct_run w)
def T248 : Tb := { glob := [("PADDING", .int 0), ("PLAIN_FRAMES", sPLAIN_FRAMES), ("ACK", .int 2), ("ACK_ECN", .int 3), ("STREAM", .int 8), ("NEW_CONNECTION_ID", .int 24), ("CLOSE", .int 28), ("CLOSE_APPLICATION", .int 29), ("read_ack", .ref 201), ("read_stream", .ref 208), ("read_new_cid", .ref 222), ("read_close", .ref 229), ("read_octets_frame", .ref 243), ("tuple", .ty .tuple), ("range", .ty .range)], fn := [(201, spAck), (208, spStream), (222, spNcid), (229, spClose), (243, spOct), (146, spVarint)], fnG := [], field := [], meth := [((149, "varint"), 146)] }
theorem body_run (w : World) : Rn spBody T248 200 248 [] ["reader", "told"] w := fun as cel K h => by
  unfold spBody spRd1 at h
  split at h
  · obtain ⟨d, a, rfl, f, l, r, rfl, hbd, hat, k⟩ := h
    cases f with
    | ping =>
      cases hbd
      conv => whnf
      refine ⟨?_⟩
      conv => whnf
      exact k a hat
    | done =>
      cases hbd
      conv => whnf
      refine ⟨?_⟩
      conv => whnf
      exact k a hat
    | maxData n =>
      obtain ⟨e, n1, rfl⟩ := hbd
      conv => whnf
      refine ⟨?_⟩
      conv => whnf
      refine ⟨d, _, rfl, e, _, _, hat, n1.he, n1.h0, n1.h1, ?_⟩
      conv => whnf
      exact k _ hat.vb
    | retire n =>
      obtain ⟨e, n1, rfl⟩ := hbd
      conv => whnf
      refine ⟨?_⟩
      conv => whnf
      refine ⟨d, _, rfl, e, _, _, hat, n1.he, n1.h0, n1.h1, ?_⟩
      conv => whnf
      exact k _ hat.vb
    | ack dl low e =>
      obtain ⟨e1, e2, e3, e4, e5, e6, tl, n1, n2, n3, n4, n5, n6, hl, rfl, ht⟩ := hbd
      cases e
      · cases ht
        conv => whnf
        refine ⟨d, _, rfl, e1, e2, e3, e4, e5, e6, dl, low, _, n1, n2, n3, n4, n5, n6, hl, hat, .inl ⟨rfl, fun b hb => ?_⟩⟩
        conv => whnf
        exact k b hb
      · obtain ⟨f1, f2, f3, m1, m2, m3, rfl⟩ := ht
        conv => whnf
        refine ⟨d, _, rfl, e1, e2, e3, e4, e5, e6, dl, low, _, n1, n2, n3, n4, n5, n6, hl, hat, .inr ⟨rfl, f1, f2, f3, r, m1, m2, m3, rfl, fun b hb => ?_⟩⟩
        conv => whnf
        exact k b hb
    | stream n o x fin =>
      obtain ⟨e1, e2, e3, n1, n2, n3, ho, rfl⟩ := hbd
      cases fin
      · conv => whnf
        refine ⟨d, _, rfl, e1, e2, e3, n, o, x, r, false, n1, n2, n3, ho, rfl, hat, fun b hb => ?_⟩
        conv => whnf
        exact k b hb
      · conv => whnf
        refine ⟨d, _, rfl, e1, e2, e3, n, o, x, r, true, n1, n2, n3, ho, rfl, hat, fun b hb => ?_⟩
        conv => whnf
        exact k b hb
    | ncid p c =>
      obtain ⟨e1, e2, n1, n2, c1, c2, rfl⟩ := hbd
      conv => whnf
      refine ⟨d, _, rfl, e1, e2, p + 1, p, c, upto 0 16, r, n1, n2, by omega, c1, c2, rfl, hat, fun b hb => ?_⟩
      conv => whnf
      exact k b hb
    | close c ft x =>
      obtain ⟨e1, e3, tl, n1, n3, rfl, ht⟩ := hbd
      cases ft
      · cases ht
        conv => whnf
        refine ⟨d, _, rfl, e1, e3, c, _, x, r, n1, n3, .inl ⟨rfl, rfl, fun b hb => ?_⟩, hat⟩
        conv => whnf
        exact k b hb
      · obtain ⟨e2, n2, rfl⟩ := ht
        conv => whnf
        refine ⟨d, _, rfl, e1, e3, c, _, x, r, n1, n3, .inr ⟨rfl, e2, 6, n2, rfl, fun b hb => ?_⟩, hat⟩
        conv => whnf
        exact k b hb
    | crypto off x =>
      conv => whnf
      refine ⟨d, _, rfl, .crypto off x, l, r, rfl, rfl, hbd, hat, fun b hb => ?_⟩
      conv => whnf
      exact k b hb
    | newToken x =>
      conv => whnf
      refine ⟨d, _, rfl, .newToken x, l, r, rfl, rfl, hbd, hat, fun b hb => ?_⟩
      conv => whnf
      exact k b hb
    | pathChal =>
      conv => whnf
      refine ⟨d, _, rfl, .pathChal, l, r, rfl, rfl, hbd, hat, fun b hb => ?_⟩
      conv => whnf
      exact k b hb
    | pathResp =>
      conv => whnf
      refine ⟨d, _, rfl, .pathResp, l, r, rfl, rfl, hbd, hat, fun b hb => ?_⟩
      conv => whnf
      exact k b hb
    | maxStreams u n =>
      cases u
      · conv => whnf
        refine ⟨d, _, rfl, .maxStreams false n, l, r, rfl, rfl, hbd, hat, fun b hb => ?_⟩
        conv => whnf
        exact k b hb
      · conv => whnf
        refine ⟨d, _, rfl, .maxStreams true n, l, r, rfl, rfl, hbd, hat, fun b hb => ?_⟩
        conv => whnf
        exact k b hb
  · exact h.elim
theorem in248 (w : World) : FnAt 248 w := ⟨_, _, _, _, _, _, _, _, _, rfl, by kernel_rfl⟩
theorem bind248 (w : World) : Bnd (prm 248 w.params) ["reader", "told"] := bnd2 fun _ _ _ => by kernel_rfl
theorem ok248 (w : World) : FnOk w 248 7 31 spBody :=
  FnOk.at (ns := ["reader", "told"]) (T := T248) (U := 28) (D := 6) 248 [] 200 (in248 w) (bind248 w) (by kernel_rfl) (fun as cel K h => by
    unfold spBody spRd1 at h
    split at h
    · rfl
    · exact h.elim) (tbOk (.cons (g_11 w) (.cons (g_1 w) (.cons (g_12 w) (.cons (g_13 w) (.cons (g_16 w) (.cons (g_21 w) (.cons (g_24 w) (.cons (g_25 w) (.cons (g_43 w) (.cons (g_44 w) (.cons (g_46 w) (.cons (g_47 w) (.cons (g_48 w) (.cons (g_94 w) (.cons (g_91 w) .nil))))))))))))))) (.cons (ok201 w) (by decide) (by decide) (by kernel_rfl) (.cons (ok208 w) (by decide) (by decide) (by kernel_rfl) (.cons (ok222 w) (by decide) (by decide) (by kernel_rfl) (.cons (ok229 w) (by decide) (by decide) (by kernel_rfl) (.cons (ok243 w) (by decide) (by decide) (by kernel_rfl) (.cons (ok146 w) (by decide) (by decide) (by kernel_rfl) .nil)))))) .nil .nil (.cons (mt_149_varint w) .nil)) (by decide) (body_run w)
end
section
inductive ClAll (w : World) (D U : Nat) : List (Nat × Spec) → Prop
  | nil : ClAll w D U []
  | cons {a fI D' U' : Nat} {sp : Spec} {l : List (Nat × Spec)} : ClsOk w a fI → FnOkC w fI D' U' sp → Nat.ble (D' + 1) D = true → Nat.ble (U' + 1) U = true → keepIn (tp.heap_1 w.params) (.ref a) = true → ClAll w D U l → ClAll w D U ((a, sp) :: l)
theorem ClAll.get {w : World} {D U : Nat} {l : List (Nat × Spec)} (h : ClAll w D U l) : ∀ a sp, fnk a l = some sp → (∃ fI D' U', ClsOk w a fI ∧ FnOkC w fI D' U' sp ∧ D' + 1 ≤ D ∧ U' + 1 ≤ U) ∧ keepIn (tp.heap_1 w.params) (.ref a) = true := by
  induction h with
  | nil => intro a sp e; cases e
  | cons c f d u k _ ih =>
    intro a sp e
    unfold fnk at e
    split at e
    · rename_i q; cases e; rw [Nat.eq_of_beq_eq_true q]; exact ⟨⟨_, _, _, c, f, Nat.le_of_ble_eq_true d, Nat.le_of_ble_eq_true u⟩, k⟩
    · exact ih a sp e
theorem tbOkC {w : World} {D U : Nat} {gl : List (Str × SV)} {fn fnG cl : List (Nat × Spec)} {fd : List (Nat × Str)} {mt : List ((Nat × Str) × Nat)} (g : GAll w gl) (f : FAll w D U fn) (fg : GFAll w D U fnG) (fi : FdAll w fd) (m : MtAll w mt) (c : ClAll w D U cl) : TbOk w D U { glob := gl, fn := fn, fnG := fnG, cls := cl, field := fd, meth := mt } where
  glob := g.get
  fn := f.get
  fnG := fg.get
  cls := c.get
  field := fi.get
  meth := m.get
def spFrame : Spec := spRd fun d a k => ∃ f l r, BdR f l r ∧ At d a (Mine.vb 0 f.told ++ l) ∧ ∀ b, At d b r → k f.sv b
def FrsR : List Fm → List UInt8 → Prop
  | [], l => l = []
  | f :: fs, l => ∃ b r, l = Mine.vb 0 f.told ++ b ∧ BdR f b r ∧ FrsR fs r
def spFrames : Spec := fun as cel K => match as with
  | [.v (.bytes p)] => (match cel with | [] => ∃ fs, fs ≠ [] ∧ FrsR fs p ∧ fs.length ≤ 20 ∧ p.length ≤ 1000000 ∧ K (.lst (fs.map Fm.sv)) [] | _ => False)
  | _ => False
theorem told_lt (f : Fm) : 0 ≤ f.told ∧ f.told < 64 := by
  match f with
  | .ping => simp [Fm.told]
  | .ack _ _ true => simp [Fm.told]
  | .ack _ _ false => simp [Fm.told]
  | .crypto _ _ => simp [Fm.told]
  | .newToken _ => simp [Fm.told]
  | .stream _ _ _ true => simp [Fm.told]
  | .stream _ _ _ false => simp [Fm.told]
  | .maxData _ => simp [Fm.told]
  | .maxStreams true _ => simp [Fm.told]
  | .maxStreams false _ => simp [Fm.told]
  | .ncid _ _ => simp [Fm.told]
  | .retire _ => simp [Fm.told]
  | .pathChal => simp [Fm.told]
  | .pathResp => simp [Fm.told]
  | .close _ true _ => simp [Fm.told]
  | .close _ false _ => simp [Fm.told]
  | .done => simp [Fm.told]
def T255 : Tb := { glob := [("PADDING", .int 0), ("read_type", .ref 182), ("read_body", .ref 248)], fn := [(182, spType), (248, spBody)], fnG := [], cls := [], field := [], meth := [] }
theorem frame_run (w : World) : Rn spFrame T255 200 255 [] ["reader"] w := fun as cel K h => by
  unfold spFrame spRd at h
  split at h
  · obtain ⟨d, a, rfl, f, l, r, hbd, hat, k⟩ := h
    conv => whnf
    refine ⟨d, _, rfl, f.told, _, (told_lt f).1, (told_lt f).2, hat, fun b hb => ?_⟩
    conv => whnf
    refine ⟨d, _, rfl, f, l, r, rfl, hbd, hb, fun b hb => ?_⟩
    conv => whnf
    exact k b hb
  · exact h.elim
theorem in255 (w : World) : FnAt 255 w := ⟨_, _, _, _, _, _, _, _, _, rfl, by kernel_rfl⟩
theorem bind255 (w : World) : Bnd (prm 255 w.params) ["reader"] := bnd1 fun _ _ => by kernel_rfl
theorem ok255 (w : World) : FnOk w 255 8 34 spFrame :=
  FnOk.at (ns := ["reader"]) (T := T255) (U := 31) (D := 7) 255 [] 200 (in255 w) (bind255 w) (by kernel_rfl) (fun as cel K h => by
    unfold spFrame spRd at h
    split at h
    · rfl
    · exact h.elim) (tbOk (.cons (g_11 w) (.cons (g_40 w) (.cons (g_49 w) .nil))) (.cons (ok182 w) (by decide) (by decide) (by kernel_rfl) (.cons (ok248 w) (by decide) (by decide) (by kernel_rfl) .nil)) .nil .nil .nil) (by decide) (frame_run w)
def T262 : Tb := { glob := [("Reader", .ref 149), ("len", .bi .len), ("read_frame", .ref 255)], fn := [(255, spFrame), (118, spLeft)], fnG := [], cls := [(149, spInit)], field := [], meth := [((149, "left"), 118)] }
noncomputable def wTest (w : World) : Expr := match bd 262 w.params with
  | [_, _, .While t _ _ _, _] => t
  | _ => .Constant .none 0 default
noncomputable def wBody (w : World) : List Stmt := match bd 262 w.params with
  | [_, _, .While _ b _ _, _] => b
  | _ => []
theorem frames_loop (w : World) (p : List UInt8) (K : SF → SS → Prop) : ∀ (fs : List Fm) (m : Nat) (a : Int) (l : List UInt8) (acc : List SV), fs.length + 1 ≤ m → At p a l → FrsR fs l → fs.length + acc.length ≤ 900 →
    (∀ b, K .next ⟨[("reader", .c 1), ("found", .c 2), ("payload", .v (.bytes p))], [.idict [("data", .bytes p), ("at", .int b)], .inst 149 0, .lst (acc ++ fs.map Fm.sv)]⟩) →
    run T262 (m + 25) (ctAt 262 w 0 [218038]) (.w (wTest w) (wBody w) ⟨[("reader", .c 1), ("found", .c 2), ("payload", .v (.bytes p))], [.idict [("data", .bytes p), ("at", .int a)], .inst 149 0, .lst acc]⟩ K) := by
  intro fs
  induction fs with
  | nil =>
    intro m a l acc hm hat hfs hz k
    cases hfs
    conv => whnf
    refine ⟨p, _, rfl, [], hat, ?_⟩
    conv => whnf
    have k' := k a
    rw [List.map_nil, List.append_nil] at k'
    exact k'
  | cons f fs ih =>
    intro m a l acc hm hat hfs hz k
    obtain ⟨b, r, rfl, hbd, hfs⟩ := hfs
    obtain ⟨m, rfl⟩ : ∃ m', m = m' + 1 := ⟨m - 1, by simp only [List.length_cons] at hm; omega⟩
    simp only [List.length_cons] at hm hz
    conv => whnf
    refine ⟨p, _, rfl, _, hat, ?_⟩
    conv => whnf
    refine Br.t ?_ ?_
    · simp only [decide_eq_true_eq, List.length_append, vb_len]; show (0 : Int) < ((1 + b.length : Nat) : Int); omega
    conv => whnf
    refine ⟨p, _, rfl, f, b, r, hbd, hat, fun b' hb => ?_⟩
    conv => whnf
    refine Gd.mk (ble_of (by omega)) ?_
    refine ih m b' r (acc ++ [f.sv]) (by omega) hb hfs (by rw [List.length_append]; simp; omega) fun b'' => ?_
    have k' := k b''
    rw [List.map_cons] at k'
    rw [List.append_assoc]
    exact k'
theorem frames_run (w : World) : Rn spFrames T262 200 262 [218038] ["payload"] w := fun as cel K h => by
  unfold spFrames at h
  split at h
  · split at h
    · rename_i p _
      obtain ⟨fs, hne, hfs, hl, hp, k⟩ := h
      have hz : 0 < (p : List UInt8).length := by
        match fs, hne, hfs with
        | f :: fs, _, hfs =>
          obtain ⟨b, r, e, _⟩ := hfs
          rw [e, List.length_append, vb_len]; show 0 < 1 + b.length; omega
      conv => whnf
      refine Gd.mk (ble_of (by omega)) ?_
      conv => whnf
      refine Br.f ?_ ?_
      · have : ((p.length : Nat) : Int) ≠ 0 := by omega
        simpa using this
      conv => whnf
      refine ⟨?_⟩
      refine frames_loop w p _ fs 171 0 p [] (by omega) ⟨⟨[], rfl, rfl⟩, hp⟩ hfs (by simp; omega) fun b => ?_
      conv => whnf
      exact k
    · exact h.elim
  · exact h.elim
theorem in262 (w : World) : FnAt 262 w := ⟨_, _, _, _, _, _, _, _, _, rfl, by kernel_rfl⟩
theorem bind262 (w : World) : Bnd (prm 262 w.params) ["payload"] := bnd1 fun _ _ => by kernel_rfl
theorem ok262 (w : World) : FnOk w 262 9 37 spFrames :=
  FnOk.at (ns := ["payload"]) (T := T262) (U := 34) (D := 8) 262 [218038] 200 (in262 w) (bind262 w) (by kernel_rfl) (fun as cel K h => by
    unfold spFrames at h
    split at h
    · rfl
    · exact h.elim) (tbOkC (.cons (g_39 w) (.cons (g_87 w) (.cons (g_50 w) .nil))) (.cons (ok255 w) (by decide) (by decide) (by kernel_rfl) (.cons (ok118 w) (by decide) (by decide) (by kernel_rfl) .nil)) .nil .nil (.cons (mt_149_left w) .nil) (.cons (cls_149 w) (ok111 w) (by decide) (by decide) (by kernel_rfl) .nil)) (by decide) (frames_run w)
end
section
theorem compG_map {T : Tb} {C : Ct} {x : Str} {elt : Expr} {cel : List SObj} {K : List SV → List SObj → Prop} (g : SV → SV) (m : Nat) : ∀ (its acc : List SV) (n : Nat), its.length + m + 1 ≤ n →
    (∀ d ∈ its, ∀ (k : Nat) (K' : AV → SS → Prop), K' (.v (g d)) ⟨[(x, .v d)], cel⟩ → runG T (k + m) C (.e elt ⟨[(x, .v d)], cel⟩ K')) → K (acc ++ its.map g) cel → runG T n C (.c x elt its acc cel K)
  | [], acc, n, hn, _, k => by
    obtain ⟨n, rfl⟩ : ∃ n', n = n' + 1 := ⟨n - 1, by omega⟩
    rw [List.map_nil, List.append_nil] at k
    exact k
  | d :: its, acc, n, hn, turn, k => by
    obtain ⟨n, rfl⟩ : ∃ n', n = n' + m + 1 := ⟨n - m - 1, by omega⟩
    rw [List.length_cons] at hn
    show runG T (n + m) C (.e elt ⟨[(x, .v d)], cel⟩ fun v σ₂ => asV v fun sv => runG T (n + m) C (.c x elt its (acc ++ [sv]) σ₂.cel K))
    refine turn d (.head _) n _ ?_
    show runG T (n + m) C (.c x elt its (acc ++ [g d]) cel K)
    refine compG_map g m its (acc ++ [g d]) (n + m) (by omega) (fun d hd => turn d (.tail _ hd)) ?_
    rw [List.map_cons] at k
    rw [List.append_assoc]
    exact k
def nb (ns : List Int) : List UInt8 := (ns.map fun n => vb (lv n) n).flatten
theorem nb_len (ns : List Int) : sumLen (ns.map fun n => vb (lv n) n) ≤ 8 * ns.length := by
  induction ns with
  | nil => exact Nat.zero_le _
  | cons n ns ih =>
    rw [List.map_cons, sumLen, List.length_cons, vb_len]
    have : sz (lv n) ≤ 8 := by unfold sz; split <;> omega
    omega
def spNums : Spec := fun as cel K => match as with
  | [.v (.lst l)] => (match cel with | [] => ∃ ns : List Int, l = ns.map SV.int ∧ (∀ n ∈ ns, 0 ≤ n ∧ n < 4611686018427387904) ∧ ns.length ≤ 20 ∧ K (.bytes (nb ns)) [] | _ => False)
  | _ => False
def spPutC : Spec := fun as cel K => match as with
  | [.v (.bytes l)] => (match cel with | [] => l.length ≤ 1000 ∧ K (.bytes (vb (lv l.length) l.length ++ l)) [] | _ => False)
  | _ => False
def vbSV : SV → SV
  | .int n => .bytes (vb (lv n) n)
  | x => x
theorem vbSV_map (ns : List Int) : bytesOf ((ns.map SV.int).map vbSV) = some (ns.map fun n => vb (lv n) n) := by
  have : (ns.map SV.int).map vbSV = (ns.map fun n => vb (lv n) n).map SV.bytes := by rw [List.map_map, List.map_map]; rfl
  rw [this, bytesOf_map]
def T343 : Tb := { glob := [("put_varint", .ref 90)], fn := [], fnG := [(90, spVar)], cls := [], field := [], meth := [] }
theorem nums_run (w : World) : RnG spNums T343 200 343 [] ["numbers"] w := fun as cel K h => by
  unfold spNums at h
  split at h
  · split at h
    · obtain ⟨ns, rfl, hns, hl, k⟩ := h
      conv => whnf
      refine Gd.mk (ble_of (by rw [List.length_map]; omega)) ?_
      conv => whnf
      refine ⟨?_⟩
      refine compG_map vbSV 20 _ _ _ (Nat.le_trans (m := 41) (by rw [List.length_map]; omega) (by decide)) (fun d hd k K' hk => ?_) ?_
      · obtain ⟨n, hn, rfl⟩ := List.mem_map.mp hd
        conv => whnf
        refine ⟨(hns n hn).1, (hns n hn).2, ?_⟩
        conv => whnf
        exact hk
      · conv => whnf
        rw [List.nil_append, vbSV_map]
        conv => whnf
        refine Gd.mk (ble_of (Nat.le_trans (nb_len ns) (by omega))) ?_
        conv => whnf
        exact k
    · exact h.elim
  · exact h.elim
theorem in343 (w : World) : FnAt 343 w := ⟨_, _, _, _, _, _, _, _, _, rfl, by kernel_rfl⟩
theorem bind343 (w : World) : Bnd (prm 343 w.params) ["numbers"] := bnd1 fun _ _ => by kernel_rfl
theorem ok343 (w : World) : FnOkG w 343 3 19 spNums :=
  FnOkG.at (ns := ["numbers"]) (T := T343) (U := 16) (D := 2) 343 [] 200 (in343 w) (bind343 w) (by kernel_rfl) (fun as cel K h => by
    unfold spNums at h
    split at h
    · rfl
    · exact h.elim) (tbOk (.cons (g_37 w) .nil) .nil (.cons (ok90 w) (by decide) (by decide) (by kernel_rfl) .nil) .nil .nil) (by decide) (nums_run w)
def T350 : Tb := { glob := [("put_varint", .ref 90), ("len", .bi .len)], fn := [], fnG := [(90, spVar)], cls := [], field := [], meth := [] }
theorem putc_run (w : World) : RnG spPutC T350 200 350 [] ["data"] w := fun as cel K h => by
  unfold spPutC at h
  split at h
  · split at h
    · obtain ⟨hl, k⟩ := h
      conv => whnf
      refine Gd.mk (ble_of (by omega)) ?_
      conv => whnf
      refine ⟨Int.natCast_nonneg _, by omega, ?_⟩
      conv => whnf
      refine Gd.mk (ble_of ?_) ?_
      · rw [vb_len]; have : sz (lv (List.length ‹List UInt8›)) ≤ 8 := by (unfold sz; split <;> omega)
        omega
      conv => whnf
      exact k
    · exact h.elim
  · exact h.elim
theorem in350 (w : World) : FnAt 350 w := ⟨_, _, _, _, _, _, _, _, _, rfl, by kernel_rfl⟩
theorem bind350 (w : World) : Bnd (prm 350 w.params) ["data"] := bnd1 fun _ _ => by kernel_rfl
theorem ok350 (w : World) : FnOkG w 350 3 19 spPutC :=
  FnOkG.at (ns := ["data"]) (T := T350) (U := 16) (D := 2) 350 [] 200 (in350 w) (bind350 w) (by kernel_rfl) (fun as cel K h => by
    unfold spPutC at h
    split at h
    · rfl
    · exact h.elim) (tbOk (.cons (g_37 w) (.cons (g_87 w) .nil)) .nil (.cons (ok90 w) (by decide) (by decide) (by kernel_rfl) .nil) .nil .nil) (by decide) (putc_run w)
end
section
def AllN : List Int → Prop
  | [] => True
  | n :: ns => (0 ≤ n ∧ n < 4611686018427387904) ∧ AllN ns
theorem AllN.mem : ∀ {ns : List Int}, AllN ns → ∀ n ∈ ns, 0 ≤ n ∧ n < 4611686018427387904
  | n :: ns, h, m, hm => by
    rcases List.mem_cons.mp hm with rfl | hm
    · exact h.1
    · exact AllN.mem h.2 m hm
theorem nb_length (ns : List Int) : (nb ns).length ≤ 8 * ns.length := by
  have := nb_len ns
  rw [sumLen_eq] at this
  unfold nb
  rw [List.length_flatten]; exact this
def FmOk : Fm → Prop
  | .ack d low _ => 0 ≤ d ∧ d < 4294967296 ∧ 10 ≤ low ∧ low ≤ 18
  | .crypto o l => 0 ≤ o ∧ o < 4294967296 ∧ l.length ≤ 4
  | .stream n o l _ => 0 ≤ n ∧ n < 4294967296 ∧ 0 < o ∧ o < 4294967296 ∧ l.length ≤ 4
  | .maxData n => 0 ≤ n ∧ n < 4294967296
  | .retire n => 0 ≤ n ∧ n < 4294967296
  | .maxStreams _ n => 0 ≤ n ∧ n < 4294967296
  | .ncid p c => 0 ≤ p ∧ p < 4294967296 ∧ 1 ≤ c.length ∧ c.length ≤ 6
  | .close c _ l => 0 ≤ c ∧ c < 4294967296 ∧ l.length ≤ 4
  | .newToken l => 1 ≤ l.length ∧ l.length ≤ 5
  | _ => True
def cn (l : List UInt8) : List UInt8 := vb (lv l.length) l.length ++ l
theorem cn_len (l : List UInt8) : (cn l).length ≤ 8 + l.length := by
  unfold cn
  rw [List.length_append, vb_len]
  have : sz (lv l.length) ≤ 8 := by unfold sz; split <;> omega
  omega
def ackN (d low : Int) : Bool → List Int
  | true => [3, low + 2, d, 1, 2, 2, 3, 1, 0, 300]
  | false => [2, low + 2, d, 1, 2, 2, 3]
def closeN (c : Int) : Bool → List Int
  | true => [28, c, 6]
  | false => [29, c]
def stN : Bool → Int
  | true => 15
  | false => 14
def msN : Bool → Int
  | true => 19
  | false => 18
def pf : Fm → List UInt8
  | .ping => nb [1]
  | .ack d low e => nb (ackN d low e)
  | .crypto o l => nb [6, o] ++ cn l
  | .stream n o l fin => nb [stN fin, n, o] ++ cn l
  | .maxData n => nb [16, n]
  | .maxStreams u n => nb [msN u, n]
  | .ncid p c => ((nb [24, p + 1, p] ++ [c.length.toUInt8]) ++ c) ++ upto 0 16
  | .pathResp => nb [27] ++ upto 0 8
  | .close c ft l => nb (closeN c ft) ++ cn l
  | .done => nb [30]
  | .retire n => nb [25, n]
  | .pathChal => nb [26] ++ upto 0 8
  | .newToken l => nb [7] ++ cn l
def spPut (P : Fm → Bool) : Spec := fun as cel K => match as with
  | [.v x] => ∃ f, P f = true ∧ x = f.sv ∧ cel = [] ∧ FmOk f ∧ K (.bytes (pf f)) []
  | _ => False
def spPutS : Spec := fun as cel K => match as with
  | [.v x, .v (.bool false)] => ∃ n o l fin, x = (Fm.stream n o l fin).sv ∧ cel = [] ∧ FmOk (.stream n o l fin) ∧ K (.bytes (pf (.stream n o l fin))) []
  | _ => False
def isAck : Fm → Bool
  | .ack _ _ _ => true
  | _ => false
def isNcid : Fm → Bool
  | .ncid _ _ => true
  | _ => false
def isClose : Fm → Bool
  | .close _ _ _ => true
  | _ => false
def isAny : Fm → Bool := fun _ => true
def spPAck : Spec := spPut isAck
def spPNcid : Spec := spPut isNcid
def spPClose : Spec := spPut isClose
def spPOct : Spec := spPut isOct
def spPF : Spec := spPut isAny
def spAckN : Spec := fun as cel K => match as with
  | [.v x] => ∃ low, x = sRng low ∧ cel = [] ∧ K (.tup [.lst [.int (low + 2)], .lst [.int 1, .int 2, .int 2, .int 3]]) []
  | _ => False
-- [266033]
def T357 : Tb := { glob := [("len", .bi .len)], fn := [], fnG := [], cls := [], field := [], meth := [] }
theorem ackn_run (w : World) : Rn spAckN T357 200 357 [266033] ["ranges"] w := fun as cel K h => by
  unfold spAckN at h
  split at h
  · obtain ⟨low, rfl, rfl, k⟩ := h
    conv => whnf
    refine ⟨?_⟩
    conv => whnf
    have z1 : low + 2 - low = 2 := by omega
    have z2 : low - (low - 4) - 2 = 2 := by omega
    have z3 : low - 4 - (low - 7) = 3 := by omega
    rw [z1, z2, z3]
    exact k
  · exact h.elim
theorem in357 (w : World) : FnAt 357 w := ⟨_, _, _, _, _, _, _, _, _, rfl, by kernel_rfl⟩
theorem bind357 (w : World) : Bnd (prm 357 w.params) ["ranges"] := bnd1 fun _ _ => by kernel_rfl
theorem ok357 (w : World) : FnOk w 357 1 13 spAckN :=
  FnOk.at (ns := ["ranges"]) (T := T357) (U := 10) (D := 0) 357 [266033] 200 (in357 w) (bind357 w) (by kernel_rfl) (fun as cel K h => by
    unfold spAckN at h
    split at h
    · rfl
    · exact h.elim) (tbOk (.cons (g_87 w) .nil) .nil .nil .nil .nil) (by decide) (ackn_run w)
end
section
def T364 : Tb := { glob := [("ack_numbers", .ref 357), ("list", .ty .list), ("put_numbers", .ref 343), ("ACK", .int 2), ("ACK_ECN", .int 3)], fn := [(357, spAckN)], fnG := [(343, spNums)], cls := [], field := [], meth := [] }
theorem pack_run (w : World) : RnG spPAck T364 200 364 [] ["f"] w := fun as cel K h => by
  unfold spPAck spPut at h
  split at h
  · obtain ⟨f, hf, rfl, rfl, ok, k⟩ := h
    cases f with
    | ack d low e =>
      obtain ⟨h1, h2, h3, h4⟩ := ok
      cases e
      · conv => whnf
        refine ⟨low, rfl, rfl, ?_⟩
        conv => whnf
        refine ⟨(ackN d low false), rfl, AllN.mem (by simp only [ackN, AllN, and_true]; omega), Nat.le_of_ble_eq_true rfl, ?_⟩
        conv => whnf
        exact k
      · conv => whnf
        refine ⟨low, rfl, rfl, ?_⟩
        conv => whnf
        refine ⟨(ackN d low true), rfl, AllN.mem (by simp only [ackN, AllN, and_true]; omega), Nat.le_of_ble_eq_true rfl, ?_⟩
        conv => whnf
        exact k
    | _ => cases hf
  · exact h.elim
theorem in364 (w : World) : FnAt 364 w := ⟨_, _, _, _, _, _, _, _, _, rfl, by kernel_rfl⟩
theorem bind364 (w : World) : Bnd (prm 364 w.params) ["f"] := bnd1 fun _ _ => by kernel_rfl
theorem ok364 (w : World) : FnOkG w 364 4 22 spPAck :=
  FnOkG.at (ns := ["f"]) (T := T364) (U := 19) (D := 3) 364 [] 200 (in364 w) (bind364 w) (by kernel_rfl) (fun as cel K h => by
    unfold spPAck spPut at h
    split at h
    · rfl
    · exact h.elim) (tbOk (.cons (g_65 w) (.cons (g_95 w) (.cons (g_63 w) (.cons (g_12 w) (.cons (g_13 w) .nil))))) (.cons (ok357 w) (by decide) (by decide) (by kernel_rfl) .nil) (.cons (ok343 w) (by decide) (by decide) (by kernel_rfl) .nil) .nil .nil) (by decide) (pack_run w)
def T371 : Tb := { glob := [("STREAM", .int 8), ("BIT_FIN", .int 1), ("BIT_LENGTH", .int 2), ("BIT_OFFSET", .int 4), ("put_numbers", .ref 343), ("put_counted", .ref 350)], fn := [], fnG := [(343, spNums), (350, spPutC)], cls := [], field := [], meth := [] }
theorem pst_run (w : World) : RnG spPutS T371 200 371 [] ["f", "is_last"] w := fun as cel K h => by
  unfold spPutS at h
  split at h
  · obtain ⟨n, off, l, fin, rfl, rfl, ok, k⟩ := h
    obtain ⟨h1, h2, h3, h4, h5⟩ := ok
    cases fin
    all_goals
      conv => whnf
      refine Br.t (decide_eq_true h3) ?_
      conv => whnf
      refine Br.t (decide_eq_true h3) ?_
      conv => whnf
    · refine ⟨[14, n, off], ?_, AllN.mem (by simp only [AllN, and_true]; omega), Nat.le_of_ble_eq_true rfl, ?_⟩
      · first | rfl | simp
      conv => whnf
      refine ⟨by omega, ?_⟩
      conv => whnf
      refine Gd.mk (ble_of ?_) ?_
      · have := nb_length [14, n, off]; have := cn_len l; simp only [List.length_cons, List.length_nil] at *; unfold cn at this; omega
      conv => whnf
      exact k
    · refine ⟨[15, n, off], ?_, AllN.mem (by simp only [AllN, and_true]; omega), Nat.le_of_ble_eq_true rfl, ?_⟩
      · first | rfl | simp
      conv => whnf
      refine ⟨by omega, ?_⟩
      conv => whnf
      refine Gd.mk (ble_of ?_) ?_
      · have := nb_length [15, n, off]; have := cn_len l; simp only [List.length_cons, List.length_nil] at *; unfold cn at this; omega
      conv => whnf
      exact k
  · exact h.elim
theorem in371 (w : World) : FnAt 371 w := ⟨_, _, _, _, _, _, _, _, _, rfl, by kernel_rfl⟩
theorem bind371 (w : World) : Bnd (prm 371 w.params) ["f", "is_last"] := bnd2 fun _ _ _ => by kernel_rfl
theorem ok371 (w : World) : FnOkG w 371 4 22 spPutS :=
  FnOkG.at (ns := ["f", "is_last"]) (T := T371) (U := 19) (D := 3) 371 [] 200 (in371 w) (bind371 w) (by kernel_rfl) (fun as cel K h => by
    unfold spPutS at h
    split at h
    · rfl
    · exact h.elim) (tbOk (.cons (g_16 w) (.cons (g_26 w) (.cons (g_27 w) (.cons (g_28 w) (.cons (g_63 w) (.cons (g_64 w) .nil)))))) .nil (.cons (ok343 w) (by decide) (by decide) (by kernel_rfl) (.cons (ok350 w) (by decide) (by decide) (by kernel_rfl) .nil)) .nil .nil) (by decide) (pst_run w)
def T378 : Tb := { glob := [("put_numbers", .ref 343), ("NEW_CONNECTION_ID", .int 24), ("bytes", .ty .bytes), ("len", .bi .len)], fn := [], fnG := [(343, spNums)], cls := [], field := [], meth := [] }
theorem pncid_run (w : World) : RnG spPNcid T378 200 378 [] ["f"] w := fun as cel K h => by
  unfold spPNcid spPut at h
  split at h
  · obtain ⟨f, hf, rfl, rfl, ok, k⟩ := h
    cases f with
    | ncid p c =>
      obtain ⟨h1, h2, h3, h4⟩ := ok
      have hl := nb_length [24, p + 1, p]
      simp only [List.length_cons, List.length_nil] at hl
      conv => whnf
      refine ⟨[24, p + 1, p], rfl, AllN.mem (by simp only [AllN, and_true]; omega), Nat.le_of_ble_eq_true rfl, ?_⟩
      conv => whnf
      refine Gd.mk (ble_of (by omega)) ?_
      conv => whnf
      refine Gd.mk ?_ ?_
      · simp [b256]; omega
      conv => whnf
      refine Gd.mk (ble_of (by simp only [List.length_append, List.length_map, List.length_cons, List.length_nil]; omega)) ?_
      conv => whnf
      refine Gd.mk (ble_of (by simp only [List.length_append, List.length_map, List.length_cons, List.length_nil]; omega)) ?_
      conv => whnf
      refine Gd.mk (ble_of (by simp only [List.length_append, List.length_map, List.length_cons, List.length_nil, upto_length]; omega)) ?_
      conv => whnf
      exact k
    | _ => cases hf
  · exact h.elim
theorem in378 (w : World) : FnAt 378 w := ⟨_, _, _, _, _, _, _, _, _, rfl, by kernel_rfl⟩
theorem bind378 (w : World) : Bnd (prm 378 w.params) ["f"] := bnd1 fun _ _ => by kernel_rfl
theorem ok378 (w : World) : FnOkG w 378 4 22 spPNcid :=
  FnOkG.at (ns := ["f"]) (T := T378) (U := 19) (D := 3) 378 [] 200 (in378 w) (bind378 w) (by kernel_rfl) (fun as cel K h => by
    unfold spPNcid spPut at h
    split at h
    · rfl
    · exact h.elim) (tbOk (.cons (g_63 w) (.cons (g_21 w) (.cons (g_92 w) (.cons (g_87 w) .nil)))) .nil (.cons (ok343 w) (by decide) (by decide) (by kernel_rfl) .nil) .nil .nil) (by decide) (pncid_run w)
def T385 : Tb := { glob := [("put_numbers", .ref 343), ("CLOSE_APPLICATION", .int 29), ("CLOSE", .int 28), ("put_counted", .ref 350)], fn := [], fnG := [(343, spNums), (350, spPutC)], cls := [], field := [], meth := [] }
theorem pclose_run (w : World) : RnG spPClose T385 200 385 [] ["f"] w := fun as cel K h => by
  unfold spPClose spPut at h
  split at h
  · obtain ⟨f, hf, rfl, rfl, ok, k⟩ := h
    cases f with
    | close c ft l =>
      obtain ⟨h1, h2, h3⟩ := ok
      have hc := cn_len l
      unfold cn at hc
      have hl := nb_length (closeN c ft)
      cases ft
      · conv => whnf
        refine ⟨closeN c false, rfl, AllN.mem (by simp only [closeN, AllN, and_true]; omega), Nat.le_of_ble_eq_true rfl, ?_⟩
        conv => whnf
        refine ⟨by omega, ?_⟩
        conv => whnf
        refine Gd.mk (ble_of (by simp only [closeN, List.length_cons, List.length_nil] at hl ⊢; omega)) ?_
        conv => whnf
        exact k
      · conv => whnf
        refine ⟨closeN c true, rfl, AllN.mem (by simp only [closeN, AllN, and_true]; omega), Nat.le_of_ble_eq_true rfl, ?_⟩
        conv => whnf
        refine ⟨by omega, ?_⟩
        conv => whnf
        refine Gd.mk (ble_of (by simp only [closeN, List.length_cons, List.length_nil] at hl ⊢; omega)) ?_
        conv => whnf
        exact k
    | _ => cases hf
  · exact h.elim
theorem in385 (w : World) : FnAt 385 w := ⟨_, _, _, _, _, _, _, _, _, rfl, by kernel_rfl⟩
theorem bind385 (w : World) : Bnd (prm 385 w.params) ["f"] := bnd1 fun _ _ => by kernel_rfl
theorem ok385 (w : World) : FnOkG w 385 4 22 spPClose :=
  FnOkG.at (ns := ["f"]) (T := T385) (U := 19) (D := 3) 385 [] 200 (in385 w) (bind385 w) (by kernel_rfl) (fun as cel K h => by
    unfold spPClose spPut at h
    split at h
    · rfl
    · exact h.elim) (tbOk (.cons (g_63 w) (.cons (g_25 w) (.cons (g_24 w) (.cons (g_64 w) .nil)))) .nil (.cons (ok343 w) (by decide) (by decide) (by kernel_rfl) (.cons (ok350 w) (by decide) (by decide) (by kernel_rfl) .nil)) .nil .nil) (by decide) (pclose_run w)
end
section
def spPFs : Spec := fun as cel K => match as with
  | [.v (.lst l)] => ∃ fs : List Fm, l = fs.map Fm.sv ∧ cel = [] ∧ (∀ f ∈ fs, FmOk f) ∧ fs.length ≤ 10 ∧ K (.bytes (fs.map pf).flatten) []
  | _ => False
def spFSize : Spec := fun as cel K => match as with
  | [.v x] => ∃ f, x = f.sv ∧ cel = [] ∧ FmOk f ∧ K (.int (pf f).length) []
  | _ => False
def T392 : Tb := { glob := [("CRYPTO", .int 6), ("NEW_TOKEN", .int 7), ("PATH_CHALLENGE", .int 26), ("PATH_RESPONSE", .int 27), ("MAX_STREAMS_UNI", .int 19), ("MAX_STREAMS_BIDI", .int 18), ("put_numbers", .ref 343), ("put_counted", .ref 350)], fn := [], fnG := [(343, spNums), (350, spPutC)], cls := [], field := [], meth := [] }
theorem poct_run (w : World) : RnG spPOct T392 200 392 [] ["f"] w := fun as cel K h => by
  unfold spPOct spPut at h
  split at h
  · obtain ⟨f, hf, rfl, rfl, ok, k⟩ := h
    cases f with
    | crypto off l =>
      obtain ⟨h1, h2, h3⟩ := ok
      have hc := cn_len l
      unfold cn at hc
      have hl := nb_length [6, off]
      conv => whnf
      refine ⟨[6, off], rfl, AllN.mem (by simp only [AllN, and_true]; omega), Nat.le_of_ble_eq_true rfl, ?_⟩
      conv => whnf
      refine ⟨by omega, ?_⟩
      conv => whnf
      refine Gd.mk (ble_of (by simp only [List.length_cons, List.length_nil] at hl ⊢; omega)) ?_
      conv => whnf
      exact k
    | newToken l =>
      obtain ⟨h1, h2⟩ := ok
      have hc := cn_len l
      unfold cn at hc
      have hl := nb_length [7]
      conv => whnf
      refine ⟨[7], rfl, AllN.mem (by simp only [AllN, and_true]; omega), Nat.le_of_ble_eq_true rfl, ?_⟩
      conv => whnf
      refine ⟨by omega, ?_⟩
      conv => whnf
      refine Gd.mk (ble_of (by simp only [List.length_cons, List.length_nil] at hl ⊢; omega)) ?_
      conv => whnf
      exact k
    | pathChal =>
      have hl := nb_length [26]
      conv => whnf
      refine ⟨[26], rfl, AllN.mem (by simp only [AllN, and_true]; omega), Nat.le_of_ble_eq_true rfl, ?_⟩
      conv => whnf
      refine Gd.mk (ble_of (by simp only [List.length_cons, List.length_nil, upto_length] at hl ⊢; omega)) ?_
      conv => whnf
      exact k
    | pathResp =>
      have hl := nb_length [27]
      conv => whnf
      refine ⟨[27], rfl, AllN.mem (by simp only [AllN, and_true]; omega), Nat.le_of_ble_eq_true rfl, ?_⟩
      conv => whnf
      refine Gd.mk (ble_of (by simp only [List.length_cons, List.length_nil, upto_length] at hl ⊢; omega)) ?_
      conv => whnf
      exact k
    | maxStreams u n =>
      obtain ⟨h1, h2⟩ := ok
      cases u
      · conv => whnf
        refine ⟨[18, n], rfl, AllN.mem (by simp only [AllN, and_true]; omega), Nat.le_of_ble_eq_true rfl, ?_⟩
        conv => whnf
        exact k
      · conv => whnf
        refine ⟨[19, n], rfl, AllN.mem (by simp only [AllN, and_true]; omega), Nat.le_of_ble_eq_true rfl, ?_⟩
        conv => whnf
        exact k
    | _ => cases hf
  · exact h.elim
theorem in392 (w : World) : FnAt 392 w := ⟨_, _, _, _, _, _, _, _, _, rfl, by kernel_rfl⟩
theorem bind392 (w : World) : Bnd (prm 392 w.params) ["f"] := bnd1 fun _ _ => by kernel_rfl
theorem ok392 (w : World) : FnOkG w 392 4 22 spPOct :=
  FnOkG.at (ns := ["f"]) (T := T392) (U := 19) (D := 3) 392 [] 200 (in392 w) (bind392 w) (by kernel_rfl) (fun as cel K h => by
    unfold spPOct spPut at h
    split at h
    · rfl
    · exact h.elim) (tbOk (.cons (g_14 w) (.cons (g_15 w) (.cons (g_22 w) (.cons (g_23 w) (.cons (g_18 w) (.cons (g_17 w) (.cons (g_63 w) (.cons (g_64 w) .nil)))))))) .nil (.cons (ok343 w) (by decide) (by decide) (by kernel_rfl) (.cons (ok350 w) (by decide) (by decide) (by kernel_rfl) .nil)) .nil .nil) (by decide) (poct_run w)
def T399 : Tb := { glob := [("NUMBER_FRAMES", sNUMBER_FRAMES), ("put_numbers", .ref 343), ("list", .ty .list), ("put_ack", .ref 364), ("put_stream", .ref 371), ("put_new_cid", .ref 378), ("put_close", .ref 385), ("put_octets_frame", .ref 392)], fn := [], fnG := [(343, spNums), (364, spPAck), (371, spPutS), (378, spPNcid), (385, spPClose), (392, spPOct)], cls := [], field := [], meth := [] }
theorem pf_run (w : World) : RnG spPF T399 200 399 [] ["f"] w := fun as cel K h => by
  unfold spPF spPut at h
  split at h
  · obtain ⟨f, hf, rfl, rfl, ok, k⟩ := h
    cases f with
    | ping =>
      conv => whnf
      refine ⟨[1], rfl, AllN.mem (by simp only [AllN, and_true]; omega), Nat.le_of_ble_eq_true rfl, ?_⟩
      conv => whnf
      exact k
    | done =>
      conv => whnf
      refine ⟨[30], rfl, AllN.mem (by simp only [AllN, and_true]; omega), Nat.le_of_ble_eq_true rfl, ?_⟩
      conv => whnf
      exact k
    | maxData n =>
      obtain ⟨h1, h2⟩ := ok
      conv => whnf
      refine ⟨[16, n], rfl, AllN.mem (by simp only [AllN, and_true]; omega), Nat.le_of_ble_eq_true rfl, ?_⟩
      conv => whnf
      exact k
    | retire n =>
      obtain ⟨h1, h2⟩ := ok
      conv => whnf
      refine ⟨[25, n], rfl, AllN.mem (by simp only [AllN, and_true]; omega), Nat.le_of_ble_eq_true rfl, ?_⟩
      conv => whnf
      exact k
    | ack d low e =>
      conv => whnf
      refine ⟨.ack d low e, rfl, rfl, rfl, ok, ?_⟩
      conv => whnf
      exact k
    | stream n off l fin =>
      conv => whnf
      refine ⟨n, off, l, fin, rfl, rfl, ok, ?_⟩
      conv => whnf
      exact k
    | ncid p c =>
      conv => whnf
      refine ⟨.ncid p c, rfl, rfl, rfl, ok, ?_⟩
      conv => whnf
      exact k
    | close c ft l =>
      conv => whnf
      refine ⟨.close c ft l, rfl, rfl, rfl, ok, ?_⟩
      conv => whnf
      exact k
    | crypto off l =>
      conv => whnf
      refine ⟨.crypto off l, rfl, rfl, rfl, ok, ?_⟩
      conv => whnf
      exact k
    | newToken l =>
      conv => whnf
      refine ⟨.newToken l, rfl, rfl, rfl, ok, ?_⟩
      conv => whnf
      exact k
    | pathChal =>
      conv => whnf
      refine ⟨.pathChal, rfl, rfl, rfl, ok, ?_⟩
      conv => whnf
      exact k
    | pathResp =>
      conv => whnf
      refine ⟨.pathResp, rfl, rfl, rfl, ok, ?_⟩
      conv => whnf
      exact k
    | maxStreams u n =>
      conv => whnf
      refine ⟨.maxStreams u n, rfl, rfl, rfl, ok, ?_⟩
      conv => whnf
      exact k
  · exact h.elim
theorem in399 (w : World) : FnAt 399 w := ⟨_, _, _, _, _, _, _, _, _, rfl, by kernel_rfl⟩
theorem bind399 (w : World) : Bnd (prm 399 w.params) ["f"] := bnd1 fun _ _ => by kernel_rfl
theorem ok399 (w : World) : FnOkG w 399 5 25 spPF :=
  FnOkG.at (ns := ["f"]) (T := T399) (U := 22) (D := 4) 399 [] 200 (in399 w) (bind399 w) (by kernel_rfl) (fun as cel K h => by
    unfold spPF spPut at h
    split at h
    · rfl
    · exact h.elim) (tbOk (.cons (g_8 w) (.cons (g_63 w) (.cons (g_95 w) (.cons (g_66 w) (.cons (g_67 w) (.cons (g_68 w) (.cons (g_69 w) (.cons (g_70 w) .nil)))))))) .nil (.cons (ok343 w) (by decide) (by decide) (by kernel_rfl) (.cons (ok364 w) (by decide) (by decide) (by kernel_rfl) (.cons (ok371 w) (by decide) (by decide) (by kernel_rfl) (.cons (ok378 w) (by decide) (by decide) (by kernel_rfl) (.cons (ok385 w) (by decide) (by decide) (by kernel_rfl) (.cons (ok392 w) (by decide) (by decide) (by kernel_rfl) .nil)))))) .nil .nil) (by decide) (pf_run w)
end
section
theorem compG_mapA {α : Type} {T : Tb} {C : Ct} {x : Str} {elt : Expr} {cel : List SObj} {K : List SV → List SObj → Prop} (sv : α → SV) (g : α → SV) (m : Nat) : ∀ (its : List α) (acc : List SV) (n : Nat), its.length + m + 1 ≤ n →
    (∀ d ∈ its, ∀ (k : Nat) (K' : AV → SS → Prop), K' (.v (g d)) ⟨[(x, .v (sv d))], cel⟩ → runG T (k + m) C (.e elt ⟨[(x, .v (sv d))], cel⟩ K')) → K (acc ++ its.map g) cel → runG T n C (.c x elt (its.map sv) acc cel K)
  | [], acc, n, hn, _, k => by
    obtain ⟨n, rfl⟩ : ∃ n', n = n' + 1 := ⟨n - 1, by omega⟩
    rw [List.map_nil, List.append_nil] at k
    exact k
  | d :: its, acc, n, hn, turn, k => by
    obtain ⟨n, rfl⟩ : ∃ n', n = n' + m + 1 := ⟨n - m - 1, by omega⟩
    rw [List.length_cons] at hn
    show runG T (n + m) C (.e elt ⟨[(x, .v (sv d))], cel⟩ fun v σ₂ => asV v fun y => runG T (n + m) C (.c x elt (its.map sv) (acc ++ [y]) σ₂.cel K))
    refine turn d (.head _) n _ ?_
    show runG T (n + m) C (.c x elt (its.map sv) (acc ++ [g d]) cel K)
    refine compG_mapA sv g m its (acc ++ [g d]) (n + m) (by omega) (fun d hd => turn d (.tail _ hd)) ?_
    rw [List.map_cons] at k
    rw [List.append_assoc]
    exact k
theorem pf_len (f : Fm) (h : FmOk f) : (pf f).length ≤ 200 := by
  cases f with
  | ping => have := nb_length [1]; simp only [List.length_cons, List.length_nil] at this; dsimp only [pf]; omega
  | done => have := nb_length [30]; simp only [List.length_cons, List.length_nil] at this; dsimp only [pf]; omega
  | ack d low e => have := nb_length (ackN d low e); dsimp only [pf]; cases e <;> simp only [ackN, List.length_cons, List.length_nil] at this ⊢ <;> omega
  | crypto o l => have h1 := nb_length [6, o]; have h2 := cn_len l; have h3 := h.2.2; dsimp only [pf]; simp only [List.length_append, List.length_cons, List.length_nil] at *; omega
  | stream n o l f => have h1 := nb_length [stN f, n, o]; have h2 := cn_len l; have h3 := h.2.2.2.2; dsimp only [pf]; simp only [List.length_append, List.length_cons, List.length_nil] at *; omega
  | maxData n => have := nb_length [16, n]; simp only [List.length_cons, List.length_nil] at this; dsimp only [pf]; omega
  | retire n => have := nb_length [25, n]; simp only [List.length_cons, List.length_nil] at this; dsimp only [pf]; omega
  | maxStreams u n => have := nb_length [msN u, n]; simp only [List.length_cons, List.length_nil] at this; dsimp only [pf]; omega
  | ncid p c => have h1 := nb_length [24, p + 1, p]; have h3 := h.2.2.2; dsimp only [pf]; simp only [List.length_append, List.length_cons, List.length_nil, upto_length] at *; omega
  | pathResp => have h1 := nb_length [27]; dsimp only [pf]; simp only [List.length_append, List.length_cons, List.length_nil, upto_length] at *; omega
  | pathChal => have h1 := nb_length [26]; dsimp only [pf]; simp only [List.length_append, List.length_cons, List.length_nil, upto_length] at *; omega
  | close c ft l => have h1 := nb_length (closeN c ft); have h2 := cn_len l; have h3 := h.2.2; dsimp only [pf]; cases ft <;> simp only [closeN, List.length_append, List.length_cons, List.length_nil] at * <;> omega
  | newToken l => have h1 := nb_length [7]; have h2 := cn_len l; have h3 := h.2; dsimp only [pf]; simp only [List.length_append, List.length_cons, List.length_nil] at *; omega
theorem pfs_len : ∀ (fs : List Fm), (∀ f ∈ fs, FmOk f) → sumLen (fs.map pf) ≤ 200 * fs.length
  | [], _ => Nat.zero_le _
  | f :: fs, h => by
    have := pfs_len fs fun g hg => h g (.tail _ hg)
    have := pf_len f (h f (.head _))
    rw [List.map_cons, sumLen, List.length_cons]; omega
def pfSV (f : Fm) : SV := .bytes (pf f)
theorem pfSV_map (fs : List Fm) : bytesOf (fs.map pfSV) = some (fs.map pf) := by
  have : fs.map pfSV = (fs.map pf).map SV.bytes := by rw [List.map_map]; rfl
  rw [this, bytesOf_map]
def T404 : Tb := { glob := [("put_frame", .ref 399)], fn := [], fnG := [(399, spPF)], cls := [], field := [], meth := [] }
theorem pfs_run (w : World) : RnG spPFs T404 200 404 [] ["row"] w := fun as cel K h => by
  unfold spPFs at h
  split at h
  · obtain ⟨fs, rfl, rfl, ok, hl, k⟩ := h
    conv => whnf
    refine Gd.mk (ble_of (by rw [List.length_map]; omega)) ?_
    conv => whnf
    refine ⟨?_⟩
    refine compG_mapA Fm.sv pfSV 20 _ _ _ (Nat.le_trans (m := 41) (by omega) (by decide)) (fun f hf k K' hk => ?_) ?_
    · conv => whnf
      refine ⟨f, rfl, rfl, rfl, ok f hf, ?_⟩
      conv => whnf
      exact hk
    · conv => whnf
      rw [List.nil_append, pfSV_map]
      conv => whnf
      refine Gd.mk (ble_of (Nat.le_trans (pfs_len fs ok) (by omega))) ?_
      conv => whnf
      exact k
  · exact h.elim
theorem in404 (w : World) : FnAt 404 w := ⟨_, _, _, _, _, _, _, _, _, rfl, by kernel_rfl⟩
theorem bind404 (w : World) : Bnd (prm 404 w.params) ["row"] := bnd1 fun _ _ => by kernel_rfl
theorem ok404 (w : World) : FnOkG w 404 7 31 spPFs :=
  FnOkG.at (ns := ["row"]) (T := T404) (U := 28) (D := 6) 404 [] 200 (in404 w) (bind404 w) (by kernel_rfl) (fun as cel K h => by
    unfold spPFs at h
    split at h
    · rfl
    · exact h.elim) (tbOk (.cons (g_71 w) .nil) .nil (.cons (ok399 w) (by decide) (by decide) (by kernel_rfl) .nil) .nil .nil) (by decide) (pfs_run w)
def T411 : Tb := { glob := [("put_frame", .ref 399), ("len", .bi .len)], fn := [], fnG := [(399, spPF)], cls := [], field := [], meth := [] }
theorem fsize_run (w : World) : RnG spFSize T411 200 411 [] ["f"] w := fun as cel K h => by
  unfold spFSize at h
  split at h
  · obtain ⟨f, rfl, rfl, ok, k⟩ := h
    have := pf_len f ok
    conv => whnf
    refine ⟨f, rfl, rfl, rfl, ok, ?_⟩
    conv => whnf
    refine Gd.mk (ble_of (by omega)) ?_
    conv => whnf
    exact k
  · exact h.elim
theorem in411 (w : World) : FnAt 411 w := ⟨_, _, _, _, _, _, _, _, _, rfl, by kernel_rfl⟩
theorem bind411 (w : World) : Bnd (prm 411 w.params) ["f"] := bnd1 fun _ _ => by kernel_rfl
theorem ok411 (w : World) : FnOkG w 411 7 31 spFSize :=
  FnOkG.at (ns := ["f"]) (T := T411) (U := 28) (D := 6) 411 [] 200 (in411 w) (bind411 w) (by kernel_rfl) (fun as cel K h => by
    unfold spFSize at h
    split at h
    · rfl
    · exact h.elim) (tbOk (.cons (g_71 w) (.cons (g_87 w) .nil)) .nil (.cons (ok399 w) (by decide) (by decide) (by kernel_rfl) .nil) .nil .nil) (by decide) (fsize_run w)
end
section
theorem comp_filter {α : Type} {T : Tb} {C : Ct} {x : Str} {test elt : Expr} {cel : List SObj} {K : List SV → List SObj → Prop} (sv g : α → SV) (p : α → Bool) (m : Nat) : ∀ (its : List α) (acc : List SV) (n : Nat), its.length + m + 1 ≤ n →
    (∀ d ∈ its, ∀ (k : Nat) (K' : Bool → SS → Prop), K' (p d) ⟨[(x, .v (sv d))], cel⟩ → run T (k + m) C (.t test ⟨[(x, .v (sv d))], cel⟩ K')) →
    (∀ d ∈ its, ∀ (k : Nat) (K' : AV → SS → Prop), K' (.v (g d)) ⟨[(x, .v (sv d))], cel⟩ → run T (k + m) C (.e elt ⟨[(x, .v (sv d))], cel⟩ K')) → K (acc ++ (its.filter p).map g) cel → run T n C (.c x [test] elt (its.map sv) acc cel K)
  | [], acc, n, hn, _, _, k => by
    obtain ⟨n, rfl⟩ : ∃ n', n = n' + 1 := ⟨n - 1, by omega⟩
    rw [List.filter_nil, List.map_nil, List.append_nil] at k
    exact k
  | d :: its, acc, n, hn, tt, te, k => by
    obtain ⟨n, rfl⟩ : ∃ n', n = n' + m + 1 := ⟨n - m - 1, by omega⟩
    rw [List.length_cons] at hn
    show run T (n + m) C (.t test ⟨[(x, .v (sv d))], cel⟩ fun b σ₁ => Br b (run T (n + m) C (.e elt σ₁ fun v σ₂ => asV v fun y => run T (n + m) C (.c x [test] elt (its.map sv) (acc ++ [y]) σ₂.cel K))) (run T (n + m) C (.c x [test] elt (its.map sv) acc σ₁.cel K)))
    refine tt d (.head _) n _ ?_
    have go := fun acc' => comp_filter sv g p m its acc' (n + m) (by omega) (fun d hd => tt d (.tail _ hd)) (fun d hd => te d (.tail _ hd)) (K := K)
    cases hp : p d with
    | true =>
      refine te d (.head _) n _ ?_
      refine go (acc ++ [g d]) ?_
      rw [List.filter_cons, hp, if_pos rfl, List.map_cons] at k
      rw [List.append_assoc]; exact k
    | false =>
      refine go acc ?_
      rw [List.filter_cons, hp, if_neg Bool.false_ne_true] at k
      exact k
theorem comp_map {α : Type} {T : Tb} {C : Ct} {x : Str} {elt : Expr} {cel : List SObj} {K : List SV → List SObj → Prop} (sv g : α → SV) (m : Nat) : ∀ (its : List α) (acc : List SV) (n : Nat), its.length + m + 1 ≤ n →
    (∀ d ∈ its, ∀ (k : Nat) (K' : AV → SS → Prop), K' (.v (g d)) ⟨[(x, .v (sv d))], cel⟩ → run T (k + m) C (.e elt ⟨[(x, .v (sv d))], cel⟩ K')) → K (acc ++ its.map g) cel → run T n C (.c x [] elt (its.map sv) acc cel K)
  | [], acc, n, hn, _, k => by
    obtain ⟨n, rfl⟩ : ∃ n', n = n' + 1 := ⟨n - 1, by omega⟩
    rw [List.map_nil, List.append_nil] at k
    exact k
  | d :: its, acc, n, hn, te, k => by
    obtain ⟨n, rfl⟩ : ∃ n', n = n' + m + 1 := ⟨n - m - 1, by omega⟩
    rw [List.length_cons] at hn
    show run T (n + m) C (.e elt ⟨[(x, .v (sv d))], cel⟩ fun v σ₂ => asV v fun y => run T (n + m) C (.c x [] elt (its.map sv) (acc ++ [y]) σ₂.cel K))
    refine te d (.head _) n _ ?_
    refine comp_map sv g m its (acc ++ [g d]) (n + m) (by omega) (fun d hd => te d (.tail _ hd)) ?_
    rw [List.map_cons] at k
    rw [List.append_assoc]; exact k
theorem occ_IH01_I : (Builtin.Str.occurrences ("IH01" : Str) ("I" : Str) 0 ("IH01" : Str).length 1).isEmpty = false := by decide +kernel
theorem occ_IH01_H : (Builtin.Str.occurrences ("IH01" : Str) ("H" : Str) 0 ("IH01" : Str).length 1).isEmpty = false := by decide +kernel
theorem occ_IH01_0 : (Builtin.Str.occurrences ("IH01" : Str) ("0" : Str) 0 ("IH01" : Str).length 1).isEmpty = false := by decide +kernel
theorem occ_IH01_1 : (Builtin.Str.occurrences ("IH01" : Str) ("1" : Str) 0 ("IH01" : Str).length 1).isEmpty = false := by decide +kernel
theorem occ_IH1_I : (Builtin.Str.occurrences ("IH1" : Str) ("I" : Str) 0 ("IH1" : Str).length 1).isEmpty = false := by decide +kernel
theorem occ_IH1_H : (Builtin.Str.occurrences ("IH1" : Str) ("H" : Str) 0 ("IH1" : Str).length 1).isEmpty = false := by decide +kernel
theorem occ_IH1_0 : (Builtin.Str.occurrences ("IH1" : Str) ("0" : Str) 0 ("IH1" : Str).length 1).isEmpty = true := by decide +kernel
theorem occ_IH1_1 : (Builtin.Str.occurrences ("IH1" : Str) ("1" : Str) 0 ("IH1" : Str).length 1).isEmpty = false := by decide +kernel
theorem occ_01_I : (Builtin.Str.occurrences ("01" : Str) ("I" : Str) 0 ("01" : Str).length 1).isEmpty = true := by decide +kernel
theorem occ_01_H : (Builtin.Str.occurrences ("01" : Str) ("H" : Str) 0 ("01" : Str).length 1).isEmpty = true := by decide +kernel
theorem occ_01_0 : (Builtin.Str.occurrences ("01" : Str) ("0" : Str) 0 ("01" : Str).length 1).isEmpty = false := by decide +kernel
theorem occ_01_1 : (Builtin.Str.occurrences ("01" : Str) ("1" : Str) 0 ("01" : Str).length 1).isEmpty = false := by decide +kernel
theorem occ_1_I : (Builtin.Str.occurrences ("1" : Str) ("I" : Str) 0 ("1" : Str).length 1).isEmpty = true := by decide +kernel
theorem occ_1_H : (Builtin.Str.occurrences ("1" : Str) ("H" : Str) 0 ("1" : Str).length 1).isEmpty = true := by decide +kernel
theorem occ_1_0 : (Builtin.Str.occurrences ("1" : Str) ("0" : Str) 0 ("1" : Str).length 1).isEmpty = true := by decide +kernel
theorem occ_1_1 : (Builtin.Str.occurrences ("1" : Str) ("1" : Str) 0 ("1" : Str).length 1).isEmpty = false := by decide +kernel
def spF1 (p : Fm → SV) : Spec := fun as cel K => match as with
  | [.v x] => ∃ f : Fm, x = f.sv ∧ cel = [] ∧ K (p f) []
  | _ => False
def elicB : Fm → Bool
  | .ack _ _ _ => false
  | .close _ _ _ => false
  | _ => true
def probB : Fm → Bool
  | .pathChal => true
  | .pathResp => true
  | .ncid _ _ => true
  | _ => false
def spElic : Spec := spF1 fun f => .bool (elicB f)
def spFlight : Spec := spF1 fun f => .bool (elicB f)
def spProb : Spec := spF1 fun f => .bool (probB f)
inductive Pk where
  | z | i | s | h
def Pk.long : Pk → Str
  | .z => "zero"
  | .i => "initial"
  | .s => "short"
  | .h => "handshake"
def Pk.short : Pk → Str
  | .z => "z"
  | .i => "i"
  | .s => "1"
  | .h => "h"
def mayB : Fm → Pk → Bool
  | .ping, _ => true
  | .ack _ _ _, .z => false
  | .ack _ _ _, _ => true
  | .crypto _ _, .z => false
  | .crypto _ _, _ => true
  | .close _ true _, _ => true
  | .newToken _, .s => true
  | .newToken _, _ => false
  | .retire _, .s => true
  | .retire _, _ => false
  | .pathResp, .s => true
  | .pathResp, _ => false
  | .done, .s => true
  | .done, _ => false
  | _, .z => true
  | _, .s => true
  | _, _ => false
def spMay : Spec := fun as cel K => match as with
  | [.v x, .v (.str y)] => ∃ (f : Fm) (p : Pk), x = f.sv ∧ y = p.long ∧ cel = [] ∧ K (.bool (mayB f p)) []
  | _ => False
def spRow (p : List Fm → SV) : Spec := fun as cel K => match as with
  | [.v (.lst l)] => ∃ fs : List Fm, l = fs.map Fm.sv ∧ cel = [] ∧ fs.length ≤ 10 ∧ K (p fs) []
  | _ => False
def spAnyE : Spec := spRow fun fs => .bool (!(fs.filter elicB).isEmpty)
def spAnyF : Spec := spRow fun fs => .bool (!(fs.filter elicB).isEmpty)
def spAre : Spec := spRow fun fs => .bool (fs.filter fun f => !probB f).isEmpty
theorem sv_ok (f : Fm) : eqOk 6 f.sv = true := by
  cases f with
  | ack d low e => cases e <;> rfl
  | close c ft l => cases ft <;> rfl
  | _ => rfl
theorem svs_ok (fs : List Fm) : (fs.map Fm.sv).all (eqOk 6) = true := by
  rw [List.all_map, List.all_eq_true]; exact fun f _ => sv_ok f
def T282 : Tb := { glob := [("NOT_ELICITING", sNOT_ELICITING)], fn := [], fnG := [], cls := [], field := [], meth := [] }
theorem elic_run (w : World) : Rn spElic T282 200 282 [] ["f"] w := fun as cel K h => by
  unfold spElic spF1 at h
  split at h
  · obtain ⟨f, rfl, rfl, k⟩ := h
    cases f with
    | ping =>
      conv => whnf
      exact k
    | ack _ _ _ =>
      conv => whnf
      exact k
    | crypto _ _ =>
      conv => whnf
      exact k
    | stream _ _ _ _ =>
      conv => whnf
      exact k
    | maxData _ =>
      conv => whnf
      exact k
    | maxStreams _ _ =>
      conv => whnf
      exact k
    | ncid _ _ =>
      conv => whnf
      exact k
    | pathResp =>
      conv => whnf
      exact k
    | close _ _ _ =>
      conv => whnf
      exact k
    | done =>
      conv => whnf
      exact k
    | retire _ =>
      conv => whnf
      exact k
    | pathChal =>
      conv => whnf
      exact k
    | newToken _ =>
      conv => whnf
      exact k
  · exact h.elim
theorem in282 (w : World) : FnAt 282 w := ⟨_, _, _, _, _, _, _, _, _, rfl, by kernel_rfl⟩
theorem bind282 (w : World) : Bnd (prm 282 w.params) ["f"] := bnd1 fun _ _ => by kernel_rfl
theorem ok282 (w : World) : FnOk w 282 1 13 spElic :=
  FnOk.at (ns := ["f"]) (T := T282) (U := 10) (D := 0) 282 [] 200 (in282 w) (bind282 w) (by kernel_rfl) (fun as cel K h => by
    unfold spElic spF1 at h
    split at h
    · rfl
    · exact h.elim) (tbOk (.cons (g_5 w) .nil) .nil .nil .nil .nil) (by decide) (elic_run w)
def T289 : Tb := { glob := [], fn := [], fnG := [], cls := [], field := [], meth := [] }
theorem flight_run (w : World) : Rn spFlight T289 200 289 [] ["f"] w := fun as cel K h => by
  unfold spFlight spF1 at h
  split at h
  · obtain ⟨f, rfl, rfl, k⟩ := h
    cases f with
    | ping =>
      conv => whnf
      exact k
    | ack _ _ _ =>
      conv => whnf
      exact k
    | crypto _ _ =>
      conv => whnf
      exact k
    | stream _ _ _ _ =>
      conv => whnf
      exact k
    | maxData _ =>
      conv => whnf
      exact k
    | maxStreams _ _ =>
      conv => whnf
      exact k
    | ncid _ _ =>
      conv => whnf
      exact k
    | pathResp =>
      conv => whnf
      exact k
    | close _ _ _ =>
      conv => whnf
      exact k
    | done =>
      conv => whnf
      exact k
    | retire _ =>
      conv => whnf
      exact k
    | pathChal =>
      conv => whnf
      exact k
    | newToken _ =>
      conv => whnf
      exact k
  · exact h.elim
theorem in289 (w : World) : FnAt 289 w := ⟨_, _, _, _, _, _, _, _, _, rfl, by kernel_rfl⟩
theorem bind289 (w : World) : Bnd (prm 289 w.params) ["f"] := bnd1 fun _ _ => by kernel_rfl
theorem ok289 (w : World) : FnOk w 289 1 13 spFlight :=
  FnOk.at (ns := ["f"]) (T := T289) (U := 10) (D := 0) 289 [] 200 (in289 w) (bind289 w) (by kernel_rfl) (fun as cel K h => by
    unfold spFlight spF1 at h
    split at h
    · rfl
    · exact h.elim) (tbOk .nil .nil .nil .nil .nil) (by decide) (flight_run w)
def T296 : Tb := { glob := [("PROBING", sPROBING)], fn := [], fnG := [], cls := [], field := [], meth := [] }
theorem prob_run (w : World) : Rn spProb T296 200 296 [] ["f"] w := fun as cel K h => by
  unfold spProb spF1 at h
  split at h
  · obtain ⟨f, rfl, rfl, k⟩ := h
    cases f with
    | ping =>
      conv => whnf
      exact k
    | ack _ _ _ =>
      conv => whnf
      exact k
    | crypto _ _ =>
      conv => whnf
      exact k
    | stream _ _ _ _ =>
      conv => whnf
      exact k
    | maxData _ =>
      conv => whnf
      exact k
    | maxStreams _ _ =>
      conv => whnf
      exact k
    | ncid _ _ =>
      conv => whnf
      exact k
    | pathResp =>
      conv => whnf
      exact k
    | close _ _ _ =>
      conv => whnf
      exact k
    | done =>
      conv => whnf
      exact k
    | retire _ =>
      conv => whnf
      exact k
    | pathChal =>
      conv => whnf
      exact k
    | newToken _ =>
      conv => whnf
      exact k
  · exact h.elim
theorem in296 (w : World) : FnAt 296 w := ⟨_, _, _, _, _, _, _, _, _, rfl, by kernel_rfl⟩
theorem bind296 (w : World) : Bnd (prm 296 w.params) ["f"] := bnd1 fun _ _ => by kernel_rfl
theorem ok296 (w : World) : FnOk w 296 1 13 spProb :=
  FnOk.at (ns := ["f"]) (T := T296) (U := 10) (D := 0) 296 [] 200 (in296 w) (bind296 w) (by kernel_rfl) (fun as cel K h => by
    unfold spProb spF1 at h
    split at h
    · rfl
    · exact h.elim) (tbOk (.cons (g_6 w) .nil) .nil .nil .nil .nil) (by decide) (prob_run w)
def T275 : Tb := { glob := [("LETTERS", sLETTERS), ("PLACES", sPLACES)], fn := [], fnG := [], cls := [], field := [], meth := [] }
theorem may_run (w : World) : Rn spMay T275 200 275 [] ["f", "packet"] w := fun as cel K h => by
  unfold spMay at h
  split at h
  · obtain ⟨f, p, rfl, rfl, rfl, k⟩ := h
    cases f with
    | ping =>
      cases p <;> (conv => whnf) <;> first | exact k | (rw [occ_IH01_I]; exact k) | (rw [occ_IH01_H]; exact k) | (rw [occ_IH01_0]; exact k) | (rw [occ_IH01_1]; exact k) | (rw [occ_IH1_I]; exact k) | (rw [occ_IH1_H]; exact k) | (rw [occ_IH1_0]; exact k) | (rw [occ_IH1_1]; exact k) | (rw [occ_01_I]; exact k) | (rw [occ_01_H]; exact k) | (rw [occ_01_0]; exact k) | (rw [occ_01_1]; exact k) | (rw [occ_1_I]; exact k) | (rw [occ_1_H]; exact k) | (rw [occ_1_0]; exact k) | (rw [occ_1_1]; exact k)
    | ack _ _ _ =>
      cases p <;> (conv => whnf) <;> first | exact k | (rw [occ_IH01_I]; exact k) | (rw [occ_IH01_H]; exact k) | (rw [occ_IH01_0]; exact k) | (rw [occ_IH01_1]; exact k) | (rw [occ_IH1_I]; exact k) | (rw [occ_IH1_H]; exact k) | (rw [occ_IH1_0]; exact k) | (rw [occ_IH1_1]; exact k) | (rw [occ_01_I]; exact k) | (rw [occ_01_H]; exact k) | (rw [occ_01_0]; exact k) | (rw [occ_01_1]; exact k) | (rw [occ_1_I]; exact k) | (rw [occ_1_H]; exact k) | (rw [occ_1_0]; exact k) | (rw [occ_1_1]; exact k)
    | crypto _ _ =>
      cases p <;> (conv => whnf) <;> first | exact k | (rw [occ_IH01_I]; exact k) | (rw [occ_IH01_H]; exact k) | (rw [occ_IH01_0]; exact k) | (rw [occ_IH01_1]; exact k) | (rw [occ_IH1_I]; exact k) | (rw [occ_IH1_H]; exact k) | (rw [occ_IH1_0]; exact k) | (rw [occ_IH1_1]; exact k) | (rw [occ_01_I]; exact k) | (rw [occ_01_H]; exact k) | (rw [occ_01_0]; exact k) | (rw [occ_01_1]; exact k) | (rw [occ_1_I]; exact k) | (rw [occ_1_H]; exact k) | (rw [occ_1_0]; exact k) | (rw [occ_1_1]; exact k)
    | stream _ _ _ _ =>
      cases p <;> (conv => whnf) <;> first | exact k | (rw [occ_IH01_I]; exact k) | (rw [occ_IH01_H]; exact k) | (rw [occ_IH01_0]; exact k) | (rw [occ_IH01_1]; exact k) | (rw [occ_IH1_I]; exact k) | (rw [occ_IH1_H]; exact k) | (rw [occ_IH1_0]; exact k) | (rw [occ_IH1_1]; exact k) | (rw [occ_01_I]; exact k) | (rw [occ_01_H]; exact k) | (rw [occ_01_0]; exact k) | (rw [occ_01_1]; exact k) | (rw [occ_1_I]; exact k) | (rw [occ_1_H]; exact k) | (rw [occ_1_0]; exact k) | (rw [occ_1_1]; exact k)
    | maxData _ =>
      cases p <;> (conv => whnf) <;> first | exact k | (rw [occ_IH01_I]; exact k) | (rw [occ_IH01_H]; exact k) | (rw [occ_IH01_0]; exact k) | (rw [occ_IH01_1]; exact k) | (rw [occ_IH1_I]; exact k) | (rw [occ_IH1_H]; exact k) | (rw [occ_IH1_0]; exact k) | (rw [occ_IH1_1]; exact k) | (rw [occ_01_I]; exact k) | (rw [occ_01_H]; exact k) | (rw [occ_01_0]; exact k) | (rw [occ_01_1]; exact k) | (rw [occ_1_I]; exact k) | (rw [occ_1_H]; exact k) | (rw [occ_1_0]; exact k) | (rw [occ_1_1]; exact k)
    | maxStreams _ _ =>
      cases p <;> (conv => whnf) <;> first | exact k | (rw [occ_IH01_I]; exact k) | (rw [occ_IH01_H]; exact k) | (rw [occ_IH01_0]; exact k) | (rw [occ_IH01_1]; exact k) | (rw [occ_IH1_I]; exact k) | (rw [occ_IH1_H]; exact k) | (rw [occ_IH1_0]; exact k) | (rw [occ_IH1_1]; exact k) | (rw [occ_01_I]; exact k) | (rw [occ_01_H]; exact k) | (rw [occ_01_0]; exact k) | (rw [occ_01_1]; exact k) | (rw [occ_1_I]; exact k) | (rw [occ_1_H]; exact k) | (rw [occ_1_0]; exact k) | (rw [occ_1_1]; exact k)
    | ncid _ _ =>
      cases p <;> (conv => whnf) <;> first | exact k | (rw [occ_IH01_I]; exact k) | (rw [occ_IH01_H]; exact k) | (rw [occ_IH01_0]; exact k) | (rw [occ_IH01_1]; exact k) | (rw [occ_IH1_I]; exact k) | (rw [occ_IH1_H]; exact k) | (rw [occ_IH1_0]; exact k) | (rw [occ_IH1_1]; exact k) | (rw [occ_01_I]; exact k) | (rw [occ_01_H]; exact k) | (rw [occ_01_0]; exact k) | (rw [occ_01_1]; exact k) | (rw [occ_1_I]; exact k) | (rw [occ_1_H]; exact k) | (rw [occ_1_0]; exact k) | (rw [occ_1_1]; exact k)
    | pathResp =>
      cases p <;> (conv => whnf) <;> first | exact k | (rw [occ_IH01_I]; exact k) | (rw [occ_IH01_H]; exact k) | (rw [occ_IH01_0]; exact k) | (rw [occ_IH01_1]; exact k) | (rw [occ_IH1_I]; exact k) | (rw [occ_IH1_H]; exact k) | (rw [occ_IH1_0]; exact k) | (rw [occ_IH1_1]; exact k) | (rw [occ_01_I]; exact k) | (rw [occ_01_H]; exact k) | (rw [occ_01_0]; exact k) | (rw [occ_01_1]; exact k) | (rw [occ_1_I]; exact k) | (rw [occ_1_H]; exact k) | (rw [occ_1_0]; exact k) | (rw [occ_1_1]; exact k)
    | close _ ft _ =>
      cases ft <;> cases p <;> (conv => whnf) <;> first | exact k | (rw [occ_IH01_I]; exact k) | (rw [occ_IH01_H]; exact k) | (rw [occ_IH01_0]; exact k) | (rw [occ_IH01_1]; exact k) | (rw [occ_IH1_I]; exact k) | (rw [occ_IH1_H]; exact k) | (rw [occ_IH1_0]; exact k) | (rw [occ_IH1_1]; exact k) | (rw [occ_01_I]; exact k) | (rw [occ_01_H]; exact k) | (rw [occ_01_0]; exact k) | (rw [occ_01_1]; exact k) | (rw [occ_1_I]; exact k) | (rw [occ_1_H]; exact k) | (rw [occ_1_0]; exact k) | (rw [occ_1_1]; exact k)
    | done =>
      cases p <;> (conv => whnf) <;> first | exact k | (rw [occ_IH01_I]; exact k) | (rw [occ_IH01_H]; exact k) | (rw [occ_IH01_0]; exact k) | (rw [occ_IH01_1]; exact k) | (rw [occ_IH1_I]; exact k) | (rw [occ_IH1_H]; exact k) | (rw [occ_IH1_0]; exact k) | (rw [occ_IH1_1]; exact k) | (rw [occ_01_I]; exact k) | (rw [occ_01_H]; exact k) | (rw [occ_01_0]; exact k) | (rw [occ_01_1]; exact k) | (rw [occ_1_I]; exact k) | (rw [occ_1_H]; exact k) | (rw [occ_1_0]; exact k) | (rw [occ_1_1]; exact k)
    | retire _ =>
      cases p <;> (conv => whnf) <;> first | exact k | (rw [occ_IH01_I]; exact k) | (rw [occ_IH01_H]; exact k) | (rw [occ_IH01_0]; exact k) | (rw [occ_IH01_1]; exact k) | (rw [occ_IH1_I]; exact k) | (rw [occ_IH1_H]; exact k) | (rw [occ_IH1_0]; exact k) | (rw [occ_IH1_1]; exact k) | (rw [occ_01_I]; exact k) | (rw [occ_01_H]; exact k) | (rw [occ_01_0]; exact k) | (rw [occ_01_1]; exact k) | (rw [occ_1_I]; exact k) | (rw [occ_1_H]; exact k) | (rw [occ_1_0]; exact k) | (rw [occ_1_1]; exact k)
    | pathChal =>
      cases p <;> (conv => whnf) <;> first | exact k | (rw [occ_IH01_I]; exact k) | (rw [occ_IH01_H]; exact k) | (rw [occ_IH01_0]; exact k) | (rw [occ_IH01_1]; exact k) | (rw [occ_IH1_I]; exact k) | (rw [occ_IH1_H]; exact k) | (rw [occ_IH1_0]; exact k) | (rw [occ_IH1_1]; exact k) | (rw [occ_01_I]; exact k) | (rw [occ_01_H]; exact k) | (rw [occ_01_0]; exact k) | (rw [occ_01_1]; exact k) | (rw [occ_1_I]; exact k) | (rw [occ_1_H]; exact k) | (rw [occ_1_0]; exact k) | (rw [occ_1_1]; exact k)
    | newToken _ =>
      cases p <;> (conv => whnf) <;> first | exact k | (rw [occ_IH01_I]; exact k) | (rw [occ_IH01_H]; exact k) | (rw [occ_IH01_0]; exact k) | (rw [occ_IH01_1]; exact k) | (rw [occ_IH1_I]; exact k) | (rw [occ_IH1_H]; exact k) | (rw [occ_IH1_0]; exact k) | (rw [occ_IH1_1]; exact k) | (rw [occ_01_I]; exact k) | (rw [occ_01_H]; exact k) | (rw [occ_01_0]; exact k) | (rw [occ_01_1]; exact k) | (rw [occ_1_I]; exact k) | (rw [occ_1_H]; exact k) | (rw [occ_1_0]; exact k) | (rw [occ_1_1]; exact k)
  · exact h.elim
theorem in275 (w : World) : FnAt 275 w := ⟨_, _, _, _, _, _, _, _, _, rfl, by kernel_rfl⟩
theorem bind275 (w : World) : Bnd (prm 275 w.params) ["f", "packet"] := bnd2 fun _ _ _ => by kernel_rfl
theorem ok275 (w : World) : FnOk w 275 1 13 spMay :=
  FnOk.at (ns := ["f", "packet"]) (T := T275) (U := 10) (D := 0) 275 [] 200 (in275 w) (bind275 w) (by kernel_rfl) (fun as cel K h => by
    unfold spMay at h
    split at h
    · rfl
    · exact h.elim) (tbOk (.cons (g_4 w) (.cons (g_3 w) .nil)) .nil .nil .nil .nil) (by decide) (may_run w)
end
section
def kn : Fm → Str
  | .ping => "ping"
  | .ack _ _ _ => "ack"
  | .crypto _ _ => "crypto"
  | .stream _ _ _ _ => "stream"
  | .maxData _ => "max_data"
  | .maxStreams _ _ => "max_streams"
  | .ncid _ _ => "new_connection_id"
  | .pathResp => "path_response"
  | .close _ _ _ => "close"
  | .done => "handshake_done"
  | .retire _ => "retire_connection_id"
  | .pathChal => "path_challenge"
  | .newToken _ => "new_token"
theorem sv_head (f : Fm) : ∃ tl, f.sv = .tup (.str (kn f) :: tl) ∧ Nat.ble (SV.str (kn f) :: tl).length 16384 = true := by
  cases f <;> exact ⟨_, rfl, rfl⟩
theorem strAny_two (x a b : Str) : strAny x [.str a, .str b] = some (Fast.sEq a x || Fast.sEq b x) := by
  simp only [strAny]
  cases Fast.sEq a x <;> cases Fast.sEq b x <;> rfl
noncomputable def wB (a b : Str) (f : Fm) : Bool := !(Fast.sEq a (kn f) || Fast.sEq b (kn f))
def spWithout : Spec := fun as cel K => match as with
  | [.v (.lst l), .v (.tup [.str a, .str b])] => ∃ fs : List Fm, l = fs.map Fm.sv ∧ cel = [] ∧ fs.length ≤ 10 ∧ K (.lst ((fs.filter (wB a b)).map Fm.sv)) []
  | _ => False
theorem or_nil {l : List SV} {A B : Prop} (h1 : l = [] → A) (h2 : l ≠ [] → B) : (l = [] ∧ l.all (eqOk 6) = true ∧ A) ∨ (l.length ≠ ([] : List SV).length ∧ B) := by
  cases l with
  | nil => exact .inl ⟨rfl, rfl, h1 rfl⟩
  | cons a l => exact .inr ⟨(fun e => by cases e), h2 (fun e => by cases e)⟩
theorem filter_nil_of {fs : List Fm} {p : Fm → Bool} (e : (fs.filter p).map Fm.sv = []) : (fs.filter p).isEmpty = true := by rw [List.map_eq_nil_iff.mp e]; rfl
theorem filter_cons_of {fs : List Fm} {p : Fm → Bool} (e : (fs.filter p).map Fm.sv ≠ []) : (fs.filter p).isEmpty = false := by
  cases q : fs.filter p with
  | nil => rw [q] at e; exact absurd rfl e
  | cons a l => rfl
def T301 : Tb := { glob := [("is_eliciting", .ref 282)], fn := [(282, spElic)], fnG := [], cls := [], field := [], meth := [] }
theorem anye_run (w : World) : Rn spAnyE T301 200 301 [] ["row"] w := fun as cel K h => by
  unfold spAnyE spRow at h
  split at h
  · obtain ⟨fs, rfl, rfl, hl, k⟩ := h
    conv => whnf
    refine Gd.mk (ble_of (by rw [List.length_map]; omega)) ?_
    conv => whnf
    refine ⟨?_⟩
    refine comp_filter Fm.sv Fm.sv (elicB) 20 _ _ _ (Nat.le_trans (m := 41) (by omega) (by decide)) (fun f _ n K' hk => ?_) (fun f _ n K' hk => ?_) ?_
    · conv => whnf
      refine ⟨f, rfl, rfl, ?_⟩
      conv => whnf
      exact hk
    · conv => whnf
      exact hk
    · conv => whnf
      rw [List.nil_append]
      refine or_nil (fun e => ?_) (fun e => ?_)
      · dsimp only at k
        rw [filter_nil_of e] at k
        conv => whnf
        exact k
      · dsimp only at k
        rw [filter_cons_of e] at k
        conv => whnf
        exact k
  · exact h.elim
theorem in301 (w : World) : FnAt 301 w := ⟨_, _, _, _, _, _, _, _, _, rfl, by kernel_rfl⟩
theorem bind301 (w : World) : Bnd (prm 301 w.params) ["row"] := bnd1 fun _ _ => by kernel_rfl
theorem ok301 (w : World) : FnOk w 301 2 16 spAnyE :=
  FnOk.at (ns := ["row"]) (T := T301) (U := 13) (D := 1) 301 [] 200 (in301 w) (bind301 w) (by kernel_rfl) (fun as cel K h => by
    unfold spAnyE spRow at h
    split at h
    · rfl
    · exact h.elim) (tbOk (.cons (g_53 w) .nil) (.cons (ok282 w) (by decide) (by decide) (by kernel_rfl) .nil) .nil .nil .nil) (by decide) (anye_run w)
def T306 : Tb := { glob := [("counts_in_flight", .ref 289)], fn := [(289, spFlight)], fnG := [], cls := [], field := [], meth := [] }
theorem anyf_run (w : World) : Rn spAnyF T306 200 306 [] ["row"] w := fun as cel K h => by
  unfold spAnyF spRow at h
  split at h
  · obtain ⟨fs, rfl, rfl, hl, k⟩ := h
    conv => whnf
    refine Gd.mk (ble_of (by rw [List.length_map]; omega)) ?_
    conv => whnf
    refine ⟨?_⟩
    refine comp_filter Fm.sv Fm.sv (elicB) 20 _ _ _ (Nat.le_trans (m := 41) (by omega) (by decide)) (fun f _ n K' hk => ?_) (fun f _ n K' hk => ?_) ?_
    · conv => whnf
      refine ⟨f, rfl, rfl, ?_⟩
      conv => whnf
      exact hk
    · conv => whnf
      exact hk
    · conv => whnf
      rw [List.nil_append]
      refine or_nil (fun e => ?_) (fun e => ?_)
      · dsimp only at k
        rw [filter_nil_of e] at k
        conv => whnf
        exact k
      · dsimp only at k
        rw [filter_cons_of e] at k
        conv => whnf
        exact k
  · exact h.elim
theorem in306 (w : World) : FnAt 306 w := ⟨_, _, _, _, _, _, _, _, _, rfl, by kernel_rfl⟩
theorem bind306 (w : World) : Bnd (prm 306 w.params) ["row"] := bnd1 fun _ _ => by kernel_rfl
theorem ok306 (w : World) : FnOk w 306 2 16 spAnyF :=
  FnOk.at (ns := ["row"]) (T := T306) (U := 13) (D := 1) 306 [] 200 (in306 w) (bind306 w) (by kernel_rfl) (fun as cel K h => by
    unfold spAnyF spRow at h
    split at h
    · rfl
    · exact h.elim) (tbOk (.cons (g_54 w) .nil) (.cons (ok289 w) (by decide) (by decide) (by kernel_rfl) .nil) .nil .nil .nil) (by decide) (anyf_run w)
def T311 : Tb := { glob := [("is_probing", .ref 296)], fn := [(296, spProb)], fnG := [], cls := [], field := [], meth := [] }
theorem are_run (w : World) : Rn spAre T311 200 311 [] ["row"] w := fun as cel K h => by
  unfold spAre spRow at h
  split at h
  · obtain ⟨fs, rfl, rfl, hl, k⟩ := h
    conv => whnf
    refine Gd.mk (ble_of (by rw [List.length_map]; omega)) ?_
    conv => whnf
    refine ⟨?_⟩
    refine comp_filter Fm.sv Fm.sv (fun f => !probB f) 20 _ _ _ (Nat.le_trans (m := 41) (by omega) (by decide)) (fun f _ n K' hk => ?_) (fun f _ n K' hk => ?_) ?_
    · conv => whnf
      refine ⟨f, rfl, rfl, ?_⟩
      conv => whnf
      exact hk
    · conv => whnf
      exact hk
    · conv => whnf
      rw [List.nil_append]
      refine or_nil (fun e => ?_) (fun e => ?_)
      · dsimp only at k
        rw [filter_nil_of e] at k
        conv => whnf
        exact k
      · dsimp only at k
        rw [filter_cons_of e] at k
        conv => whnf
        exact k
  · exact h.elim
theorem in311 (w : World) : FnAt 311 w := ⟨_, _, _, _, _, _, _, _, _, rfl, by kernel_rfl⟩
theorem bind311 (w : World) : Bnd (prm 311 w.params) ["row"] := bnd1 fun _ _ => by kernel_rfl
theorem ok311 (w : World) : FnOk w 311 2 16 spAre :=
  FnOk.at (ns := ["row"]) (T := T311) (U := 13) (D := 1) 311 [] 200 (in311 w) (bind311 w) (by kernel_rfl) (fun as cel K h => by
    unfold spAre spRow at h
    split at h
    · rfl
    · exact h.elim) (tbOk (.cons (g_55 w) .nil) (.cons (ok296 w) (by decide) (by decide) (by kernel_rfl) .nil) .nil .nil .nil) (by decide) (are_run w)
def T337 : Tb := { glob := [], fn := [], fnG := [], cls := [], field := [], meth := [] }
theorem without_run (w : World) : Rn spWithout T337 200 337 [] ["row", "kinds"] w := fun as cel K h => by
  unfold spWithout at h
  split at h
  · rename_i a b
    obtain ⟨fs, rfl, rfl, hl, k⟩ := h
    conv => whnf
    refine Gd.mk (ble_of (by rw [List.length_map]; omega)) ?_
    conv => whnf
    refine ⟨?_⟩
    refine comp_filter Fm.sv Fm.sv (wB a b) 20 _ _ _ (Nat.le_trans (m := 41) (by omega) (by decide)) (fun f _ n K' hk => ?_) (fun f _ n K' hk => ?_) ?_
    · obtain ⟨tl, e, hb⟩ := sv_head f
      rw [e] at hk ⊢
      conv => whnf
      refine Gd.mk hb ?_
      conv => whnf
      rw [strAny_two]
      conv => whnf
      exact hk
    · conv => whnf
      exact hk
    · conv => whnf
      rw [List.nil_append]
      exact k
  · exact h.elim
theorem in337 (w : World) : FnAt 337 w := ⟨_, _, _, _, _, _, _, _, _, rfl, by kernel_rfl⟩
theorem bind337 (w : World) : Bnd (prm 337 w.params) ["row", "kinds"] := bnd2 fun _ _ _ => by kernel_rfl
theorem ok337 (w : World) : FnOk w 337 1 13 spWithout :=
  FnOk.at (ns := ["row", "kinds"]) (T := T337) (U := 10) (D := 0) 337 [] 200 (in337 w) (bind337 w) (by kernel_rfl) (fun as cel K h => by
    unfold spWithout at h
    split at h
    · rfl
    · exact h.elim) (tbOk .nil .nil .nil .nil .nil) (by decide) (without_run w)
end
section
abbrev bx (ns : List Int) (j : Nat) (h : Int) : List SObj := [.lst [.lst (ns.map SV.int), .int (Int.ofNat j), .int h]]
def spTake2 : Spec := fun as cel K => match as with
  | [.c 0, .v (.int m)] => ∃ ns j h, cel = bx ns j h ∧ ns.length ≤ 63 ∧ j ≤ ns.length ∧ 0 ≤ h ∧ 1 ≤ m ∧ m ≤ 13 ∧ ∀ r j' h', 0 ≤ r → r < m → j' ≤ ns.length → 0 ≤ h' → K (.int r) (bx ns j' h')
  | _ => False
def T426 : Tb := { glob := [("len", .bi .len)], fn := [], fnG := [], cls := [], field := [], meth := [] }
theorem take2_run (w : World) : Rn spTake2 T426 200 426 [] ["box", "many"] w := fun as cel K h => by
  unfold spTake2 at h
  split at h
  · obtain ⟨ns, j, h, rfl, hl, hj, h0, m1, m2, k⟩ := h
    conv => whnf
    refine Gd.mk (ble_of (by rw [List.length_map]; omega)) ?_
    conv => whnf
    rw [List.length_map]
    refine Br.intro (fun q => ?_) (fun q => ?_)
    · have q : j < ns.length := by have := of_decide_eq_true q; exact Int.ofNat_lt.mp this
      conv => whnf
      rw [show Int.ofNat j + 1 - 1 = Int.ofNat j from by omega]
      conv => whnf
      rw [List.getElem?_map, List.getElem?_eq_getElem q]
      conv => whnf
      refine Gd.mk (ble_of (by rw [List.length_map]; omega)) ?_
      conv => whnf
      refine Gd.mk (by simp; omega) ?_
      conv => whnf
      exact k _ (j + 1) _ (Int.fmod_nonneg_of_pos _ (by omega)) (Int.fmod_lt_of_pos _ (by omega)) q (Int.fmod_nonneg_of_pos _ (by decide))
    · conv => whnf
      refine Gd.mk (by simp; omega) ?_
      conv => whnf
      exact k _ j _ (Int.fmod_nonneg_of_pos _ (by omega)) (Int.fmod_lt_of_pos _ (by omega)) hj (Int.fmod_nonneg_of_pos _ (by decide))
  · exact h.elim
theorem in426 (w : World) : FnAt 426 w := ⟨_, _, _, _, _, _, _, _, _, rfl, by kernel_rfl⟩
theorem bind426 (w : World) : Bnd (prm 426 w.params) ["box", "many"] := bnd2 fun _ _ _ => by kernel_rfl
theorem ok426 (w : World) : FnOk w 426 1 13 spTake2 :=
  FnOk.at (ns := ["box", "many"]) (T := T426) (U := 10) (D := 0) 426 [] 200 (in426 w) (bind426 w) (by kernel_rfl) (fun as cel K h => by
    unfold spTake2 at h
    split at h
    · rfl
    · exact h.elim) (tbOk (.cons (g_87 w) .nil) .nil .nil .nil .nil) (by decide) (take2_run w)
def numB (n : Int) : Prop := n = 3 ∨ n = 70 ∨ n = 20000 ∨ n = 2147483648
def spNumber : Spec := fun as cel K => match as with
  | [.c 0] => ∃ ns j h, cel = bx ns j h ∧ ns.length ≤ 63 ∧ j ≤ ns.length ∧ 0 ≤ h ∧ ∀ n j' h', numB n → j' ≤ ns.length → 0 ≤ h' → K (.int n) (bx ns j' h')
  | _ => False
def spSome : Spec := fun as cel K => match as with
  | [.c 0] => ∃ ns j h, cel = bx ns j h ∧ ns.length ≤ 63 ∧ j ≤ ns.length ∧ 0 ≤ h ∧ ∀ (l : List UInt8) j' h', l.length ≤ 4 → j' ≤ ns.length → 0 ≤ h' → K (.bytes l) (bx ns j' h')
  | _ => False
def T433 : Tb := { glob := [("_law_take", .ref 426)], fn := [(426, spTake2)], fnG := [], cls := [], field := [], meth := [] }
theorem number_run (w : World) : Rn spNumber T433 200 433 [] ["box"] w := fun as cel K h => by
  unfold spNumber at h
  split at h
  · obtain ⟨ns, j, h, rfl, hl, hj, h0, k⟩ := h
    conv => whnf
    refine ⟨ns, j, h, rfl, hl, hj, h0, by decide, by decide, fun r j' h' r0 r1 hj' h0' => ?_⟩
    have hr : r = 0 ∨ r = 1 ∨ r = 2 ∨ r = 3 := by omega
    rcases hr with rfl | rfl | rfl | rfl
    · conv => whnf
      exact k 3 j' h' (.inl rfl) hj' h0'
    · conv => whnf
      exact k 70 j' h' (.inr (.inl rfl)) hj' h0'
    · conv => whnf
      exact k 20000 j' h' (.inr (.inr (.inl rfl))) hj' h0'
    · conv => whnf
      exact k 2147483648 j' h' (.inr (.inr (.inr rfl))) hj' h0'
  · exact h.elim
theorem in433 (w : World) : FnAt 433 w := ⟨_, _, _, _, _, _, _, _, _, rfl, by kernel_rfl⟩
theorem bind433 (w : World) : Bnd (prm 433 w.params) ["box"] := bnd1 fun _ _ => by kernel_rfl
theorem ok433 (w : World) : FnOk w 433 2 16 spNumber :=
  FnOk.at (ns := ["box"]) (T := T433) (U := 13) (D := 1) 433 [] 200 (in433 w) (bind433 w) (by kernel_rfl) (fun as cel K h => by
    unfold spNumber at h
    split at h
    · rfl
    · exact h.elim) (tbOk (.cons (g_75 w) .nil) (.cons (ok426 w) (by decide) (by decide) (by kernel_rfl) .nil) .nil .nil .nil) (by decide) (number_run w)
def T440 : Tb := { glob := [("_law_take", .ref 426), ("bytes", .ty .bytes)], fn := [(426, spTake2)], fnG := [], cls := [], field := [], meth := [] }
theorem some_run (w : World) : Rn spSome T440 200 440 [] ["box"] w := fun as cel K h => by
  unfold spSome at h
  split at h
  · obtain ⟨ns, j, h, rfl, hl, hj, h0, k⟩ := h
    conv => whnf
    refine ⟨ns, j, h, rfl, hl, hj, h0, by decide, by decide, fun r j' h' r0 r1 hj' h0' => ?_⟩
    have hr : r = 0 ∨ r = 1 ∨ r = 2 ∨ r = 3 ∨ r = 4 := by omega
    rcases hr with rfl | rfl | rfl | rfl | rfl
    all_goals
      conv => whnf
      exact k _ j' h' (Nat.le_of_ble_eq_true rfl) hj' h0'
  · exact h.elim
theorem in440 (w : World) : FnAt 440 w := ⟨_, _, _, _, _, _, _, _, _, rfl, by kernel_rfl⟩
theorem bind440 (w : World) : Bnd (prm 440 w.params) ["box"] := bnd1 fun _ _ => by kernel_rfl
theorem ok440 (w : World) : FnOk w 440 2 16 spSome :=
  FnOk.at (ns := ["box"]) (T := T440) (U := 13) (D := 1) 440 [] 200 (in440 w) (bind440 w) (by kernel_rfl) (fun as cel K h => by
    unfold spSome at h
    split at h
    · rfl
    · exact h.elim) (tbOk (.cons (g_75 w) (.cons (g_92 w) .nil)) (.cons (ok426 w) (by decide) (by decide) (by kernel_rfl) .nil) .nil .nil .nil) (by decide) (some_run w)
end
section
def spLFrame : Spec := fun as cel K => match as with
  | [.c 0] => ∃ ns j h, cel = bx ns j h ∧ ns.length ≤ 63 ∧ j ≤ ns.length ∧ 0 ≤ h ∧ ∀ f j' h', FmOk f → j' ≤ ns.length → 0 ≤ h' → K f.sv (bx ns j' h')
  | _ => False
theorem numB_lt {n : Int} (h : numB n) : 0 < n ∧ n < 4294967296 := by
  rcases h with rfl | rfl | rfl | rfl <;> omega
def T447 : Tb := { glob := [("_law_kinds", slaw_kinds), ("_law_take", .ref 426), ("_law_number", .ref 433), ("_law_some", .ref 440), ("bytes", .ty .bytes), ("range", .ty .range)], fn := [(426, spTake2), (433, spNumber), (440, spSome)], fnG := [], cls := [], field := [], meth := [] }
theorem lframe_run (w : World) : Rn spLFrame T447 200 447 [] ["box"] w := fun as cel K h => by
  unfold spLFrame at h
  split at h
  · obtain ⟨ns, j, h, rfl, hl, hj, h0, k⟩ := h
    conv => whnf
    refine ⟨ns, j, h, rfl, hl, hj, h0, by decide, by decide, fun r j' h' r0 r1 hj' h0' => ?_⟩
    have hr : r = 0 ∨ r = 1 ∨ r = 2 ∨ r = 3 ∨ r = 4 ∨ r = 5 ∨ r = 6 ∨ r = 7 ∨ r = 8 ∨ r = 9 ∨ r = 10 ∨ r = 11 ∨ r = 12 := by omega
    rcases hr with rfl | rfl | rfl | rfl | rfl | rfl | rfl | rfl | rfl | rfl | rfl | rfl | rfl
    · conv => whnf
      exact k (.ping) _ _ (trivial) (by assumption) (by assumption)
    · conv => whnf
      refine ⟨ns, _, _, rfl, hl, by assumption, by assumption, by decide, by decide, fun r j1 h1 r0 r1 hj1 hh1 => ?_⟩
      conv => whnf
      refine ⟨ns, _, _, rfl, hl, by assumption, by assumption, fun n j2 h2 b2 hj2 hh2 => ?_⟩
      have q2 := numB_lt b2
      conv => whnf
      refine Br.intro (fun q => ?_) (fun q => ?_)
      · conv => whnf
        exact k (.ack n (10 + r) false) _ _ ⟨by omega, by omega, by omega, by omega⟩ hj2 hh2
      · conv => whnf
        exact k (.ack n (10 + r) true) _ _ ⟨by omega, by omega, by omega, by omega⟩ hj2 hh2
    · conv => whnf
      refine ⟨ns, _, _, rfl, hl, by assumption, by assumption, fun n j1 h1 b1 hj1 hh1 => ?_⟩
      have q1 := numB_lt b1
      conv => whnf
      refine ⟨ns, _, _, rfl, hl, by assumption, by assumption, fun l j2 h2 b2 hj2 hh2 => ?_⟩
      conv => whnf
      exact k (.crypto n l) _ _ (⟨by omega, by omega, b2⟩) (by assumption) (by assumption)
    · conv => whnf
      refine ⟨ns, _, _, rfl, hl, by assumption, by assumption, fun n j1 h1 b1 hj1 hh1 => ?_⟩
      have q1 := numB_lt b1
      conv => whnf
      refine ⟨ns, _, _, rfl, hl, by assumption, by assumption, fun o j2 h2 b2 hj2 hh2 => ?_⟩
      have q2 := numB_lt b2
      conv => whnf
      refine ⟨ns, _, _, rfl, hl, by assumption, by assumption, fun l j3 h3 b3 hj3 hh3 => ?_⟩
      conv => whnf
      refine ⟨ns, _, _, rfl, hl, by assumption, by assumption, by decide, by decide, fun r j4 h4 r0 r1 hj4 hh4 => ?_⟩
      have hr : r = 0 ∨ r = 1 := by omega
      rcases hr with rfl | rfl
      all_goals
        conv => whnf
      · exact k (.stream n o l true) _ _ (⟨by omega, by omega, by omega, by omega, b3⟩) (by assumption) (by assumption)
      · exact k (.stream n o l false) _ _ (⟨by omega, by omega, by omega, by omega, b3⟩) (by assumption) (by assumption)
    · conv => whnf
      refine ⟨ns, _, _, rfl, hl, by assumption, by assumption, fun n j1 h1 b1 hj1 hh1 => ?_⟩
      have q1 := numB_lt b1
      conv => whnf
      exact k (.maxData n) _ _ (⟨by omega, by omega⟩) (by assumption) (by assumption)
    · conv => whnf
      refine ⟨ns, _, _, rfl, hl, by assumption, by assumption, by decide, by decide, fun r j1 h1 r0 r1 hj1 hh1 => ?_⟩
      have hr : r = 0 ∨ r = 1 := by omega
      rcases hr with rfl | rfl
      · conv => whnf
        refine ⟨ns, _, _, rfl, hl, by assumption, by assumption, fun n j2 h2 b2 hj2 hh2 => ?_⟩
        have q2 := numB_lt b2
        conv => whnf
        exact k (.maxStreams true n) _ _ (⟨by omega, by omega⟩) (by assumption) (by assumption)
      · conv => whnf
        refine ⟨ns, _, _, rfl, hl, by assumption, by assumption, fun n j2 h2 b2 hj2 hh2 => ?_⟩
        have q2 := numB_lt b2
        conv => whnf
        exact k (.maxStreams false n) _ _ (⟨by omega, by omega⟩) (by assumption) (by assumption)
    · conv => whnf
      refine ⟨ns, _, _, rfl, hl, by assumption, by assumption, fun n j1 h1 b1 hj1 hh1 => ?_⟩
      have q1 := numB_lt b1
      conv => whnf
      refine ⟨ns, _, _, rfl, hl, by assumption, by assumption, fun l j2 h2 b2 hj2 hh2 => ?_⟩
      conv => whnf
      refine Gd.mk (ble_of (Nat.le_trans (Nat.add_le_add (Nat.le_of_ble_eq_true rfl : _ ≤ 2) (by assumption)) (by decide))) ?_
      conv => whnf
      exact k (.ncid n ([105, 100] ++ l)) _ _ (⟨by omega, by omega, by rw [List.length_append]; exact Nat.le_trans (Nat.le_of_ble_eq_true rfl) (Nat.le_add_right 2 l.length), by rw [List.length_append]; exact Nat.add_le_add (Nat.le_of_ble_eq_true rfl : _ ≤ 2) b2⟩) (by assumption) (by assumption)
    · conv => whnf
      exact k (.pathResp) _ _ (trivial) (by assumption) (by assumption)
    · conv => whnf
      refine ⟨ns, _, _, rfl, hl, by assumption, by assumption, fun n j1 h1 b1 hj1 hh1 => ?_⟩
      have q1 := numB_lt b1
      conv => whnf
      refine ⟨ns, _, _, rfl, hl, by assumption, by assumption, by decide, by decide, fun r j2 h2 r0 r1 hj2 hh2 => ?_⟩
      have hr : r = 0 ∨ r = 1 := by omega
      rcases hr with rfl | rfl
      · conv => whnf
        refine ⟨ns, _, _, rfl, hl, by assumption, by assumption, fun l j3 h3 b3 hj3 hh3 => ?_⟩
        conv => whnf
        exact k (.close n false l) _ _ (⟨by omega, by omega, b3⟩) (by assumption) (by assumption)
      · conv => whnf
        refine ⟨ns, _, _, rfl, hl, by assumption, by assumption, fun l j3 h3 b3 hj3 hh3 => ?_⟩
        conv => whnf
        exact k (.close n true l) _ _ (⟨by omega, by omega, b3⟩) (by assumption) (by assumption)
    · conv => whnf
      exact k (.done) _ _ (trivial) (by assumption) (by assumption)
    · conv => whnf
      refine ⟨ns, _, _, rfl, hl, by assumption, by assumption, fun n j1 h1 b1 hj1 hh1 => ?_⟩
      have q1 := numB_lt b1
      conv => whnf
      exact k (.retire n) _ _ (⟨by omega, by omega⟩) (by assumption) (by assumption)
    · conv => whnf
      exact k (.pathChal) _ _ (trivial) (by assumption) (by assumption)
    · conv => whnf
      refine ⟨ns, _, _, rfl, hl, by assumption, by assumption, fun l j1 h1 b1 hj1 hh1 => ?_⟩
      conv => whnf
      refine Gd.mk (ble_of (Nat.le_trans (Nat.add_le_add (Nat.le_of_ble_eq_true rfl : _ ≤ 2) (by assumption)) (by decide))) ?_
      conv => whnf
      exact k (.newToken ([116] ++ l)) _ _ (⟨by rw [List.length_append]; exact Nat.le_trans (Nat.le_of_ble_eq_true rfl) (Nat.le_add_right 1 l.length), by rw [List.length_append]; exact Nat.add_le_add (Nat.le_of_ble_eq_true rfl : _ ≤ 1) b1⟩) (by assumption) (by assumption)
  · exact h.elim
theorem in447 (w : World) : FnAt 447 w := ⟨_, _, _, _, _, _, _, _, _, rfl, by kernel_rfl⟩
theorem bind447 (w : World) : Bnd (prm 447 w.params) ["box"] := bnd1 fun _ _ => by kernel_rfl
theorem ok447 (w : World) : FnOk w 447 3 19 spLFrame :=
  FnOk.at (ns := ["box"]) (T := T447) (U := 16) (D := 2) 447 [] 200 (in447 w) (bind447 w) (by kernel_rfl) (fun as cel K h => by
    unfold spLFrame at h
    split at h
    · rfl
    · exact h.elim) (tbOk (.cons (g_9 w) (.cons (g_75 w) (.cons (g_76 w) (.cons (g_77 w) (.cons (g_92 w) (.cons (g_91 w) .nil)))))) (.cons (ok426 w) (by decide) (by decide) (by kernel_rfl) (.cons (ok433 w) (by decide) (by decide) (by kernel_rfl) (.cons (ok440 w) (by decide) (by decide) (by kernel_rfl) .nil))) .nil .nil .nil) (by decide) (lframe_run w)
end
section
def spLVar : Spec := fun as cel K => match as with
  | [.v (.int n), .v (.int m)] => 0 ≤ n ∧ n < 4611686018427387904 ∧ (m = 0 ∨ m = 1 ∨ m = 2) ∧ cel = [] ∧ ((∀ e, Nm e n → K (.bytes (vb e n)) []) ∨ (m = 0 ∧ K (.bytes (vb (lv n) n)) []))
  | _ => False
def oc (x : Int) : Nat → Nat → List Int
  | _, 0 => []
  | j, k + 1 => oc x (j + 1) k ++ [(x.fdiv (256 ^ j)).fmod 256]
theorem beI_oc {x : Int} (h : 0 ≤ x) : ∀ j k, beI k (x.fdiv (256 ^ j)) = (oc x j k).map fun i => i.toNat.toUInt8
  | _, 0 => rfl
  | j, k + 1 => by
    have e : (x.fdiv (256 ^ j)).fdiv 256 = x.fdiv (256 ^ (j + 1)) := by
      have p : (0 : Int) ≤ 256 ^ j := Int.le_of_lt (Int.pow_pos (by decide))
      have p1 : (0 : Int) ≤ 256 ^ (j + 1) := Int.le_of_lt (Int.pow_pos (by decide))
      rw [Int.fdiv_eq_ediv_of_nonneg _ p, Int.fdiv_eq_ediv_of_nonneg _ p1, Int.fdiv_eq_ediv_of_nonneg _ (by decide), Int.ediv_ediv_of_nonneg p, Int.pow_succ]
    rw [beI, e, beI_oc h (j + 1) k, oc, List.map_append]; rfl
theorem oc_all (x : Int) : ∀ j k, (oc x j k).all b256 = true
  | _, 0 => rfl
  | j, k + 1 => by rw [oc, List.all_append, oc_all x (j + 1) k]; simp [b256_fmod]
theorem vb_oc {e : Nat} {n : Int} (h : 0 ≤ n) : vb e n = (oc (n + off e) 0 (sz e)).map fun i => i.toNat.toUInt8 := by
  have ho : 0 ≤ n + off e := by unfold off; split <;> omega
  rw [vb_eq, ← beI_oc ho 0 (sz e)]
  rw [show (256 : Int) ^ 0 = 1 from rfl, Int.fdiv_one]
def T452 : Tb := { glob := [("min", .bi .min), ("bytes", .ty .bytes), ("range", .ty .range)], fn := [], fnG := [], cls := [], field := [], meth := [] }
theorem lvar_run (w : World) : Rn spLVar T452 200 452 [] ["number", "more"] w := fun as cel K h => by
  unfold spLVar at h
  split at h
  · rename_i n m
    obtain ⟨h0, h1, hm, rfl, k⟩ := h
    have fin : ∀ (l : Nat), lv n = l → (∀ m', (m = m') → (∀ e, l ≤ e → e ≤ 3 → (m = 0 → e = l) → K (.bytes (vb e n)) [])) := by
      intro l hl m' hm' e he1 he2 he3
      rcases k with k | ⟨hm0, k⟩
      · refine k e ⟨by omega, h0, ?_⟩
        unfold lv at hl
        have : n < lim l := by
          subst hl
          repeat' split
          all_goals (first | exact (by assumption) | exact h1)
        have mono : ∀ a b : Nat, a ≤ b → lim a ≤ lim b := by
          intro a b hab
          match a, b, hab with
          | 0, 0, _ => decide
          | 0, 1, _ => decide
          | 0, 2, _ => decide
          | 0, b + 3, _ => exact (by decide : lim 0 ≤ lim 3)
          | 1, 1, _ => decide
          | 1, 2, _ => decide
          | 1, b + 3, _ => exact (by decide : lim 1 ≤ lim 3)
          | 2, 2, _ => decide
          | 2, b + 3, _ => exact (by decide : lim 2 ≤ lim 3)
          | a + 3, b + 3, _ => exact Int.le_refl _
        exact Int.lt_of_lt_of_le this (mono _ _ he1)
      · rw [he3 hm0, ← hl]; exact k
    conv => whnf
    refine ⟨?_⟩
    conv => whnf
    refine Br.intro (fun q0 => ?_) (fun q0 => ?_)
    rotate_left
    · have q0 : n < 64 := Int.not_le.mp (of_decide_eq_false q0)
      have hl : lv n = 0 := by unfold lv; rw [if_pos q0]
      rcases hm with rfl | rfl | rfl
      · conv => whnf
        refine ⟨?_⟩
        conv => whnf
        refine Gd.mk (and2 (oc_all (n + off 0) 0 1) rfl) ?_
        conv => whnf
        have kk := fin 0 hl 0 rfl 0 (by decide) (by decide) (by omega)
        rw [vb_oc h0] at kk
        exact kk
      · conv => whnf
        refine ⟨?_⟩
        conv => whnf
        refine Gd.mk (and2 (oc_all (n + off 1) 0 2) rfl) ?_
        conv => whnf
        have kk := fin 0 hl 1 rfl 1 (by decide) (by decide) (by omega)
        rw [vb_oc h0] at kk
        exact kk
      · conv => whnf
        refine ⟨?_⟩
        conv => whnf
        refine Gd.mk (and2 (oc_all (n + off 2) 0 4) rfl) ?_
        conv => whnf
        have kk := fin 0 hl 2 rfl 2 (by decide) (by decide) (by omega)
        rw [vb_oc h0] at kk
        exact kk
    conv => whnf
    refine Br.intro (fun q1 => ?_) (fun q1 => ?_)
    rotate_left
    · have q1 : n < 16384 := Int.not_le.mp (of_decide_eq_false q1)
      have q0 : 64 ≤ n := of_decide_eq_true q0
      have hl : lv n = 1 := by unfold lv; rw [if_neg (by omega), if_pos (by omega)]
      rcases hm with rfl | rfl | rfl
      · conv => whnf
        refine ⟨?_⟩
        conv => whnf
        refine Gd.mk (and2 (oc_all (n + off 1) 0 2) rfl) ?_
        conv => whnf
        have kk := fin 1 hl 0 rfl 1 (by decide) (by decide) (by omega)
        rw [vb_oc h0] at kk
        exact kk
      · conv => whnf
        refine ⟨?_⟩
        conv => whnf
        refine Gd.mk (and2 (oc_all (n + off 2) 0 4) rfl) ?_
        conv => whnf
        have kk := fin 1 hl 1 rfl 2 (by decide) (by decide) (by omega)
        rw [vb_oc h0] at kk
        exact kk
      · conv => whnf
        refine ⟨?_⟩
        conv => whnf
        refine Gd.mk (and2 (oc_all (n + off 3) 0 8) rfl) ?_
        conv => whnf
        have kk := fin 1 hl 2 rfl 3 (by decide) (by decide) (by omega)
        rw [vb_oc h0] at kk
        exact kk
    conv => whnf
    refine Br.intro (fun q2 => ?_) (fun q2 => ?_)
    rotate_left
    · have q2 : n < 1073741824 := Int.not_le.mp (of_decide_eq_false q2)
      have q1 : 16384 ≤ n := of_decide_eq_true q1
      have hl : lv n = 2 := by unfold lv; rw [if_neg (by omega), if_neg (by omega), if_pos (by omega)]
      rcases hm with rfl | rfl | rfl
      · conv => whnf
        refine ⟨?_⟩
        conv => whnf
        refine Gd.mk (and2 (oc_all (n + off 2) 0 4) rfl) ?_
        conv => whnf
        have kk := fin 2 hl 0 rfl 2 (by decide) (by decide) (by omega)
        rw [vb_oc h0] at kk
        exact kk
      · conv => whnf
        refine ⟨?_⟩
        conv => whnf
        refine Gd.mk (and2 (oc_all (n + off 3) 0 8) rfl) ?_
        conv => whnf
        have kk := fin 2 hl 1 rfl 3 (by decide) (by decide) (by omega)
        rw [vb_oc h0] at kk
        exact kk
      · conv => whnf
        refine ⟨?_⟩
        conv => whnf
        refine Gd.mk (and2 (oc_all (n + off 3) 0 8) rfl) ?_
        conv => whnf
        have kk := fin 2 hl 2 rfl 3 (by decide) (by decide) (by omega)
        rw [vb_oc h0] at kk
        exact kk
    conv => whnf
    refine Br.f (decide_eq_false (Int.not_le.mpr h1)) ?_
    · have q2 : 1073741824 ≤ n := of_decide_eq_true q2
      have hl : lv n = 3 := by unfold lv; rw [if_neg (by omega), if_neg (by omega), if_neg (by omega)]
      rcases hm with rfl | rfl | rfl
      · conv => whnf
        refine ⟨?_⟩
        conv => whnf
        refine Gd.mk (and2 (oc_all (n + off 3) 0 8) rfl) ?_
        conv => whnf
        have kk := fin 3 hl 0 rfl 3 (by decide) (by decide) (by omega)
        rw [vb_oc h0] at kk
        exact kk
      · conv => whnf
        refine ⟨?_⟩
        conv => whnf
        refine Gd.mk (and2 (oc_all (n + off 3) 0 8) rfl) ?_
        conv => whnf
        have kk := fin 3 hl 1 rfl 3 (by decide) (by decide) (by omega)
        rw [vb_oc h0] at kk
        exact kk
      · conv => whnf
        refine ⟨?_⟩
        conv => whnf
        refine Gd.mk (and2 (oc_all (n + off 3) 0 8) rfl) ?_
        conv => whnf
        have kk := fin 3 hl 2 rfl 3 (by decide) (by decide) (by omega)
        rw [vb_oc h0] at kk
        exact kk
  · exact h.elim
theorem in452 (w : World) : FnAt 452 w := ⟨_, _, _, _, _, _, _, _, _, rfl, by kernel_rfl⟩
theorem bind452 (w : World) : Bnd (prm 452 w.params) ["number", "more"] := bnd2 fun _ _ _ => by kernel_rfl
theorem ok452 (w : World) : FnOk w 452 1 13 spLVar :=
  FnOk.at (ns := ["number", "more"]) (T := T452) (U := 10) (D := 0) 452 [] 200 (in452 w) (bind452 w) (by kernel_rfl) (fun as cel K h => by
    unfold spLVar at h
    split at h
    · rfl
    · exact h.elim) (tbOk (.cons (g_88 w) (.cons (g_92 w) (.cons (g_91 w) .nil))) .nil .nil .nil .nil) (by decide) (lvar_run w)
def spLCnt : Spec := fun as cel K => match as with
  | [.v (.bytes l), .v (.int m)] => l.length ≤ 30 ∧ (m = 0 ∨ m = 1 ∨ m = 2) ∧ cel = [] ∧ ((∀ e, Nm e (l.length : Int) → K (.bytes (vb e l.length ++ l)) []) ∨ (m = 0 ∧ K (.bytes (cn l)) []))
  | _ => False
theorem cat_ble {a b : List UInt8} (h1 : a.length ≤ 1000) (h2 : b.length ≤ 1000) : Nat.ble (a.length + b.length) 16777216 = true := ble_of (by omega)
theorem vb_len8 (e : Nat) (n : Int) : (vb e n).length ≤ 8 := by rw [vb_len]; unfold sz; split <;> omega
def T459 : Tb := { glob := [("_law_varint", .ref 452), ("len", .bi .len)], fn := [(452, spLVar)], fnG := [], cls := [], field := [], meth := [] }
theorem lcnt_run (w : World) : Rn spLCnt T459 200 459 [] ["data", "more"] w := fun as cel K h => by
  unfold spLCnt at h
  split at h
  · rename_i l m
    obtain ⟨hl, hm, rfl, k⟩ := h
    conv => whnf
    refine Gd.mk (ble_of (by omega)) ?_
    conv => whnf
    refine ⟨by omega, by omega, hm, rfl, ?_⟩
    rcases k with k | ⟨m0, k⟩
    · refine .inl fun e he => ?_
      conv => whnf
      refine Gd.mk (cat_ble (Nat.le_trans (vb_len8 _ _) (by decide)) (by omega)) ?_
      exact k e he
    · refine .inr ⟨m0, ?_⟩
      conv => whnf
      refine Gd.mk (cat_ble (Nat.le_trans (vb_len8 _ _) (by decide)) (by omega)) ?_
      exact k
  · exact h.elim
theorem in459 (w : World) : FnAt 459 w := ⟨_, _, _, _, _, _, _, _, _, rfl, by kernel_rfl⟩
theorem bind459 (w : World) : Bnd (prm 459 w.params) ["data", "more"] := bnd2 fun _ _ _ => by kernel_rfl
theorem ok459 (w : World) : FnOk w 459 2 16 spLCnt :=
  FnOk.at (ns := ["data", "more"]) (T := T459) (U := 13) (D := 1) 459 [] 200 (in459 w) (bind459 w) (by kernel_rfl) (fun as cel K h => by
    unfold spLCnt at h
    split at h
    · rfl
    · exact h.elim) (tbOk (.cons (g_79 w) (.cons (g_87 w) .nil)) (.cons (ok452 w) (by decide) (by decide) (by kernel_rfl) .nil) .nil .nil .nil) (by decide) (lcnt_run w)
end
section
inductive Pt where
  | num (n : Int)
  | cnt (l : List UInt8)
  | raw (l : List UInt8)
def Pt.sv : Pt → SV
  | .num n => .int n
  | .cnt l => .tup [.str "counted", .bytes l]
  | .raw l => .bytes l
def ackT (low d : Int) : Bool → List Pt
  | true => [.num (low + 2), .num d, .num 1, .num 2, .num 2, .num 3, .num 1, .num 0, .num 300]
  | false => [.num (low + 2), .num d, .num 1, .num 2, .num 2, .num 3]
def closeT (c : Int) (l : List UInt8) : Bool → List Pt
  | true => [.num c, .num 6, .cnt l]
  | false => [.num c, .cnt l]
def tlP : Fm → List Pt
  | .ping => []
  | .ack d low e => ackT low d e
  | .crypto o l => [.num o, .cnt l]
  | .stream n o l _ => [.num n, .num o, .cnt l]
  | .maxData n => [.num n]
  | .maxStreams _ n => [.num n]
  | .ncid p c => [.num (p + 1), .num p, .raw (([c.length.toUInt8] ++ c) ++ upto 0 16)]
  | .pathResp => [.raw (upto 0 8)]
  | .close c ft l => closeT c l ft
  | .done => []
  | .retire n => [.num n]
  | .pathChal => [.raw (upto 0 8)]
  | .newToken l => [.cnt l]
def spParts : Spec := fun as cel K => match as with
  | [.v x] => ∃ f, x = f.sv ∧ FmOk f ∧ cel = [] ∧ K (.lst (.int f.told :: (tlP f).map Pt.sv)) []
  | _ => False
def T466 : Tb := { glob := [("int", .ty .int), ("bytes", .ty .bytes), ("len", .bi .len), ("list", .ty .list)], fn := [], fnG := [], cls := [], field := [], meth := [] }
theorem parts_run (w : World) : Rn spParts T466 200 466 [] ["f"] w := fun as cel K h => by
  unfold spParts at h
  split at h
  · obtain ⟨f, rfl, hok, rfl, k⟩ := h
    cases f with
    | ping  =>
      conv => whnf
      exact k
    | ack d low e =>
      cases e
      all_goals
        conv => whnf
        rw [show low + 2 - low = 2 from by omega, show low - (low - 4) - 2 = 2 from by omega, show low - 4 - (low - 7) = 3 from by omega]
        exact k
    | crypto x l =>
      conv => whnf
      exact k
    | stream n x l fin =>
      cases fin
      all_goals
        conv => whnf
        exact k
    | maxData n =>
      conv => whnf
      exact k
    | maxStreams u n =>
      cases u
      all_goals
        conv => whnf
        exact k
    | ncid p c =>
      obtain ⟨p0, p1, c1, c6⟩ := hok
      conv => whnf
      refine Gd.mk (ble_of (by omega)) ?_
      conv => whnf
      refine Gd.mk (and2 (by unfold b256; simp only [List.all_cons, List.all_nil, Bool.and_true, Bool.and_eq_true, decide_eq_true_eq]; omega) rfl) ?_
      conv => whnf
      refine Gd.mk (cat_ble (a := [_]) (Nat.le_of_ble_eq_true rfl) (by omega)) ?_
      conv => whnf
      refine Gd.mk (ble_of ?_) ?_
      · simp only [List.length_append, List.length_map, List.length_cons, List.length_nil, upto_length]; omega
      conv => whnf
      exact k
    | pathResp  =>
      conv => whnf
      exact k
    | close c ft l =>
      cases ft
      all_goals
        conv => whnf
        exact k
    | done  =>
      conv => whnf
      exact k
    | retire n =>
      conv => whnf
      exact k
    | pathChal  =>
      conv => whnf
      exact k
    | newToken l =>
      conv => whnf
      exact k
  · exact h.elim
theorem in466 (w : World) : FnAt 466 w := ⟨_, _, _, _, _, _, _, _, _, rfl, by kernel_rfl⟩
theorem bind466 (w : World) : Bnd (prm 466 w.params) ["f"] := bnd1 fun _ _ => by kernel_rfl
theorem ok466 (w : World) : FnOk w 466 1 13 spParts :=
  FnOk.at (ns := ["f"]) (T := T466) (U := 10) (D := 0) 466 [] 200 (in466 w) (bind466 w) (by kernel_rfl) (fun as cel K h => by
    unfold spParts at h
    split at h
    · rfl
    · exact h.elim) (tbOk (.cons (g_96 w) (.cons (g_92 w) (.cons (g_87 w) (.cons (g_95 w) .nil)))) .nil .nil .nil .nil) (by decide) (parts_run w)
end
section
def Pt.Ok : Pt → Prop
  | .num n => 0 ≤ n ∧ n < 4611686018427387904
  | .cnt l => l.length ≤ 30
  | .raw l => l.length ≤ 30
def WR : List Pt → List UInt8 → Prop
  | [], b => b = []
  | .num n :: r, b => ∃ e b', Nm e n ∧ b = vb e n ++ b' ∧ WR r b'
  | .cnt l :: r, b => ∃ e b', Nm e (l.length : Int) ∧ b = (vb e l.length ++ l) ++ b' ∧ WR r b'
  | .raw l :: r, b => ∃ b', b = l ++ b' ∧ WR r b'
def wl : Pt → List UInt8
  | .num n => vb (lv n) n
  | .cnt l => cn l
  | .raw l => l
inductive Wd where
  | least
  | wide (a b c : Int)
def Wd.sv : Wd → SV
  | .least => .tup [.int 0]
  | .wide a b c => .lst [.int a, .int b, .int c]
def b2 (a : Int) : Prop := a = 0 ∨ a = 1 ∨ a = 2
def Wd.Ok : Wd → Prop
  | .least => True
  | .wide a b c => b2 a ∧ b2 b ∧ b2 c
def WdR : Wd → List Pt → List UInt8 → Prop
  | .least, l, b => b = (l.map wl).flatten
  | .wide _ _ _, l, b => WR l b
def spWritten : Spec := fun as cel K => match as with
  | [.v x, .v y] => ∃ f wd, x = f.sv ∧ y = wd.sv ∧ FmOk f ∧ wd.Ok ∧ cel = [] ∧ ∀ b, WdR wd (tlP f) b → K (.bytes (vb 0 f.told ++ b)) []
  | _ => False
def T473 : Tb := { glob := [("_law_parts", .ref 466), ("_law_varint", .ref 452), ("_law_counted", .ref 459), ("isinstance", .bi .isi), ("int", .ty .int), ("tuple", .ty .tuple), ("len", .bi .len), ("enumerate", .ty .enumerate)], fn := [(466, spParts), (452, spLVar), (459, spLCnt)], fnG := [], cls := [], field := [], meth := [] }
noncomputable def eTgt (w : World) : Expr := match bd 473 w.params with
  | [_, .For t _ _ _ _, _] => t
  | _ => .Constant .none 0 default
noncomputable def eBody (w : World) : List Stmt := match bd 473 w.params with
  | [_, .For _ _ b _ _, _] => b
  | _ => []
theorem told_lv (f : Fm) : lv f.told = 0 := if_pos (told_lt f).2
theorem lk6 {a b c d e f : AV} {rest : List (Str × AV)} {v : Option AV} (h : lk "wider" rest = v) : lk "wider" (("part", a) :: ("at", b) :: ("found", c) :: ("more", d) :: ("part", e) :: ("at", f) :: rest) = v := h
theorem wr_loop (w : World) (wd : Wd) (hw : wd.Ok) (K : SF → SS → Prop) : ∀ (pts : List Pt) (m : Nat) (j : Nat) (acc : List UInt8) (mo pa at0 : AV) (rest : List (Str × AV)), pts.length + 1 ≤ m → 1 ≤ j → (∀ p ∈ pts, p.Ok) → lk "wider" rest = some (.v wd.sv) → acc.length + 40 * pts.length ≤ 900 →
    (∀ b mo pa at0 rest, WdR wd pts b → K .next ⟨("found", .v (.bytes (acc ++ b))) :: ("more", mo) :: ("part", pa) :: ("at", at0) :: rest, []⟩) →
    run T473 (m + 25) (ctAt 473 w 0 []) (.f (eTgt w) (eBody w) (enumItems (j : Int) (pts.map Pt.sv)) ⟨("found", .v (.bytes acc)) :: ("more", mo) :: ("part", pa) :: ("at", at0) :: rest, []⟩ K) := by
  intro pts
  induction pts with
  | nil =>
    intro m j acc mo pa at0 rest hm hj hp hr hl k
    obtain ⟨m, rfl⟩ : ∃ m', m = m' + 1 := ⟨m - 1, by simp only [List.length_nil] at hm; omega⟩
    conv => whnf
    have k' := k [] mo pa at0 rest (by cases wd <;> rfl)
    rw [List.append_nil] at k'
    exact k'
  | cons p pts ih =>
    intro m j acc mo pa at0 rest hm hj hp hr hl k
    obtain ⟨m, rfl⟩ : ∃ m', m = m' + 1 := ⟨m - 1, by simp only [List.length_cons] at hm; omega⟩
    simp only [List.length_cons] at hm hl
    have hp0 := hp p (.head _)
    conv => whnf
    refine Br.t (decide_eq_true (by omega)) ?_
    conv => whnf
    erw [lk6 hr]
    cases wd with
    | least =>
      conv => whnf
      erw [lk6 hr]
      conv => whnf
      rw [show ((j : Int)).fmod ((([SV.int 0] : List SV).length : Nat) : Int) = Int.ofNat 0 from Int.fmod_one _]
      conv => whnf
      rw [forceP_eq]
      conv => whnf
      cases p with
      | num n =>
        conv => whnf
        refine ⟨hp0.1, hp0.2, .inl rfl, rfl, .inr ⟨rfl, ?_⟩⟩
        have hx := vb_len8 (lv n) n
        conv => whnf
        refine Gd.mk (cat_ble (by omega) (by omega)) ?_
        conv => whnf
        rw [forceP_eq]
        conv => whnf
        rw [forceP_eq]
        refine ih m (j + 1) (acc ++ (vb (lv n) n)) _ _ _ _ (by omega) (by omega) (fun p h => hp p (.tail _ h)) ?_ (by rw [List.length_append]; omega) (fun b mo pa at0 rest hb => ?_)
        · exact hr
        have k' := k ((vb (lv n) n) ++ b) mo pa at0 rest (by rw [hb]; rfl)
        rw [← List.append_assoc] at k'
        exact k'
      | cnt l =>
        have hp0 : l.length ≤ 30 := hp0
        conv => whnf
        refine ⟨hp0, .inl rfl, rfl, .inr ⟨rfl, ?_⟩⟩
        have hx := cn_len l
        conv => whnf
        refine Gd.mk (cat_ble (by omega) (by omega)) ?_
        conv => whnf
        rw [forceP_eq]
        conv => whnf
        rw [forceP_eq]
        refine ih m (j + 1) (acc ++ (cn l)) _ _ _ _ (by omega) (by omega) (fun p h => hp p (.tail _ h)) ?_ (by rw [List.length_append]; omega) (fun b mo pa at0 rest hb => ?_)
        · exact hr
        have k' := k ((cn l) ++ b) mo pa at0 rest (by rw [hb]; rfl)
        rw [← List.append_assoc] at k'
        exact k'
      | raw l =>
        have hp0 : l.length ≤ 30 := hp0
        conv => whnf
        refine Gd.mk (cat_ble (by omega) (by omega)) ?_
        conv => whnf
        rw [forceP_eq]
        conv => whnf
        rw [forceP_eq]
        refine ih m (j + 1) (acc ++ (l)) _ _ _ _ (by omega) (by omega) (fun p h => hp p (.tail _ h)) ?_ (by rw [List.length_append]; omega) (fun b mo pa at0 rest hb => ?_)
        · exact hr
        have k' := k ((l) ++ b) mo pa at0 rest (by rw [hb]; rfl)
        rw [← List.append_assoc] at k'
        exact k'
    | wide a b c =>
      obtain ⟨ba, bb, bc⟩ := hw
      have hj3 : ((j : Int)).fmod ((([SV.int a, SV.int b, SV.int c] : List SV).length : Nat) : Int) = Int.ofNat 0 ∨ ((j : Int)).fmod ((([SV.int a, SV.int b, SV.int c] : List SV).length : Nat) : Int) = Int.ofNat 1 ∨ ((j : Int)).fmod ((([SV.int a, SV.int b, SV.int c] : List SV).length : Nat) : Int) = Int.ofNat 2 := by
        have e : ((j : Int)).fmod ((([SV.int a, SV.int b, SV.int c] : List SV).length : Nat) : Int) = (j : Int) % 3 := Int.fmod_eq_emod_of_nonneg (b := 3) _ (by decide)
        rw [e]
        show _ = (0 : Int) ∨ _ = (1 : Int) ∨ _ = (2 : Int)
        omega
      rcases hj3 with e | e | e
      · conv => whnf
        erw [lk6 hr]
        conv => whnf
        rw [e]
        conv => whnf
        rw [forceP_eq]
        conv => whnf
        cases p with
        | num n =>
          conv => whnf
          refine ⟨hp0.1, hp0.2, ba, rfl, .inl (fun lv0 hn => ?_)⟩
          have hx := vb_len8 lv0 n
          conv => whnf
          refine Gd.mk (cat_ble (by omega) (by omega)) ?_
          conv => whnf
          rw [forceP_eq]
          conv => whnf
          rw [forceP_eq]
          refine ih m (j + 1) (acc ++ (vb lv0 n)) _ _ _ _ (by omega) (by omega) (fun p h => hp p (.tail _ h)) ?_ (by rw [List.length_append]; omega) (fun b mo pa at0 rest hb => ?_)
          · exact hr
          have k' := k ((vb lv0 n) ++ b) mo pa at0 rest (⟨lv0, b, hn, rfl, hb⟩)
          rw [← List.append_assoc] at k'
          exact k'
        | cnt l =>
          have hp0 : l.length ≤ 30 := hp0
          conv => whnf
          refine ⟨hp0, ba, rfl, .inl (fun lv0 hn => ?_)⟩
          have hx : (vb lv0 l.length ++ l).length ≤ 38 := by rw [List.length_append]; have := vb_len8 lv0 l.length; omega
          conv => whnf
          refine Gd.mk (cat_ble (by omega) (by omega)) ?_
          conv => whnf
          rw [forceP_eq]
          conv => whnf
          rw [forceP_eq]
          refine ih m (j + 1) (acc ++ (vb lv0 l.length ++ l)) _ _ _ _ (by omega) (by omega) (fun p h => hp p (.tail _ h)) ?_ (by rw [List.length_append]; omega) (fun b mo pa at0 rest hb => ?_)
          · exact hr
          have k' := k ((vb lv0 l.length ++ l) ++ b) mo pa at0 rest (⟨lv0, b, hn, rfl, hb⟩)
          rw [← List.append_assoc] at k'
          exact k'
        | raw l =>
          have hp0 : l.length ≤ 30 := hp0
          conv => whnf
          refine Gd.mk (cat_ble (by omega) (by omega)) ?_
          conv => whnf
          rw [forceP_eq]
          conv => whnf
          rw [forceP_eq]
          refine ih m (j + 1) (acc ++ (l)) _ _ _ _ (by omega) (by omega) (fun p h => hp p (.tail _ h)) ?_ (by rw [List.length_append]; omega) (fun b mo pa at0 rest hb => ?_)
          · exact hr
          have k' := k ((l) ++ b) mo pa at0 rest (⟨b, rfl, hb⟩)
          rw [← List.append_assoc] at k'
          exact k'
      · conv => whnf
        erw [lk6 hr]
        conv => whnf
        rw [e]
        conv => whnf
        rw [forceP_eq]
        conv => whnf
        cases p with
        | num n =>
          conv => whnf
          refine ⟨hp0.1, hp0.2, bb, rfl, .inl (fun lv0 hn => ?_)⟩
          have hx := vb_len8 lv0 n
          conv => whnf
          refine Gd.mk (cat_ble (by omega) (by omega)) ?_
          conv => whnf
          rw [forceP_eq]
          conv => whnf
          rw [forceP_eq]
          refine ih m (j + 1) (acc ++ (vb lv0 n)) _ _ _ _ (by omega) (by omega) (fun p h => hp p (.tail _ h)) ?_ (by rw [List.length_append]; omega) (fun b mo pa at0 rest hb => ?_)
          · exact hr
          have k' := k ((vb lv0 n) ++ b) mo pa at0 rest (⟨lv0, b, hn, rfl, hb⟩)
          rw [← List.append_assoc] at k'
          exact k'
        | cnt l =>
          have hp0 : l.length ≤ 30 := hp0
          conv => whnf
          refine ⟨hp0, bb, rfl, .inl (fun lv0 hn => ?_)⟩
          have hx : (vb lv0 l.length ++ l).length ≤ 38 := by rw [List.length_append]; have := vb_len8 lv0 l.length; omega
          conv => whnf
          refine Gd.mk (cat_ble (by omega) (by omega)) ?_
          conv => whnf
          rw [forceP_eq]
          conv => whnf
          rw [forceP_eq]
          refine ih m (j + 1) (acc ++ (vb lv0 l.length ++ l)) _ _ _ _ (by omega) (by omega) (fun p h => hp p (.tail _ h)) ?_ (by rw [List.length_append]; omega) (fun b mo pa at0 rest hb => ?_)
          · exact hr
          have k' := k ((vb lv0 l.length ++ l) ++ b) mo pa at0 rest (⟨lv0, b, hn, rfl, hb⟩)
          rw [← List.append_assoc] at k'
          exact k'
        | raw l =>
          have hp0 : l.length ≤ 30 := hp0
          conv => whnf
          refine Gd.mk (cat_ble (by omega) (by omega)) ?_
          conv => whnf
          rw [forceP_eq]
          conv => whnf
          rw [forceP_eq]
          refine ih m (j + 1) (acc ++ (l)) _ _ _ _ (by omega) (by omega) (fun p h => hp p (.tail _ h)) ?_ (by rw [List.length_append]; omega) (fun b mo pa at0 rest hb => ?_)
          · exact hr
          have k' := k ((l) ++ b) mo pa at0 rest (⟨b, rfl, hb⟩)
          rw [← List.append_assoc] at k'
          exact k'
      · conv => whnf
        erw [lk6 hr]
        conv => whnf
        rw [e]
        conv => whnf
        rw [forceP_eq]
        conv => whnf
        cases p with
        | num n =>
          conv => whnf
          refine ⟨hp0.1, hp0.2, bc, rfl, .inl (fun lv0 hn => ?_)⟩
          have hx := vb_len8 lv0 n
          conv => whnf
          refine Gd.mk (cat_ble (by omega) (by omega)) ?_
          conv => whnf
          rw [forceP_eq]
          conv => whnf
          rw [forceP_eq]
          refine ih m (j + 1) (acc ++ (vb lv0 n)) _ _ _ _ (by omega) (by omega) (fun p h => hp p (.tail _ h)) ?_ (by rw [List.length_append]; omega) (fun b mo pa at0 rest hb => ?_)
          · exact hr
          have k' := k ((vb lv0 n) ++ b) mo pa at0 rest (⟨lv0, b, hn, rfl, hb⟩)
          rw [← List.append_assoc] at k'
          exact k'
        | cnt l =>
          have hp0 : l.length ≤ 30 := hp0
          conv => whnf
          refine ⟨hp0, bc, rfl, .inl (fun lv0 hn => ?_)⟩
          have hx : (vb lv0 l.length ++ l).length ≤ 38 := by rw [List.length_append]; have := vb_len8 lv0 l.length; omega
          conv => whnf
          refine Gd.mk (cat_ble (by omega) (by omega)) ?_
          conv => whnf
          rw [forceP_eq]
          conv => whnf
          rw [forceP_eq]
          refine ih m (j + 1) (acc ++ (vb lv0 l.length ++ l)) _ _ _ _ (by omega) (by omega) (fun p h => hp p (.tail _ h)) ?_ (by rw [List.length_append]; omega) (fun b mo pa at0 rest hb => ?_)
          · exact hr
          have k' := k ((vb lv0 l.length ++ l) ++ b) mo pa at0 rest (⟨lv0, b, hn, rfl, hb⟩)
          rw [← List.append_assoc] at k'
          exact k'
        | raw l =>
          have hp0 : l.length ≤ 30 := hp0
          conv => whnf
          refine Gd.mk (cat_ble (by omega) (by omega)) ?_
          conv => whnf
          rw [forceP_eq]
          conv => whnf
          rw [forceP_eq]
          refine ih m (j + 1) (acc ++ (l)) _ _ _ _ (by omega) (by omega) (fun p h => hp p (.tail _ h)) ?_ (by rw [List.length_append]; omega) (fun b mo pa at0 rest hb => ?_)
          · exact hr
          have k' := k ((l) ++ b) mo pa at0 rest (⟨b, rfl, hb⟩)
          rw [← List.append_assoc] at k'
          exact k'
theorem tlP_ok {f : Fm} (h : FmOk f) : (∀ p ∈ tlP f, p.Ok) ∧ (tlP f).length ≤ 9 := by
  cases f with
  | ack d low e =>
    cases e
    all_goals
      simp only [FmOk] at h
      refine ⟨?_, Nat.le_of_ble_eq_true rfl⟩
      simp only [tlP, ackT, List.forall_mem_cons, Pt.Ok]
      refine ⟨by omega, by omega, by omega, by omega, by omega, by omega, ?_⟩
      first
        | exact fun p hp => (List.not_mem_nil hp).elim
        | exact ⟨by omega, by omega, by omega, fun p hp => (List.not_mem_nil hp).elim⟩
  | close c ft l =>
    cases ft
    all_goals
      simp only [FmOk] at h
      refine ⟨?_, Nat.le_of_ble_eq_true rfl⟩
      simp only [tlP, closeT, List.forall_mem_cons, Pt.Ok]
      first
        | exact ⟨by omega, by omega, fun p hp => (List.not_mem_nil hp).elim⟩
        | exact ⟨by omega, by omega, by omega, fun p hp => (List.not_mem_nil hp).elim⟩
  | ping => exact ⟨fun p hp => (List.not_mem_nil hp).elim, by decide⟩
  | done => exact ⟨fun p hp => (List.not_mem_nil hp).elim, by decide⟩
  | pathResp => exact ⟨by simp only [tlP, List.forall_mem_cons, Pt.Ok, upto_length]; exact ⟨by decide, fun p hp => (List.not_mem_nil hp).elim⟩, Nat.le_of_ble_eq_true rfl⟩
  | pathChal => exact ⟨by simp only [tlP, List.forall_mem_cons, Pt.Ok, upto_length]; exact ⟨by decide, fun p hp => (List.not_mem_nil hp).elim⟩, Nat.le_of_ble_eq_true rfl⟩
  | newToken l => simp only [FmOk] at h; exact ⟨by simp only [tlP, List.forall_mem_cons, Pt.Ok]; exact ⟨by omega, fun p hp => (List.not_mem_nil hp).elim⟩, Nat.le_of_ble_eq_true rfl⟩
  | maxData n => simp only [FmOk] at h; exact ⟨by simp only [tlP, List.forall_mem_cons, Pt.Ok]; exact ⟨by omega, fun p hp => (List.not_mem_nil hp).elim⟩, Nat.le_of_ble_eq_true rfl⟩
  | retire n => simp only [FmOk] at h; exact ⟨by simp only [tlP, List.forall_mem_cons, Pt.Ok]; exact ⟨by omega, fun p hp => (List.not_mem_nil hp).elim⟩, Nat.le_of_ble_eq_true rfl⟩
  | maxStreams u n => simp only [FmOk] at h; exact ⟨by simp only [tlP, List.forall_mem_cons, Pt.Ok]; exact ⟨by omega, fun p hp => (List.not_mem_nil hp).elim⟩, Nat.le_of_ble_eq_true rfl⟩
  | crypto x l => simp only [FmOk] at h; exact ⟨by simp only [tlP, List.forall_mem_cons, Pt.Ok]; exact ⟨by omega, by omega, fun p hp => (List.not_mem_nil hp).elim⟩, Nat.le_of_ble_eq_true rfl⟩
  | stream n x l u => simp only [FmOk] at h; exact ⟨by simp only [tlP, List.forall_mem_cons, Pt.Ok]; exact ⟨by omega, by omega, by omega, fun p hp => (List.not_mem_nil hp).elim⟩, Nat.le_of_ble_eq_true rfl⟩
  | ncid p c => simp only [FmOk] at h; exact ⟨by simp only [tlP, List.forall_mem_cons, Pt.Ok, List.length_append, List.length_cons, List.length_nil, upto_length]; exact ⟨by omega, by omega, by omega, fun p hp => (List.not_mem_nil hp).elim⟩, Nat.le_of_ble_eq_true rfl⟩
theorem wr_first (w : World) (f : Fm) (its : List SV) (nu wd fv : SV) (K : SF → SS → Prop)
    (h : run T473 196 (ctAt 473 w 0 []) (.f (eTgt w) (eBody w) its ⟨[("found", .v (.bytes ([] ++ vb 0 f.told))), ("more", .v (.int 0)), ("part", .v (.int f.told)), ("at", .v (.int 0)), ("found", .v (.bytes [])), ("numbers", .v nu), ("wider", .v wd), ("f", .v fv)], []⟩ K)) :
    run T473 197 (ctAt 473 w 0 []) (.f (eTgt w) (eBody w) (.tup [.int 0, .int f.told] :: its) ⟨[("found", .v (.bytes [])), ("numbers", .v nu), ("wider", .v wd), ("f", .v fv)], []⟩ K) := by
  conv => whnf
  refine ⟨(told_lt f).1, Int.lt_trans (told_lt f).2 (by decide), .inl rfl, rfl, .inr ⟨rfl, ?_⟩⟩
  rw [told_lv]
  conv => whnf
  conv at h => whnf
  exact h
theorem written_run (w : World) : Rn spWritten T473 200 473 [] ["f", "wider"] w := fun as cel K h => by
  unfold spWritten at h
  split at h
  · rename_i x y
    obtain ⟨f, wd, rfl, rfl, hok, hw, rfl, k⟩ := h
    conv => whnf
    refine ⟨f, rfl, hok, rfl, ?_⟩
    conv => whnf
    refine ⟨?_⟩
    refine wr_first w f (enumItems (1 : Nat) ((tlP f).map Pt.sv)) _ _ _ _ ?_
    have hx := vb_len8 0 f.told
    refine wr_loop w wd hw _ (tlP f) 171 1 ([] ++ vb 0 f.told) _ _ _ _ (by have := (tlP_ok hok).2; omega) (by decide) (tlP_ok hok).1 ?_ (by have := (tlP_ok hok).2; rw [List.nil_append]; omega) (fun b mo pa at0 rest hb => ?_)
    · rfl
    conv => whnf
    rw [forceP_eq]
    conv => whnf
    rw [forceP_eq]
    exact k b hb
  · exact h.elim
theorem in473 (w : World) : FnAt 473 w := ⟨_, _, _, _, _, _, _, _, _, rfl, by kernel_rfl⟩
theorem bind473 (w : World) : Bnd (prm 473 w.params) ["f", "wider"] := bnd2 fun _ _ _ => by kernel_rfl
theorem ok473 (w : World) : FnOk w 473 3 19 spWritten :=
  FnOk.at (ns := ["f", "wider"]) (T := T473) (U := 16) (D := 2) 473 [] 200 (in473 w) (bind473 w) (by kernel_rfl) (fun as cel K h => by
    unfold spWritten at h
    split at h
    · rfl
    · exact h.elim) (tbOk (.cons (g_81 w) (.cons (g_79 w) (.cons (g_80 w) (.cons (g_90 w) (.cons (g_96 w) (.cons (g_94 w) (.cons (g_87 w) (.cons (g_97 w) .nil)))))))) (.cons (ok466 w) (by decide) (by decide) (by kernel_rfl) (.cons (ok452 w) (by decide) (by decide) (by kernel_rfl) (.cons (ok459 w) (by decide) (by decide) (by kernel_rfl) .nil))) .nil .nil .nil) (by decide) (written_run w)
end
section
theorem occ_ihz1_z' : (Builtin.Str.occurrences ("ihz1" : Str) ("z" : Str) 0 ("ihz1" : Str).length 1).isEmpty = false := by decide +kernel
theorem occ_ihz1_i' : (Builtin.Str.occurrences ("ihz1" : Str) ("i" : Str) 0 ("ihz1" : Str).length 1).isEmpty = false := by decide +kernel
theorem occ_ihz1_1' : (Builtin.Str.occurrences ("ihz1" : Str) ("1" : Str) 0 ("ihz1" : Str).length 1).isEmpty = false := by decide +kernel
theorem occ_ihz1_h' : (Builtin.Str.occurrences ("ihz1" : Str) ("h" : Str) 0 ("ihz1" : Str).length 1).isEmpty = false := by decide +kernel
theorem occ_ih1_z' : (Builtin.Str.occurrences ("ih1" : Str) ("z" : Str) 0 ("ih1" : Str).length 1).isEmpty = true := by decide +kernel
theorem occ_ih1_i' : (Builtin.Str.occurrences ("ih1" : Str) ("i" : Str) 0 ("ih1" : Str).length 1).isEmpty = false := by decide +kernel
theorem occ_ih1_1' : (Builtin.Str.occurrences ("ih1" : Str) ("1" : Str) 0 ("ih1" : Str).length 1).isEmpty = false := by decide +kernel
theorem occ_ih1_h' : (Builtin.Str.occurrences ("ih1" : Str) ("h" : Str) 0 ("ih1" : Str).length 1).isEmpty = false := by decide +kernel
theorem occ_z1_z' : (Builtin.Str.occurrences ("z1" : Str) ("z" : Str) 0 ("z1" : Str).length 1).isEmpty = false := by decide +kernel
theorem occ_z1_i' : (Builtin.Str.occurrences ("z1" : Str) ("i" : Str) 0 ("z1" : Str).length 1).isEmpty = true := by decide +kernel
theorem occ_z1_1' : (Builtin.Str.occurrences ("z1" : Str) ("1" : Str) 0 ("z1" : Str).length 1).isEmpty = false := by decide +kernel
theorem occ_z1_h' : (Builtin.Str.occurrences ("z1" : Str) ("h" : Str) 0 ("z1" : Str).length 1).isEmpty = true := by decide +kernel
theorem occ_1_z' : (Builtin.Str.occurrences ("1" : Str) ("z" : Str) 0 ("1" : Str).length 1).isEmpty = true := by decide +kernel
theorem occ_1_i' : (Builtin.Str.occurrences ("1" : Str) ("i" : Str) 0 ("1" : Str).length 1).isEmpty = true := by decide +kernel
theorem occ_1_1' : (Builtin.Str.occurrences ("1" : Str) ("1" : Str) 0 ("1" : Str).length 1).isEmpty = false := by decide +kernel
theorem occ_1_h' : (Builtin.Str.occurrences ("1" : Str) ("h" : Str) 0 ("1" : Str).length 1).isEmpty = true := by decide +kernel
theorem occP_ihz1 (p : Pk) : (Builtin.Str.occurrences ("ihz1" : Str) p.short 0 ("ihz1" : Str).length 1).isEmpty = (match p with | .z => false | .i => false | .s => false | .h => false) := by
  cases p with
  | z => exact occ_ihz1_z'
  | i => exact occ_ihz1_i'
  | s => exact occ_ihz1_1'
  | h => exact occ_ihz1_h'
theorem occP_ih1 (p : Pk) : (Builtin.Str.occurrences ("ih1" : Str) p.short 0 ("ih1" : Str).length 1).isEmpty = (match p with | .z => true | .i => false | .s => false | .h => false) := by
  cases p with
  | z => exact occ_ih1_z'
  | i => exact occ_ih1_i'
  | s => exact occ_ih1_1'
  | h => exact occ_ih1_h'
theorem occP_z1 (p : Pk) : (Builtin.Str.occurrences ("z1" : Str) p.short 0 ("z1" : Str).length 1).isEmpty = (match p with | .z => false | .i => true | .s => false | .h => true) := by
  cases p with
  | z => exact occ_z1_z'
  | i => exact occ_z1_i'
  | s => exact occ_z1_1'
  | h => exact occ_z1_h'
theorem occP_1 (p : Pk) : (Builtin.Str.occurrences ("1" : Str) p.short 0 ("1" : Str).length 1).isEmpty = (match p with | .z => true | .i => true | .s => false | .h => true) := by
  cases p with
  | z => exact occ_1_z'
  | i => exact occ_1_i'
  | s => exact occ_1_1'
  | h => exact occ_1_h'
def cliS : Bool → Str
  | true => "client"
  | false => "server"
def sendB : Fm → Bool → Bool
  | .newToken _, c => !c
  | .done, c => !c
  | _, _ => true
def sPlaces : SV := .dic [(.str "ping", .str "ihz1"), (.str "ack", .str "ih1"), (.str "crypto", .str "ih1"), (.str "stream", .str "z1"), (.str "max_data", .str "z1"), (.str "max_streams", .str "z1"), (.str "new_connection_id", .str "z1"), (.str "path_response", .str "1"), (.str "handshake_done", .str "1"), (.str "retire_connection_id", .str "1"), (.str "path_challenge", .str "z1"), (.str "new_token", .str "1")]
def spPlaces : Spec := fun as cel K => match as with
  | [] => cel = [] ∧ K sPlaces []
  | _ => False
def spLMay : Spec := fun as cel K => match as with
  | [.v x, .v (.str y), .v (.str z)] => ∃ (f : Fm) (p : Pk) (c : Bool), x = f.sv ∧ y = p.short ∧ z = cliS c ∧ cel = [] ∧ K (.bool (mayB f p && sendB f c)) []
  | _ => False
def T419 : Tb := { glob := [], fn := [], fnG := [], cls := [], field := [], meth := [] }
theorem places_run (w : World) : Rn spPlaces T419 200 419 [] [] w := fun as cel K h => by
  unfold spPlaces at h
  split at h
  · obtain ⟨rfl, k⟩ := h
    conv => whnf
    exact k
  · exact h.elim
theorem in419 (w : World) : FnAt 419 w := ⟨_, _, _, _, _, _, _, _, _, rfl, by kernel_rfl⟩
theorem bnd0 {p : Arguments} (h : ∀ fd, bA p fd [] = pure (([] : List Str).zip [])) : Bnd p [] := bnd fun fd vs hl => by
  match vs, hl with
  | [], _ => exact h fd
theorem bind419 (w : World) : Bnd (prm 419 w.params) [] := bnd0 fun _ => by kernel_rfl
theorem ok419 (w : World) : FnOk w 419 1 13 spPlaces :=
  FnOk.at (ns := []) (T := T419) (U := 10) (D := 0) 419 [] 200 (in419 w) (bind419 w) (by kernel_rfl) (fun as cel K h => by
    unfold spPlaces at h
    split at h
    · rfl
    · exact h.elim) (tbOk .nil .nil .nil .nil .nil) (by decide) (places_run w)
def T480 : Tb := { glob := [("_law_places", .ref 419)], fn := [(419, spPlaces)], fnG := [], cls := [], field := [], meth := [] }
theorem lmay_run (w : World) : Rn spLMay T480 200 480 [] ["f", "packet", "sender"] w := fun as cel K h => by
  unfold spLMay at h
  split at h
  · obtain ⟨f, p, c, rfl, rfl, rfl, rfl, k⟩ := h
    cases f with
    | ping  =>
      conv => whnf
      refine ⟨rfl, ?_⟩
      conv => whnf
      rw [occP_ihz1]
      cases p <;> exact k
    | ack d low e =>
      conv => whnf
      refine ⟨rfl, ?_⟩
      conv => whnf
      rw [occP_ih1]
      cases p <;> exact k
    | crypto x l =>
      conv => whnf
      refine ⟨rfl, ?_⟩
      conv => whnf
      rw [occP_ih1]
      cases p <;> exact k
    | stream n x l fin =>
      conv => whnf
      refine ⟨rfl, ?_⟩
      conv => whnf
      rw [occP_z1]
      cases p <;> exact k
    | maxData n =>
      conv => whnf
      refine ⟨rfl, ?_⟩
      conv => whnf
      rw [occP_z1]
      cases p <;> exact k
    | maxStreams u n =>
      conv => whnf
      refine ⟨rfl, ?_⟩
      conv => whnf
      rw [occP_z1]
      cases p <;> exact k
    | ncid p0 c0 =>
      conv => whnf
      refine ⟨rfl, ?_⟩
      conv => whnf
      rw [occP_z1]
      cases p <;> exact k
    | pathResp  =>
      conv => whnf
      refine ⟨rfl, ?_⟩
      conv => whnf
      rw [occP_1]
      cases p <;> exact k
    | close c0 ft l =>
      cases ft
      all_goals
        conv => whnf
        rw [occP_z1]
        cases p
        all_goals
          conv => whnf
          exact k
    | done  =>
      cases c
      · conv => whnf
        refine ⟨rfl, ?_⟩
        conv => whnf
        rw [occP_1]
        cases p <;> exact k
      · conv => whnf
        have e : (mayB (.done) p && sendB (.done) true) = false := by cases p <;> rfl
        rw [e] at k
        exact k
    | retire n =>
      conv => whnf
      refine ⟨rfl, ?_⟩
      conv => whnf
      rw [occP_1]
      cases p <;> exact k
    | pathChal  =>
      conv => whnf
      refine ⟨rfl, ?_⟩
      conv => whnf
      rw [occP_z1]
      cases p <;> exact k
    | newToken l =>
      cases c
      · conv => whnf
        refine ⟨rfl, ?_⟩
        conv => whnf
        rw [occP_1]
        cases p <;> exact k
      · conv => whnf
        have e : (mayB (.newToken l) p && sendB (.newToken l) true) = false := by cases p <;> rfl
        rw [e] at k
        exact k
  · exact h.elim
theorem in480 (w : World) : FnAt 480 w := ⟨_, _, _, _, _, _, _, _, _, rfl, by kernel_rfl⟩
theorem bind480 (w : World) : Bnd (prm 480 w.params) ["f", "packet", "sender"] := bnd3 fun _ _ _ _ => by kernel_rfl
theorem ok480 (w : World) : FnOk w 480 2 16 spLMay :=
  FnOk.at (ns := ["f", "packet", "sender"]) (T := T480) (U := 13) (D := 1) 480 [] 200 (in480 w) (bind480 w) (by kernel_rfl) (fun as cel K h => by
    unfold spLMay at h
    split at h
    · rfl
    · exact h.elim) (tbOk (.cons (g_74 w) .nil) (.cons (ok419 w) (by decide) (by decide) (by kernel_rfl) .nil) .nil .nil .nil) (by decide) (lmay_run w)
end
section
theorem enterAnyH {w : World} {f : Addr} {D U : Nat} {qual : Str} {params : Arguments} {body : List Stmt} {sc : Scope} {ns : List Str} (hf : FnIn w f qual params body sc) (hb : Bnd params ns) (hc : ScOk sc ns)
    (X : Fx) (O : X.Ok) (hw : X.w = w) (hdp : X.dp + (D + 1) < recursionLimit) (hun : X.un + (U + 3) < cLine) (ow : Addr → Prop) (ρ : List Addr) (σ : SS) (s : Shared) (S : SR X ow ρ s.heap σ)
    (ρ' : List Addr) (cel : List SObj) (vs : List Value) (as : List AV) (nd : ρ'.Nodup) (sub : ∀ a ∈ ρ', a ∈ ρ) (C : Cels (Pz s.heap ow) w ρ' s.heap cel) (R : ARs (Pz s.heap ow) w ρ' vs as) (hlen : as.length = ns.length) (ρh : List Addr) (news : List (Addr × Obj)) (N : News X.h₀ X.L s.heap news) (hnews : news.map (·.1) = ρh) (inc : ∀ a ∈ ρ', a ∈ ρh) (hid : ∀ a ∈ ρh, ow a) (Rs : Result → Shared → Prop)
    (h : ∀ (X' : Fx) (ca : List Addr) (h₁ : Heap) (tk : Nat), Ent w D U sc ns as cel ow s.heap ρ' ρh X.A (envX X.cn X.cs X.L X.fa X.ccd X.cl :: X.outer) X.base X' ca h₁ →
      wpAny (model lawP w) X'.A (execs body X'.env) (fun fl s' => Rs (.ok (.ret (match fl with | .ret v => v | _ => .none))) s') (fun e s' => wpAny (model lawP w) X'.A (leaving X'.env e) (fun _ s'' => Rs (.error e) s'') (fun e' s'' => Rs (.error e') s'') s') { s with heap := h₁, toks := tk }) :
    codeAny (model lawP w) X.A (.call (.ref f) ⟨vs, []⟩) Rs s := by
  obtain ⟨o, fd, ⟨ho, hd, hco, hgen, hbody, hcd⟩, go⟩ := enterX hf hb hc X O hw hdp hun ow ρ σ s S ρ' cel vs as nd sub C R hlen N hnews inc hid
  refine codeAny_call_function (by show X.dp < recursionLimit; omega) ho hd hco hgen hbody hcd (go (fun env s₂ => codeAny (model lawP w) X.A (.func body env) _ s₂) _ fun X' ca h₁ tk T => codeAny_func ?_)
  have J := h X' ca h₁ tk T
  rw [T.A] at J
  exact J
theorem enterAny {w : World} {f : Addr} {D U : Nat} {qual : Str} {params : Arguments} {body : List Stmt} {sc : Scope} {ns : List Str} (hf : FnIn w f qual params body sc) (hb : Bnd params ns) (hc : ScOk sc ns)
    (X : Fx) (O : X.Ok) (hw : X.w = w) (hdp : X.dp + (D + 1) < recursionLimit) (hun : X.un + (U + 3) < cLine) (ow : Addr → Prop) (ρ : List Addr) (σ : SS) (s : Shared) (S : SR X ow ρ s.heap σ)
    (ρ' : List Addr) (cel : List SObj) (vs : List Value) (as : List AV) (nd : ρ'.Nodup) (sub : ∀ a ∈ ρ', a ∈ ρ) (C : Cels (Pz s.heap ow) w ρ' s.heap cel) (R : ARs (Pz s.heap ow) w ρ' vs as) (hlen : as.length = ns.length) (Rs : Result → Shared → Prop)
    (h : ∀ (X' : Fx) (ca : List Addr) (h₁ : Heap) (tk : Nat), Ent w D U sc ns as cel ow s.heap ρ' ρ' X.A (envX X.cn X.cs X.L X.fa X.ccd X.cl :: X.outer) X.base X' ca h₁ →
      wpAny (model lawP w) X'.A (execs body X'.env) (fun fl s' => Rs (.ok (.ret (match fl with | .ret v => v | _ => .none))) s') (fun e s' => wpAny (model lawP w) X'.A (leaving X'.env e) (fun _ s'' => Rs (.error e) s'') (fun e' s'' => Rs (.error e') s'') s') { s with heap := h₁, toks := tk }) :
    codeAny (model lawP w) X.A (.call (.ref f) ⟨vs, []⟩) Rs s := by
  obtain ⟨news, N, hnews⟩ := news_of S sub
  exact enterAnyH hf hb hc X O hw hdp hun ow ρ σ s S ρ' cel vs as nd sub C R hlen ρ' news N hnews (fun _ m => m) (fun a m => (S.off a (sub a m)).1) Rs h
theorem enterG {w : World} {f : Addr} {D U : Nat} {qual : Str} {params : Arguments} {body : List Stmt} {sc : Scope} {ns : List Str} (hf : FnIn w f qual params body sc) (hb : Bnd params ns) (hc : ScOk sc ns)
    (X : Fx) (O : X.Ok) (hw : X.w = w) (hdp : X.dp + (D + 1) < recursionLimit) (hun : X.un + (U + 3) < cLine) (ow : Addr → Prop) (ρ : List Addr) (σ : SS) (s : Shared) (S : SR X ow ρ s.heap σ)
    (ρ' : List Addr) (cel : List SObj) (vs : List Value) (as : List AV) (nd : ρ'.Nodup) (sub : ∀ a ∈ ρ', a ∈ ρ) (C : Cels (Pz s.heap ow) w ρ' s.heap cel) (R : ARs (Pz s.heap ow) w ρ' vs as) (hlen : as.length = ns.length) (Rs : Result → Shared → Prop)
    (h : ∀ (X' : Fx) (ca : List Addr) (h₁ : Heap) (tk : Nat), Ent w D U sc ns as cel ow s.heap ρ' ρ' X.A (envX X.cn X.cs X.L X.fa X.ccd X.cl :: X.outer) X.base X' ca h₁ →
      wpG (model lawP w) X'.A (execs body X'.env) (fun fl s' => Rs (.ok (.ret (match fl with | .ret v => v | _ => .none))) s') F0 { s with heap := h₁, toks := tk }) :
    codeG (model lawP w) X.A (.call (.ref f) ⟨vs, []⟩) Rs s := by
  obtain ⟨news, N, hnews⟩ := news_of S sub
  obtain ⟨o, fd, ⟨ho, hd, hco, hgen, hbody, hcd⟩, go⟩ := enterX hf hb hc X O hw hdp hun ow ρ σ s S ρ' cel vs as nd sub C R hlen N hnews (fun _ m => m) (fun a m => (S.off a (sub a m)).1)
  refine codeG_call_function (by show X.dp < recursionLimit; omega) ho hd hco hgen hbody hcd (go (fun env s₂ => codeG (model lawP w) X.A (.func body env) _ s₂) _ fun X' ca h₁ tk T => codeG_func ?_)
  have J := h X' ca h₁ tk T
  rw [T.A] at J
  exact J
end
section
abbrev frs (l : List Env) : List Addr := l.filterMap (·.frame)
structure Kp (g : Heap) (fr : List Addr) (h : Heap) : Prop where
  keep : ∀ b o, g.get? b = some o → b ∉ fr → h.get? b = some o
  slot : ∀ b o, g.get? b = some o → b ∈ fr → ∃ sl, h.get? b = some { o with slots := sl }
def TbAt (g h : Heap) (e dx : Addr) (vs : Array Value) : Option Value → Prop
  | none => vs[1]? = some .none
  | some f => ∃ T oT ts, vs[1]? = some (.ref T) ∧ g.get? T = none ∧ T ≠ e ∧ T ≠ dx ∧ h.get? T = some oT ∧ oT.data = .fields ts ∧ ts[3]? = some f
structure Fly (g : Heap) (l : List Env) (C e dx : Addr) (fl : Option Value) (h : Heap) : Prop where
  kp : Kp g (frs l) h
  ff : ∃ base, h.FunFrames base l
  en : g.get? e = none
  dn : g.get? dx = none
  ed : e ≠ dx
  dl : dx ∉ frs l
  eo : ∃ oe vs, h.get? e = some oe ∧ oe.cls = .ref C ∧ oe.dict = some dx ∧ oe.data = .fields vs ∧ TbAt g h e dx vs fl
  cd : ∃ m tk, h.Ns dx m ∧ m "code" = some (.int 10 tk)
section
variable {M : Model} {A : Around} {E : Value → Shared → Prop} {s : Shared}
theorem dict_mapFields (f : Array Value → Array Value) (o : Obj) : (Obj.mapFields f o).dict = o.dict := by unfold Obj.mapFields; split <;> rfl
theorem frs_nf {h base : Heap} {l : List Env} (hl : h.FunFrames base l) {b : Addr} {o : Obj} {vs : Array Value} (e : h.get? b = some o) (d : o.data = .fields vs) : b ∉ frs l := fun m => by
  obtain ⟨_, o', ho, hnf⟩ := hl.mem m
  rw [e] at ho; injection ho with ho; subst ho; exact hnf vs d
theorem wpAny_newEntryX {g : Heap} {env : Env} {outer : List Env} {L C e dx : Addr} {oe : Obj} {vs : Array Value} {head : Value} {hadNext : Bool} {Q : Unit → Shared → Prop}
    (hfr : A.frames = some (env :: outer)) (hf : env.frame = some L)
    (kp : Kp g (frs (env :: outer)) s.heap) (ff : ∃ base, s.heap.FunFrames base (env :: outer)) (en : g.get? e = none) (dn : g.get? dx = none) (ed : e ≠ dx) (dl : dx ∉ frs (env :: outer))
    (he : s.heap.get? e = some oe) (hc : oe.cls = .ref C) (hdx : oe.dict = some dx) (hd : oe.data = .fields vs) (hsz : 1 < vs.size) (cd : ∃ m tk, s.heap.Ns dx m ∧ m "code" = some (.int 10 tk))
    (h : ∀ h', Fly g (env :: outer) C e dx (some (rawInt L)) h' → Q () { s with heap := h' }) :
    wpAny M A (do let a ← frameOf env; let pl ← entryPlaceOf L hadNext; let b ← EntryCells.newEntry head a .none (rawInt L) .none pl; setField (.ref e) 1 b) Q E s := by
  obtain ⟨base, hl⟩ := ff
  have hene : e ∉ frs (env :: outer) := frs_nf hl he hd
  refine wpAny_bind (wpAny_frameOf_fun hfr hl hf fun h₁ hs₁ => ?_)
  refine wpAny_bind (wpAny_entryPlaceOf fun pl hpl => ?_)
  unfold EntryCells.newEntry newFields
  refine wpAny_bind (wpAny_newObj_type ?_ (hpl.sizeOk5 _ _ _ _ _))
  have he₁ : h₁.get? e = some oe := (hs₁.2.1 e hene).trans he
  have he₂ := Heap.get?_push_of_some (h := h₁) { cls := .type "traceback", dict := none, data := .fields ([head, .ref L, .none, rawInt L, .none] ++ (if pl.isEmpty then List.replicate 6 Value.none else pl)).toArray } he₁
  refine wpAny_setField he₂ hd hsz (h _ ?_)
  have hTe : h₁.objs.size ≠ e := Nat.ne_of_gt (Heap.lt_size he₁)
  have hd₃ := Obj.data_mapFields hd (·.setIfInBounds 1 (Value.ref h₁.objs.size))
  have he₃ := Heap.get?_update_self (Obj.mapFields (·.setIfInBounds 1 (Value.ref h₁.objs.size))) he₂ (Obj.isFreed_of_fields hd₃)
  have hT₃ := (Heap.get?_update_other (h₁.push { cls := .type "traceback", dict := none, data := .fields ([head, .ref L, .none, rawInt L, .none] ++ (if pl.isEmpty then List.replicate 6 Value.none else pl)).toArray })
    (Obj.mapFields (·.setIfInBounds 1 (Value.ref h₁.objs.size))) (Ne.symm hTe)).trans (Heap.get?_push_size h₁ rfl)
  have keep : ∀ b o, b ≠ e → h₁.get? b = some o →
      ((h₁.push { cls := .type "traceback", dict := none, data := .fields ([head, .ref L, .none, rawInt L, .none] ++ (if pl.isEmpty then List.replicate 6 Value.none else pl)).toArray }).update e (Obj.mapFields (·.setIfInBounds 1 (Value.ref h₁.objs.size)))).get? b = some o :=
    fun b o hbe hb => by
      rw [Heap.get?_update_other _ _ (Ne.symm hbe)]
      exact Heap.get?_push_of_some _ hb
  have ge : ∀ b o, g.get? b = some o → b ≠ e := fun b o q z => by rw [z, en] at q; cases q
  have sl₁ : ∀ b o, s.heap.get? b = some o → ∃ sl, h₁.get? b = some { o with slots := sl } := fun b o hb => hs₁.2.2 b o hb
  have gT : g.get? h₁.objs.size = none := by
    cases q : g.get? h₁.objs.size with
    | none => rfl
    | some o =>
      exfalso
      have : ∃ o', s.heap.get? h₁.objs.size = some o' := by
        by_cases m : h₁.objs.size ∈ frs (env :: outer)
        · obtain ⟨sl, z⟩ := kp.slot _ _ q m; exact ⟨_, z⟩
        · exact ⟨_, kp.keep _ _ q m⟩
      obtain ⟨o', z⟩ := this
      obtain ⟨sl, z⟩ := sl₁ _ _ z
      exact Nat.lt_irrefl _ (Heap.lt_size z)
  obtain ⟨m, tk, ⟨od, es, ep, d1, d2, d3, d4⟩, hm⟩ := cd
  have hd₁ : h₁.get? dx = some od := (hs₁.2.1 dx dl).trans d1
  have hTd : h₁.objs.size ≠ dx := Nat.ne_of_gt (Heap.lt_size hd₁)
  exact { kp := ⟨fun b o q nm => keep b o (ge b o q) ((hs₁.2.1 b nm).trans (kp.keep b o q nm)), fun b o q mm => by
            obtain ⟨sl, z⟩ := kp.slot b o q mm
            obtain ⟨sl', z'⟩ := sl₁ _ _ z
            exact ⟨sl', keep b _ (ge b o q) z'⟩⟩
          ff := ⟨base, hl.of_keeps fun b o hb hnf => by
            obtain ⟨sl, z⟩ := sl₁ b o hb
            refine ⟨_, keep b _ (fun z' => ?_) z, rfl⟩
            subst z'; rw [he] at hb; injection hb with hb; subst hb; exact hnf vs hd⟩
          en := en, dn := dn, ed := ed, dl := dl
          eo := ⟨_, _, he₃, (Obj.cls_mapFields _ _).trans hc, (dict_mapFields _ _).trans hdx, hd₃, h₁.objs.size, _, _, by simp [hsz], gT, hTe, hTd, hT₃, rfl, by first | (simp; done) | (rcases hpl with rfl | ⟨_, _, _, _, _, _, _, rfl⟩ <;> simp)⟩
          cd := ⟨m, tk, ⟨od, es, ep, keep dx od (Ne.symm ed) hd₁, d2, d3, d4⟩, hm⟩ }
theorem wpAny_noteX {g : Heap} {env : Env} {outer : List Env} {L C e dx : Addr} {fl : Option Value} {Q : Unit → Shared → Prop}
    (hfr : A.frames = some (env :: outer)) (hf : env.frame = some L) (F : Fly g (env :: outer) C e dx fl s.heap) (hfl : fl = none ∨ fl = some .none)
    (h : ∀ h', Fly g (env :: outer) C e dx (some (rawInt L)) h' → Q () { s with heap := h' }) : wpAny M A (noteFrame (.ref e) env) Q E s := by
  obtain ⟨kp, ff, en, dn, ed, dl, ⟨oe, vs, he, hc, hdx, hd, ht⟩, cd⟩ := F
  unfold noteFrame
  simp only [hf]
  rcases hfl with rfl | rfl
  · have h1 : vs[1]? = some .none := ht
    refine wpAny_bind (wpAny_field he hd h1 ?_)
    rw [if_neg (by decide)]
    exact wpAny_newEntryX hfr hf kp ff en dn ed dl he hc hdx hd (Array.getElem?_eq_some_iff.mp h1).1 cd h
  · obtain ⟨T, oT, ts, h1, gT, hTe, hTd, hT, hdT, h3⟩ := ht
    refine wpAny_bind (wpAny_field he hd h1 ?_)
    rw [if_pos (show (Value.ref T != Value.none) = true from by simp)]
    refine wpAny_bind (wpAny_field hT hdT h3 ?_)
    rw [if_neg (show ¬ ((Value.none == rawInt L) = true) from by simp [rawInt])]
    refine wpAny_bind (wpAny_setField hT hdT (Array.getElem?_eq_some_iff.mp h3).1 ?_)
    have other : ∀ b, b ≠ T → (s.heap.update T (Obj.mapFields (·.setIfInBounds 3 Value.none))).get? b = s.heap.get? b := fun b hb => Heap.get?_update_other _ _ (Ne.symm hb)
    have gT' : ∀ b o, g.get? b = some o → b ≠ T := fun b o q z => by rw [z, gT] at q; cases q
    obtain ⟨m, tk, ⟨od, es, ep, d1, d2, d3, d4⟩, hm⟩ := cd
    obtain ⟨base, hl⟩ := ff
    refine wpAny_newEntryX hfr hf ⟨fun b o q nm => (other b (gT' b o q)).trans (kp.keep b o q nm), fun b o q mm => ?_⟩ ⟨base, hl.of_keeps fun b o hb hnf => ⟨o, (other b fun z => ?_).trans hb, rfl⟩⟩ en dn ed dl ((other e (Ne.symm hTe)).trans he) hc hdx hd (Array.getElem?_eq_some_iff.mp h1).1 ⟨m, tk, ⟨od, es, ep, (other dx (Ne.symm hTd)).trans d1, d2, d3, d4⟩, hm⟩ h
    · obtain ⟨sl, z⟩ := kp.slot b o q mm
      exact ⟨sl, (other b (gT' b o q)).trans z⟩
    · subst z; rw [hT] at hb; injection hb with hb; subst hb; exact hnf ts hdT
theorem wpAny_noteX_again {g : Heap} {l : List Env} {env : Env} {L C e dx : Addr} {Q : Unit → Shared → Prop} (hf : env.frame = some L) (F : Fly g l C e dx (some (rawInt L)) s.heap) (h : Q () s) : wpAny M A (noteFrame (.ref e) env) Q E s := by
  obtain ⟨kp, ff, en, dn, ed, dl, ⟨oe, vs, he, hc, hdx, hd, T, oT, ts, h1, gT, hTe, hTd, hT, hdT, h3⟩, cd⟩ := F
  unfold noteFrame
  simp only [hf]
  refine wpAny_bind (wpAny_field he hd h1 ?_)
  rw [if_pos (show (Value.ref T != Value.none) = true from by simp)]
  refine wpAny_bind (wpAny_field hT hdT h3 ?_)
  rw [if_pos (show (rawInt L == rawInt L) = true from by simp)]
  exact wpAny_pure h
theorem wpAny_noteX' {g : Heap} {env : Env} {outer : List Env} {L C e dx : Addr} {fl : Option Value} {Q : Unit → Shared → Prop}
    (hfr : A.frames = some (env :: outer)) (hf : env.frame = some L) (F : Fly g (env :: outer) C e dx fl s.heap) (hfl : fl = none ∨ fl = some .none ∨ fl = some (rawInt L))
    (h : ∀ h', Fly g (env :: outer) C e dx (some (rawInt L)) h' → Q () { s with heap := h' }) : wpAny M A (noteFrame (.ref e) env) Q E s := by
  rcases hfl with hfl | hfl | rfl
  · exact wpAny_noteX hfr hf F (.inl hfl) h
  · exact wpAny_noteX hfr hf F (.inr hfl) h
  · exact wpAny_noteX_again hf F (h s.heap F)
theorem wpAny_setFlightX {g : Heap} {l : List Env} {C e dx : Addr} {f : Value} {fr : Option Addr} {Q : Unit → Shared → Prop} (F : Fly g l C e dx (some f) s.heap)
    (h : ∀ h', Fly g l C e dx (some (fr.elim .none fun f => rawInt f)) h' → Q () { s with heap := h' }) : wpAny M A (setFlight (.ref e) fr) Q E s := by
  obtain ⟨kp, ff, en, dn, ed, dl, ⟨oe, vs, he, hc, hdx, hd, T, oT, ts, h1, gT, hTe, hTd, hT, hdT, h3⟩, cd⟩ := F
  have hsz3 : 3 < ts.size := (Array.getElem?_eq_some_iff.mp h3).1
  have other : ∀ b, b ≠ T → (s.heap.update T (Obj.mapFields (·.setIfInBounds 3 (fr.elim Value.none fun f => rawInt f)))).get? b = s.heap.get? b :=
    fun b hb => Heap.get?_update_other _ _ (Ne.symm hb)
  have gT' : ∀ b o, g.get? b = some o → b ≠ T := fun b o q z => by rw [z, gT] at q; cases q
  obtain ⟨m, tk, ⟨od, es, ep, d1, d2, d3, d4⟩, hm⟩ := cd
  obtain ⟨base, hl⟩ := ff
  unfold setFlight
  refine wpAny_bind (wpAny_field he hd h1 ?_)
  rw [if_pos (show (Value.ref T != Value.none) = true from by simp)]
  refine wpAny_setField hT hdT hsz3 (h _ ?_)
  exact { kp := ⟨fun b o q nm => (other b (gT' b o q)).trans (kp.keep b o q nm), fun b o q mm => by
            obtain ⟨sl, z⟩ := kp.slot b o q mm
            exact ⟨sl, (other b (gT' b o q)).trans z⟩⟩
          ff := ⟨base, hl.of_keeps fun b o hb hnf => ⟨o, (other b fun z => by subst z; rw [hT] at hb; injection hb with hb; subst hb; exact hnf ts hdT).trans hb, rfl⟩⟩
          en := en, dn := dn, ed := ed, dl := dl
          eo := ⟨oe, vs, (other e (Ne.symm hTe)).trans he, hc, hdx, hd, T, _, _, h1, gT, hTe, hTd, Heap.get?_update_self _ hT (Obj.isFreed_of_fields (Obj.data_mapFields hdT _)), Obj.data_mapFields hdT _, by simp [hsz3]⟩
          cd := ⟨m, tk, ⟨od, es, ep, (other dx (Ne.symm hTd)).trans d1, d2, d3, d4⟩, hm⟩ }
theorem wpAny_leavingX {g : Heap} {env : Env} {outer : List Env} {L C e dx : Addr} {fl : Option Value} {Q : Unit → Shared → Prop}
    (hfr : A.frames = some (env :: outer)) (hf : env.frame = some L) (F : Fly g (env :: outer) C e dx fl s.heap) (hfl : fl = none ∨ fl = some .none ∨ fl = some (rawInt L)) (gL : g.get? L = none)
    (h : ∀ h', Fly g outer C e dx (some .none) h' → Q () { s with heap := h' }) : wpAny M A (leaving env (.ref e)) Q E s := by
  unfold leaving
  refine wpAny_bind (wpAny_noteX' hfr hf F hfl fun h₁ F₁ => ?_)
  refine wpAny_setFlightX (s := { s with heap := h₁ }) (fr := none) F₁ fun h₂ F₂ => h h₂ ?_
  obtain ⟨kp, ⟨base, hl⟩, en, dn, ed, dl, eo, cd⟩ := F₂
  have hfrs : frs (env :: outer) = L :: frs outer := by show List.filterMap _ _ = _; rw [List.filterMap_cons, hf]
  rw [hfrs] at kp dl
  have ne : ∀ b o, g.get? b = some o → b ≠ L := fun b o q z => by rw [z, gL] at q; cases q
  exact ⟨⟨fun b o q nm => kp.keep b o q fun m => (List.mem_cons.mp m).elim (ne b o q) nm, fun b o q m => kp.slot b o q (.tail _ m)⟩, ⟨base, hl.2.2⟩, en, dn, ed, fun m => dl (.tail _ m), eo, cd⟩
end
end
section
theorem ns_some_of {K : Frag} {h : Heap} {N : Addr} {mg : Str → Option Value} {n : Str} {v : Value} (X : K.In h) (G : h.Ns N mg) (e : nsIn K N n = some (some v)) : mg n = some v := by
  obtain ⟨o, es, ep, ho, hd, _, hf⟩ := G
  unfold nsIn at e
  split at e
  · rename_i c d es' n' sl q
    have z := X _ _ q
    rw [ho] at z
    cases z
    cases hd
    split at e
    · rename_i en he
      cases e
      rw [← hf]
      unfold nsFind findBy
      rw [← Array.find?_toList, he]
      rfl
    · split at e <;> cases e
  · cases e
def exBm : List Value := [.type "Exception", .type "BaseException", .type "object"]
def exNames : List Str := ["__getattribute__", "__getattr__", "__setattr__", "code", "frame_type", "text", "args"]
def exIn (K : Frag) : Bool := match K.lookup 38 with
  | some ⟨.type "type", _, .cls cd, sl⟩ => (match cd.mro, sl.toList with
    | .ref C' :: bm, [_, _, _, _, some (.builtin n), _] => C' == 38 && n == "Exception.__new__" && !cd.hasDel && cd.hasDict && bm == exBm && nsOkIn K cd.ns && nsIn K cd.ns "__init__" == some (some (.ref 35)) && exNames.all fun n => nsIn K cd.ns n == some none
    | _, _ => false)
  | _ => false
theorem exCls {K : Frag} {h : Heap} (X : K.In h) (q : exIn K = true) : ∃ nm q N bs sn sub ab col dd k0 k1 k2 k3 k5 mN, h.get? 38 = some (excClassObj nm q 38 N bs exBm true sn sub ab col dd k0 k1 k2 k3 k5 "Exception.__new__") ∧ h.Ns N mN ∧ mN "__init__" = some (.ref 35) ∧ ∀ n ∈ exNames, mN n = none := by
  unfold exIn at q
  split at q
  · rename_i dd cd sl ho
    split at q
    · rename_i C' bm k0 k1 k2 k3 n k5 hm hs
      simp only [Bool.and_eq_true, beq_iff_eq, Bool.not_eq_true', List.all_eq_true] at q
      obtain ⟨⟨⟨⟨⟨⟨⟨rfl, rfl⟩, hdel⟩, hdct⟩, rfl⟩, hok⟩, hi⟩, hno⟩ := q
      obtain ⟨nm, bs, mro, ns, qn, hd, sn, sub, ab, col, del⟩ := cd
      dsimp only at hm hdel hok hi hno hdct
      subst hm hdel hdct
      have hsl : sl = #[k0, k1, k2, k3, some (.builtin "Exception.__new__"), k5] := by
        obtain ⟨l⟩ := sl
        simp only at hs
        rw [hs]
      subst hsl
      have G : h.Ns ns (h.nsMap ns) := .of_isNs (isNs_of_in X hok)
      exact ⟨nm, qn, ns, bs, sn, sub, ab, col, dd, k0, k1, k2, k3, k5, h.nsMap ns, X _ _ ho, G, ns_some_of X G hi, fun n hn => nsMap_none_of_in X hok (hno n hn)⟩
    · cases q
  · cases q
theorem ex_in (w : World) : exIn (tp.heap_1 w.params) = true := by kernel_rfl
end
section
open Builtin Builtin.ObjectAttr
section
variable {prog : Program} {w : World} {A : Around} {E : Value → Shared → Prop} {h : Heap} {g : Array GenState} {d : Drawn} {t : Nat} {os : OsState}
variable {nm q : Str} {C N x : Addr} {bs bm : List Value} {sn : List Str} {sub : List Value} {ab : Bool} {col : Option Bool} {dd : Option Addr} {k0 k1 k2 k3 k5 : Option Value} {B newId sa owner : String}
  {mN mA : Str → Option Value} {name : Str} {v : Value} {o : Obj}
def Stored (h : Heap) (x : Addr) (o : Obj) (name : Str) (v : Value) (mA : Str → Option Value) (P : Heap → Addr → Prop) : Prop :=
  ∀ h' dx, (o.dict = some dx ∨ (o.dict = none ∧ h.get? dx = none)) → h'.get? x = some { o with dict := some dx } → dx ≠ x → h'.Ns1 dx (fun y => if y = name then some v else mA y) → (∀ b ob, b ≠ x → b ≠ dx → h.get? b = some ob → h'.get? b = some ob) → P h' dx
theorem storeX_entry {tk : Tok} {Q : Fin → Shared → Prop} {ns : List Str} (SF : StoreFacts B bm sa owner)
    (hC : h.get? C = some (excClassObj nm q C N bs bm true sn sub ab col dd k0 k1 k2 k3 k5 newId)) (hn : h.Ns N mN) (hna : mN name = none)
    (hB : typeLookup (.type B) name = pure none) (hx : h.get? x = some o) (hc : o.cls = .ref C) (hnc : ∀ c, o.data ≠ .cls c) (hd : (o.dict = none ∧ ∀ n, mA n = none) ∨ ∃ d, o.dict = some d ∧ d ≠ x ∧ h.Ns1 d mA)
    (hq : ∀ tk', Stored h x o name v mA fun h' dx => Q (.done (.ret .none)) ⟨h', g, d, tk', os⟩) (hw : Within mA ns) (hsz : ns.length ≤ 100) :
    wpAny (model prog w) A (Builtin.«object.__setattr__» ⟨[.ref x, .str name tk, v], []⟩) Q E ⟨h, g, d, t, os⟩ := by
  have hpass := SF.passes (.ref x)
  unfold Builtin.«object.__setattr__»
  repeat (first | rw [refuse_eq] | (rw [refuseLoop_ref, hpass]) | (with_reducible refine wpAny_loadPart_at hx ?_; rw [hc]) | with_reducible refine wpAny_mroOf_exc hC ?_ | (with_reducible refine wpAny_typeLookup_exc hC hn SF.mro hB ?_; rw [hna]) | wp_step)
  rcases hd with ⟨hdn, hmA⟩ | ⟨dx, hdx, hne, hns⟩
  · rw [hdn, if_neg (by simp [typeHasDict])]
    split
    · rename_i hcd
      cases hcd
    split
    · rename_i c hcd
      exact absurd hcd (hnc c)
    · have hx₁ : (h.push { cls := .type "dict", data := .dict #[] }).get? x = some o := Heap.get?_push_of_some _ hx
      have hxs : x ≠ h.objs.size := Nat.ne_of_lt (Heap.lt_size hx)
      refine wpAny_bind (wpAny_alloc' ?_)
      refine wpAny_bind (wpAny_update' hx₁ ?_)
      refine wpAny_pure ?_
      have hgd : ((h.push { cls := .type "dict", data := .dict #[] }).update x fun o => { cls := o.cls, dict := some h.objs.size, data := o.data, slots := o.slots }).get? h.objs.size
          = some { cls := .type "dict", data := .dict #[] } :=
        (Heap.get?_update_ne _ _ _ _ hxs.symm).trans (Heap.get?_push_at rfl rfl)
      have hnd : ((h.push { cls := .type "dict", data := .dict #[] }).update x fun o => { cls := o.cls, dict := some h.objs.size, data := o.data, slots := o.slots }).Ns h.objs.size (fun _ => none) :=
        ⟨_, #[], _, hgd, rfl, fun e he => absurd he (by simp), fun _ => rfl⟩
      show wpAny _ _ (storeInDict h.objs.size (.str name tk) name v) _ _ _
      unfold storeInDict newKeyGuard
      refine wpAny_bind (wpAny_pure (wpAny_bind (wpAny_nsSet1 (Heap.Ns1.of_empty hnd) fun h' hn' hs => ?_)))
      obtain ⟨oD, esD, epD, hoD, hdD, hcD⟩ := hn'.count (Within.cons name v Within.nil)
      refine wpAny_bind (wpAny_lookBehind hoD (by rw [hdD]; exact pastItsLine_dict (Nat.le_trans hcD (by rw [List.length_cons, List.length_nil, sizeLine_eq]; omega))) ?_)
      wp_walk
      refine hq _ h' h.objs.size (.inr ⟨hdn, none_size h⟩) ?_ hxs.symm ?_ (fun b ob hbx _ hb => ?_)
      · refine (hs.2 x hxs).trans (Heap.get?_update_self _ hx₁ ?_)
        have hfr := (Heap.get?_some_iff.mp hx).2
        obtain ⟨oc, od, odt, osl⟩ := o
        cases odt <;> first | rfl | exact hfr
      · obtain ⟨o', es, ep, e1, e2, e3, eu, e4⟩ := hn'
        exact ⟨o', es, ep, e1, e2, e3, eu, fun y => by rw [e4 y]; by_cases hy : y = name <;> simp [hy, hmA]⟩
      · exact (hs.2 b (Nat.ne_of_lt (Heap.lt_size hb))).trans ((Heap.get?_update_ne _ _ _ _ hbx).trans (Heap.get?_push_of_some _ hb))
  · rw [hdx]
    refine wpAny_pure ?_
    show wpAny _ _ (storeInDict dx (.str name tk) name v) _ _ _
    unfold storeInDict newKeyGuard
    refine wpAny_bind (wpAny_pure (wpAny_bind (wpAny_nsSet1 hns fun h' hn' hs => ?_)))
    obtain ⟨oD, esD, epD, hoD, hdD, hcD⟩ := hn'.count (Within.cons name v hw)
    refine wpAny_bind (wpAny_lookBehind hoD (by rw [hdD]; exact pastItsLine_dict (Nat.le_trans hcD (by rw [List.length_cons, sizeLine_eq]; omega))) ?_)
    wp_walk
    refine hq _ h' dx (.inl hdx) ?_ hne hn' (fun b ob _ hbd hb => (hs.2 b hbd).trans hb)
    rw [← hdx]
    exact (hs.2 x hne.symm).trans hx
theorem storeX {Q : Unit → Shared → Prop} {ns : List Str} (SF : StoreFacts B bm sa owner)
    (hC : h.get? C = some (excClassObj nm q C N bs bm true sn sub ab col dd k0 k1 k2 k3 k5 newId)) (hn : h.Ns N mN) (hns : mN "__setattr__" = none) (hna : mN name = none)
    (hB : typeLookup (.type B) name = pure none) (hx : h.get? x = some o) (hc : o.cls = .ref C) (hnc : ∀ c, o.data ≠ .cls c) (hd : (o.dict = none ∧ ∀ n, mA n = none) ∨ ∃ d, o.dict = some d ∧ d ≠ x ∧ h.Ns1 d mA)
    (hq : ∀ tk', Stored h x o name v mA fun h' dx => Q () ⟨h', g, d, tk', os⟩) (hw : Within mA ns) (hsz : ns.length ≤ 100) :
    wpAny (model prog w) A (setAttr (.ref x) name v) Q E ⟨h, g, d, t, os⟩ := by
  have f3 := SF.slot.bind (.ref x)
  unfold setAttr callSpecial? specialOf
  repeat (any_goals (first | assumption | (with_reducible refine wpAny_loadPart_at hx ?_; rw [hc]) | (with_reducible refine wpAny_typeLookup_exc hC hn SF.mro SF.slot.lookup ?_; rw [hns]) | wp_step))
  refine codeAny_call_builtin SF.slot.plain SF.entry (wpAny_check_sa SF hC hx hc (storeX_entry SF hC hn hna hB hx hc hnc hd (fun tk' h' dx a1 a2 a3 a4 a5 => ?_) hw hsz))
  repeat (any_goals (first | assumption | wp_step))
  exact hq tk' h' dx a1 a2 a3 a4 a5
end
end
section
open Builtin Builtin.ObjectAttr
section
variable {prog : Program} {w : World} {A : Around} {E : Value → Shared → Prop} {h : Heap} {g : Array GenState} {d : Drawn} {t : Nat} {os : OsState} {a : Addr} {o : Obj} {vs : Array Value} {t0 : Addr}
  {nm q : Str} {C N : Addr} {bs bm bmB : List Value} {hdct : Bool} {sn : List Str} {sub : List Value} {ab : Bool} {col : Option Bool} {dd : Option Addr} {k0 k1 k2 k3 k5 : Option Value} {B newId initId : String} {mN mA : Str → Option Value} {name : Str} {v : Value} {dx : Addr}
theorem initX (F : ExcBaseFacts B newId initId bm) {e : Addr} {rest : List Value} {Q : Value → Shared → Prop}
    (hC : h.get? C = some (excClassObj nm q C N bs bm hdct sn sub ab col dd k0 k1 k2 k3 k5 newId)) (he : h.get? e = some o) (hcls : o.cls = .ref C) (hd : o.data = .fields vs) (h0 : vs[0]? = some (.ref t0))
    (hq : Q .none ⟨(h.push { cls := .type "tuple", data := .seq rest.toArray }).update e (Obj.mapFields (·.setIfInBounds 0 (.ref h.objs.size))), g, d, t, os⟩) (hrest : rest.length ≤ sizeLine) :
    wpAny (model prog w) A (call (.builtin initId) (.ref e :: rest)) Q E ⟨h, g, d, t, os⟩ := by
  refine wpAny_call (codeAny_call_builtin F.init.plain F.initEntry (wpAny_check_init_sub F hC he hcls ?_))
  unfold Builtin.«BaseException.__init__»
  dsimp only
  rw [if_neg (by simp)]
  unfold newTuple Builtin.BaseException.bexcPut
  have hsz : 0 < vs.size := (Array.getElem?_eq_some_iff.mp h0).1
  have he₁ := Heap.get?_push_of_some (h := h) { cls := .type "tuple", data := .seq rest.toArray } he
  refine wpAny_bind (wpAny_newObj_type (wpAny_bind (wpAny_bind (wpAny_field he₁ hd h0 (wpAny_bind (wpAny_setField he₁ hd hsz ?_))))) (by show rest.toArray.size ≤ sizeLine; rw [List.size_toArray]; exact hrest))
  exact wpAny_letGo (wpAny_pure hq)
theorem gaX_check {M : Model} {nameV : Value} {Q : Unit → Shared → Prop} (hC : h.get? C = some (excClassObj nm q C N bs bm hdct sn sub ab col dd k0 k1 k2 k3 k5 newId)) (hb : bm.contains (.type "BaseException") = true)
    (hx : h.get? a = some o) (hc : o.cls = .ref C) (hq : Q () ⟨h, g, d, t, os⟩) : wpAny M A (checkBuiltinCall "BaseException.__getattribute__" ⟨[.ref a, nameV], []⟩) Q E ⟨h, g, d, t, os⟩ := by
  have hk : builtinKind "BaseException.__getattribute__" = some .slot := by decide +kernel
  have hsplit : splitId "BaseException.__getattribute__" = some ("BaseException", "__getattribute__") := by decide +kernel
  have hcB : (Value.ref C :: bm).contains (.type "BaseException") = true := by rw [List.contains_cons, hb]; rfl
  have ha := F.args_bexc_ga (.ref a) nameV
  simp only [checkBuiltinCall, hk, hsplit]
  refine wpAny_bind ?_
  · unfold isInstance
    repeat (first | (with_reducible refine wpAny_loadPart_at hx ?_; rw [hc]) | (with_reducible refine wpAny_isSubtype_exc hC ?_; rw [hcB]) | wp_step)
    exact hq
theorem getX_entry {tk : Tok} {Q : Fin → Shared → Prop} (FB : ExcAttrBase B bm) (hC : h.get? C = some (excClassObj nm q C N bs bm true sn sub ab col dd k0 k1 k2 k3 k5 newId)) (hN : h.Ns N mN)
    (hna : mN name = none) (hB : typeLookup (.type B) name = pure none) (hx : h.get? a = some o) (hc : o.cls = .ref C) (hd : o.data = .fields vs) (hdx : o.dict = some dx) (hns : h.Ns dx mA) (hv : mA name = some v) (hq : Q (.done (.ret v)) ⟨h, g, d, t, os⟩) :
    wpAny (model prog w) A (Builtin.«object.__getattribute__» ⟨[.ref a, .str name tk], []⟩) Q E ⟨h, g, d, t, os⟩ := by
  unfold Builtin.«object.__getattribute__»
  repeat (first | (with_reducible refine wpAny_loadPart_at hx ?_; rw [hc]) | (with_reducible refine wpAny_typeLookup_exc hC hN FB.mro hB ?_; rw [hna]) | wp_step)
  rw [hd]
  dsimp only
  unfold instanceDict
  repeat (first | (with_reducible refine wpAny_loadPart_at hx ?_; rw [hc]) | with_reducible refine wpAny_loadPart_at hC ?_ | wp_step)
  rw [hdx]
  repeat (first | (with_reducible refine wpAny_nsGet hns ?_; rw [hv]) | wp_step)
  exact hq
theorem getX {expr : Bool} {Q : Value → Shared → Prop} (FB : ExcAttrBase B bm) (hC : h.get? C = some (excClassObj nm q C N bs bm true sn sub ab col dd k0 k1 k2 k3 k5 newId)) (hN : h.Ns N mN)
    (hga : mN "__getattribute__" = none) (hgt : mN "__getattr__" = none)
    (hna : mN name = none) (hB : typeLookup (.type B) name = pure none) (hx : h.get? a = some o) (hc : o.cls = .ref C) (hd : o.data = .fields vs) (hdx : o.dict = some dx) (hns : h.Ns dx mA) (hv : mA name = some v) (hh : handedOut v = pure v) (hq : Q v ⟨h, g, d, t + 1, os⟩) :
    wpAny (model prog w) A (getAttr (.ref a) name expr) Q E ⟨h, g, d, t, os⟩ := by
  have f3 := FB.ga.bind (.ref a)
  have hx0 : (expr && onTheHeap (Value.builtin "BaseException.__getattribute__")) = false := by cases expr <;> rfl
  have hx2 : (Value.builtin "BaseException.__getattribute__" == Value.builtin "object.__getattribute__") = false := by decide +kernel
  have hx1 : (onTheHeap (Value.ref C) && Value.builtin "BaseException.__getattribute__" == Value.builtin "object.__getattribute__") = false := by rw [hx2]; rfl
  unfold getAttr getAttrBy
  repeat (any_goals (first | assumption | (with_reducible refine wpAny_loadPart_at hx ?_; rw [hc]) | (with_reducible refine wpAny_typeLookup_exc hC hN FB.mro FB.ga.lookup ?_; rw [hga]) | (with_reducible refine wpAny_typeLookup_exc hC hN FB.mro FB.noGetattr ?_; rw [hgt]) | wp_step))
  refine codeAny_call_builtin FB.ga.plain F.entry_bexc_ga (gaX_check hC FB.hasBase hx hc (getX_entry FB hC hN hna hB hx hc hd hdx hns hv ?_))
  show wpAny _ _ (handedOut v) _ _ _
  rw [hh]
  exact wpAny_pure hq
end
end
section
theorem b35 (w : World) : ∃ p1 p2 p3 p4 p5 p6 p7 p8 p9 p10 p11 p12 p13 p14 p15 p16 p17 p18 p19 p20 p21 p22 p23 p24, bd 35 w.params = [
    .Expr (.Call (.Attribute (.Name "Exception" p1) "__init__" p2) [.Name "self" p3, .BinOp (.BinOp (.Call (.Name "str" p4) [.Name "code" p5] [] p6) .Add (.Constant (.str ": ") 0 p7) p8) .Add (.Name "text" p9) p10] [] p11) p12,
    .Assign [.Attribute (.Name "self" p13) "code" p14] (.Name "code" p15) p16,
    .Assign [.Attribute (.Name "self" p17) "frame_type" p18] (.Name "frame_type" p19) p20,
    .Assign [.Attribute (.Name "self" p21) "text" p22] (.Name "text" p23) p24] ∧ mOk [.Name "self" p3, .BinOp (.BinOp (.Call (.Name "str" p4) [.Name "code" p5] [] p6) .Add (.Constant (.str ": ") 0 p7) p8) .Add (.Name "text" p9) p10] p2 p11 = true := ⟨_, _, _, _, _, _, _, _, _, _, _, _, _, _, _, _, _, _, _, _, _, _, _, _, rfl, rfl⟩
section
variable {X : Fx} {σ : SS} {K : AV → SS → Prop}
theorem name_boot (O : X.Ok) {x : Str} {pos : Pos} {v : Value} {ow : Addr → Prop} {ρ : List Addr} {s : Shared} {Q E : Value → Shared → Prop} (S : SR X ow ρ s.heap σ) (hx : X.env.kindOf x = some .globalImplicit) (hd : (x == ("__debug__" : Str)) = false) (hn : x ≠ "__name__")
    (e : nsIn (tp.heap_1 X.w.params) mainGlobals x = some none) (hv : bootBuiltins x = some v) (q : Q v s) : wpAny (model lawP X.w) X.A (eval (.Name x pos) X.env) Q E s := by
  obtain ⟨mf, ml, F, n, c1, c2, l⟩ := S.fr
  obtain ⟨mean, mg, mb, T⟩ := O.T
  exact Name_function_global O.kind hx (loadGlobal_builtin (by rw [O.glob]; exact T.g.keeps F.keep) (mg_none_of O.K T.g e) (by rw [O.bins]; exact T.b.keeps F.keep) ((T.builtins x hn).trans hv) q) hd
theorem name_glob (O : X.Ok) {x : Str} {pos : Pos} {v : Value} {ow : Addr → Prop} {ρ : List Addr} {s : Shared} {Q E : Value → Shared → Prop} (S : SR X ow ρ s.heap σ) (hx : X.env.kindOf x = some .globalImplicit) (hd : (x == ("__debug__" : Str)) = false)
    (e : nsIn (tp.heap_1 X.w.params) mainGlobals x = some (some v)) (q : Q v s) : wpAny (model lawP X.w) X.A (eval (.Name x pos) X.env) Q E s := by
  obtain ⟨mf, ml, F, n, c1, c2, l⟩ := S.fr
  obtain ⟨mean, mg, mb, T⟩ := O.T
  exact Name_function_global O.kind hx (loadGlobal_global (by rw [O.glob]; exact T.g.keeps F.keep) (mg_of O.K T.g e) q) hd
theorem cat_str {x y : Str} (h : x.length + y.length ≤ sizeLine) (k : K (.v (.str (x ++ y))) σ) : J2 X (binaryOp .Add) (.v (.str x)) (.v (.str y)) σ K := by
  intro ow ρ s va vb S ra rb Q E q
  obtain ⟨t, rfl⟩ := ra.inv.str_inv
  obtain ⟨u, rfl⟩ := rb.inv.str_inv
  exact PyProof.Rows.add_str (fun t' tk => q _ _ σ ow ρ s.heap tk .refl S (.v (.str _ _)) k) h
theorem JE_strOf (O : X.Ok) {p q pos : Pos} {x : Str} {i : Int} (hx : X.env.kindOf "str" = some .globalImplicit) (hl : X.env.kindOf x = some .local) (hd : (x == ("__debug__" : Str)) = false) (hv : lk x σ.loc = some (.v (.int i))) (hi : i.natAbs.log2 < 1920)
    (e : nsIn (tp.heap_1 X.w.params) mainGlobals "str" = some none) (k : K (.v (.str (toString i))) σ) : JE X (.Call (.Name "str" p) [.Name x q] [] pos) σ K := by
  intro ow ρ s S Q E qq
  refine Call_ (name_boot O S hx (by decide) (by decide) e (by rfl : bootBuiltins "str" = some (.type "str")) ?_)
  refine PyProof.Rows.callWith_type1 ?_ rfl rfl
  refine (JL_cons (K := fun as σ₁ => as = [.v (.int i)] ∧ σ₁ = σ) rfl (JE_local O hl hd hv (JL_nil ⟨rfl, rfl⟩))) ow ρ s S _ _ fun vs as σ₁ ow₁ ρ₁ h₁ tk₁ e₁ S₁ r₁ k₁ => ?_
  obtain ⟨rfl, rfl⟩ := k₁
  cases r₁ with | cons r rs => cases rs with | nil =>
  obtain ⟨t, rfl⟩ := r.inv.int_inv
  exact P.str_of_int hi (qq _ _ _ ow₁ ρ₁ h₁ (tk₁ + 1) e₁ S₁ (.v (.str _ _)) k)
end
end
section
section
variable {X : Fx} {σ : SS} {ow : Addr → Prop} {ρ : List Addr} {h h' : Heap}
structure Hid (X : Fx) (ow : Addr → Prop) (ρ : List Addr) (a : Addr) : Prop where
  o : ow a
  r : a ∉ ρ
  L : a ≠ X.L
  l : a ≠ X.env.locals
  h : X.h₀.get? a = none
theorem exNone (X : Fx) (hs : Heap) (hn : ∀ b, hs.get? b = none) (ow : Addr → Prop) (ρ : List Addr) (h : Heap) : Ex X (fun _ => False) [] hs ow ρ h :=
  ⟨fun _ x => x.elim, fun b _ => .inr (hn b), List.nil_prefix, fun b _ => .inr (hn b), fun b o e => no_get e (hn b), fun b o e => no_get e (hn b)⟩
theorem heap_none : ∃ hs : Heap, ∀ b, hs.get? b = none := ⟨{ objs := #[] }, fun b => Heap.get?_none_of_le (Nat.zero_le _)⟩
theorem SR.write (S : SR X ow ρ h σ) (wr : List Addr) (kp : ∀ b o, b ∉ wr → h.get? b = some o → h'.get? b = some o) (hw : ∀ a ∈ wr, Hid X ow ρ a) (lv : ∀ a ∈ wr, ∃ o, h'.get? a = some o) : SR X ow ρ h' σ := by
  obtain ⟨hs, hn⟩ := heap_none
  exact (S.hid (exNone X hs hn ow ρ h) kp (fun a m => ⟨(hw a m).o, hn a, (hw a m).r, (hw a m).L, (hw a m).l, (hw a m).h⟩) (fun _ z => z) (fun _ z => .inl z) (fun b _ m => lv b m)).1
theorem SR.writeNew (S : SR X ow ρ h σ) {e dx : Addr} {o : Obj} (he : h.get? e = some o) (he' : ∃ o', h'.get? e = some o') (kp : ∀ b ob, b ≠ e → h.get? b = some ob → h'.get? b = some ob) (dn : h.get? dx = none) (dh : ∃ od, h'.get? dx = some od) (H : Hid X ow ρ e) : SR X (fun b => ow b ∨ b ∈ [dx]) ρ h' σ := by
  obtain ⟨o', he'⟩ := he'
  have hfr := (Heap.get?_some_iff.mp he).2
  have gm : (h'.update e fun _ => o).get? e = some o := Heap.get?_update_self _ he' hfr
  have ge : ∀ b, b ≠ e → (h'.update e fun _ => o).get? b = h'.get? b := fun b hb => Heap.get?_update_other _ _ (Ne.symm hb)
  have de : dx ≠ e := fun z => by rw [z, he] at dn; cases dn
  have S₁ := (S.hideUp (h' := h'.update e fun _ => o) [dx] (fun b x q => by
    by_cases z : b = e
    · subst z; rw [he] at q; cases q; exact gm
    · rw [ge b z]; exact kp b x z q) (fun a m => by rw [List.mem_singleton.mp m]; exact ⟨dn, by rw [ge dx de]; exact dh⟩)).1
  refine S₁.write [e] (fun b ob nb q => ?_) (fun a m => by rw [List.mem_singleton.mp m]; exact ⟨.inl H.o, H.r, H.L, H.l, H.h⟩) (fun a m => by rw [List.mem_singleton.mp m]; exact ⟨o', he'⟩)
  rw [ge b (fun z => nb (by rw [z]; exact .head _))] at q
  exact q
end
structure ExO (h : Heap) (e : Addr) (dct : Option Addr) : Prop where
  o : ∃ o vs t0, h.get? e = some o ∧ o.cls = .ref 38 ∧ o.dict = dct ∧ o.data = .fields vs ∧ vs[0]? = some (.ref t0) ∧ vs[1]? = some .none
end
section
theorem lk_code : typeLookup (.type "Exception") "code" = pure none := by rw [typeLookup_type, builtinLookup_eq_fast]; kernel_rfl
theorem lk_ft : typeLookup (.type "Exception") "frame_type" = pure none := by rw [typeLookup_type, builtinLookup_eq_fast]; kernel_rfl
theorem lk_text : typeLookup (.type "Exception") "text" = pure none := by rw [typeLookup_type, builtinLookup_eq_fast]; kernel_rfl
section
variable {X : Fx} {σ : SS} {ow : Addr → Prop} {ρ : List Addr} {s : Shared}
theorem name_local (O : X.Ok) {x : Str} {pos : Pos} {sv : AV} {Q E : Value → Shared → Prop} (S : SR X ow ρ s.heap σ) (hx : X.env.kindOf x = some .local) (hd : (x == ("__debug__" : Str)) = false) (h : lk x σ.loc = some sv)
    (q : ∀ v, AR (Pz s.heap ow) X.w ρ v sv → Q v s) : wpAny (model lawP X.w) X.A (eval (.Name x pos) X.env) Q E s := by
  obtain ⟨mf, ml, F, n, c1, c2, l⟩ := S.fr
  obtain ⟨v, hv, r⟩ := l x sv h
  exact wpAny_Name (wpAny_loadName_local O.kind hx n hv (q v r)) hd
theorem storeS (O : X.Ok) {e : Addr} {o : Obj} {vs : Array Value} {mA : Str → Option Value} {ns : List Str} {sv : SV} {x attr : Str} {p1 p2 p3 p4 : Pos} {Q : Flow → Shared → Prop} {E : Value → Shared → Prop} (S : SR X ow ρ s.heap σ)
    (ks : X.env.kindOf "self" = some .local) (kx : X.env.kindOf x = some .local) (hd : (x == ("__debug__" : Str)) = false) (hself : lk "self" σ.loc = some (.v (.ref e))) (hx : lk x σ.loc = some (.v sv))
    (hn : attr ∈ exNames) (hB : typeLookup (.type "Exception") attr = pure none) (he : s.heap.get? e = some o) (hc : o.cls = .ref 38) (hdt : o.data = .fields vs)
    (hdi : (o.dict = none ∧ ∀ n, mA n = none) ∨ ∃ d, o.dict = some d ∧ d ≠ e ∧ s.heap.Ns1 d mA) (hw : Within mA ns) (hsz : ns.length ≤ 100)
    (q : ∀ v h' tk' dx, VR (Pz s.heap ow) X.w v sv → (o.dict = some dx ∨ (o.dict = none ∧ s.heap.get? dx = none)) → h'.get? e = some { o with dict := some dx } → dx ≠ e → h'.Ns1 dx (fun y => if y = attr then some v else mA y) →
      (∀ b ob, b ≠ e → b ≠ dx → s.heap.get? b = some ob → h'.get? b = some ob) → Q .next { s with heap := h', toks := tk' }) :
    wpAny (model lawP X.w) X.A (exec (.Assign [.Attribute (.Name "self" p1) attr p2] (.Name x p3) p4) X.env) Q E s := by
  obtain ⟨nm, qn, N, bs, sn, sub, ab, col, dd, k0, k1, k2, k3, k5, mN, hC, hN, hi, hno⟩ := exCls S.kin (ex_in X.w)
  refine plainObj_wpAny_Assign_Attribute (name_local O S kx hd hx fun v rv => name_local O S ks (by decide) hself fun a ra => ?_) (swaps_false rfl)
  cases ra.inv
  obtain ⟨hh, gg, dr, tt, oo⟩ := s
  exact storeX (o := o) PySem.F.store_Exception hC hN (hno _ (by decide)) (hno _ hn) hB he hc (fun c z => by rw [hdt] at z; cases z) hdi (fun tk' h' dx a1 a2 a3 a4 a5 => q v h' tk' dx rv.inv a1 a2 a3 a4 a5) hw hsz
end
theorem argsSet {h : Heap} {e : Addr} {o T : Obj} {ws : Array Value} {v : Value} (y : h.get? e = some o) (d : o.data = .fields ws) (h0 : ∃ t0, ws[0]? = some t0) (h1 : ws[1]? = some .none) :
    (∃ o₂ ws₂, ((h.push T).update e (Obj.mapFields (·.setIfInBounds 0 v))).get? e = some o₂ ∧ o₂.cls = o.cls ∧ o₂.dict = o.dict ∧ o₂.data = .fields ws₂ ∧ ws₂[0]? = some v ∧ ws₂[1]? = some .none) ∧ ∀ b ob, b ≠ e → h.get? b = some ob → ((h.push T).update e (Obj.mapFields (·.setIfInBounds 0 v))).get? b = some ob := by
  obtain ⟨t0, h0⟩ := h0
  have hd := Obj.data_mapFields d (·.setIfInBounds 0 v)
  have yp := Heap.get?_push_of_some (h := h) T y
  refine ⟨⟨_, _, Heap.get?_update_self _ yp (Obj.isFreed_of_fields hd), Obj.cls_mapFields _ _, dict_mapFields _ _, hd, ?_, ?_⟩, fun b ob nb q => ?_⟩
  · have hsz : 0 < ws.size := (Array.getElem?_eq_some_iff.mp h0).1
    simp [hsz]
  · rw [Array.getElem?_setIfInBounds_ne (by decide)]; exact h1
  · rw [Heap.get?_update_other _ _ (Ne.symm nb)]; exact Heap.get?_push_of_some _ q
theorem Hid.new {X : Fx} {σ : SS} {ow : Addr → Prop} {ρ : List Addr} {h : Heap} {dx : Addr} (S : SR X ow ρ h σ) (dn : h.get? dx = none) : Hid X (fun b => ow b ∨ b ∈ [dx]) ρ dx := by
  have nl : ∀ a o, h.get? a = some o → dx ≠ a := fun a o z y => by rw [← y, dn] at z; cases z
  obtain ⟨mf, ml, F, n, c1, c2, l⟩ := S.fr
  refine ⟨.inr (.head _), fun m => ?_, ?_, ?_, ?_⟩
  · obtain ⟨o, z⟩ := S.low dx (S.off dx m).1; exact nl _ _ z rfl
  · obtain ⟨o, z⟩ := S.low _ S.owL; exact nl _ _ z
  · obtain ⟨o, z⟩ := S.low _ S.owl; exact nl _ _ z
  · cases z : X.h₀.get? dx with
    | none => rfl
    | some o => exact absurd rfl (nl _ _ (F.keep _ _ z))
theorem Hid.up {X : Fx} {ow ow' : Addr → Prop} {ρ : List Addr} {e : Addr} (H : Hid X ow ρ e) (h : ∀ b, ow b → ow' b) : Hid X ow' ρ e := ⟨h _ H.o, H.r, H.L, H.l, H.h⟩
theorem JE_text {X : Fx} (O : X.Ok) {σ : SS} {K : AV → SS → Prop} {p4 p5 p6 p7 p8 p9 p10 : Pos} {x : Str} (hx : X.env.kindOf "str" = some .globalImplicit) (hl : X.env.kindOf "code" = some .local) (ht : X.env.kindOf "text" = some .local)
    (hv : lk "code" σ.loc = some (.v (.int 10))) (ht' : lk "text" σ.loc = some (.v (.str x))) (e : nsIn (tp.heap_1 X.w.params) mainGlobals "str" = some none) (hz : x.length ≤ 1000) (k : ∀ y, K (.v (.str y)) σ) :
    JE X (.BinOp (.BinOp (.Call (.Name "str" p4) [.Name "code" p5] [] p6) .Add (.Constant (.str ": ") 0 p7) p8) .Add (.Name "text" p9) p10) σ K := by
  refine JE_BinOp (JE_BinOp (JE_strOf O hx hl (by decide) hv (by decide +kernel) e ?_))
  refine JE_str ?_
  refine cat_str (by decide +kernel) ?_
  refine JE_local O ht (by decide) ht' ?_
  refine cat_str ?_ (k _)
  have : (Str.ofString (toString (10 : Int)) ++ (": " : Str)).length ≤ 1000 := by decide +kernel
  have h2 : (2000 : Nat) ≤ sizeLine := by decide +kernel
  omega
theorem init_body {X : Fx} (O : X.Ok) {ow : Addr → Prop} {ρ : List Addr} {s : Shared} {e : Addr} {x : Str} (ag : Agr X (cxOf (scp 35 X.w.params) 0))
    (S : SR X ow ρ s.heap (entSS (scp 35 X.w.params) ["self", "code", "frame_type", "text"] [.v (.ref e), .v (.int 10), .v (.int 0), .v (.str x)] [])) (H : Hid X ow ρ e) (hx : x.length ≤ 1000) (xo : ExO s.heap e none) {Q : Flow → Shared → Prop} {E : Value → Shared → Prop}
    (q : ∀ h' tk' dx, (∀ b o, b ≠ e → b ∉ ρ → b ≠ X.L → b ≠ X.env.locals → s.heap.get? b = some o → h'.get? b = some o) → s.heap.get? dx = none → ExO h' e (some dx) → dx ≠ e → (∃ m tk, h'.Ns dx m ∧ m "code" = some (.int 10 tk)) → Q .next { s with heap := h', toks := tk' }) :
    wpAny (model lawP X.w) X.A (execs (bd 35 X.w.params) X.env) Q E s := by
  have kind : ∀ y k, (scp 35 X.w.params).names.lookup y = k → X.env.kindOf y = k := fun y k z => by show X.env.scope.names.lookup y = k; rw [ag.names]; exact z
  have kself := kind "self" (some .local) (by kernel_rfl)
  have kcode := kind "code" (some .local) (by kernel_rfl)
  have kft := kind "frame_type" (some .local) (by kernel_rfl)
  have ktext := kind "text" (some .local) (by kernel_rfl)
  have kexc := kind "Exception" (some .globalImplicit) (by kernel_rfl)
  have kstr := kind "str" (some .globalImplicit) (by kernel_rfl)
  have lself : lk "self" (entSS (scp 35 X.w.params) ["self", "code", "frame_type", "text"] [.v (.ref e), .v (.int 10), .v (.int 0), .v (.str x)] []).loc = some (.v (.ref e)) := by kernel_rfl
  have lcode : lk "code" (entSS (scp 35 X.w.params) ["self", "code", "frame_type", "text"] [.v (.ref e), .v (.int 10), .v (.int 0), .v (.str x)] []).loc = some (.v (.int 10)) := by kernel_rfl
  have lft : lk "frame_type" (entSS (scp 35 X.w.params) ["self", "code", "frame_type", "text"] [.v (.ref e), .v (.int 10), .v (.int 0), .v (.str x)] []).loc = some (.v (.int 0)) := by kernel_rfl
  have ltext : lk "text" (entSS (scp 35 X.w.params) ["self", "code", "frame_type", "text"] [.v (.ref e), .v (.int 10), .v (.int 0), .v (.str x)] []).loc = some (.v (.str x)) := by kernel_rfl
  obtain ⟨p1, p2, p3, p4, p5, p6, p7, p8, p9, p10, p11, p12, p13, p14, p15, p16, p17, p18, p19, p20, p21, p22, p23, p24, hb, hm⟩ := b35 X.w
  generalize (entSS (scp 35 X.w.params) ["self", "code", "frame_type", "text"] [.v (.ref e), .v (.int 10), .v (.int 0), .v (.str x)] []) = σ at *
  rw [hb]
  have nstr : nsIn (tp.heap_1 X.w.params) mainGlobals "str" = some none := by kernel_rfl
  have nexc : nsIn (tp.heap_1 X.w.params) mainGlobals "Exception" = some none := by kernel_rfl
  refine wpAny_execs_cons (wpAny_Expr (mcall rfl hm fun pl => name_boot O S kexc (by decide) (by decide) nexc (by rfl : bootBuiltins "Exception" = some (.type "Exception")) ?_) (quiet_of O) rfl)
  obtain ⟨mf, ml, F, n₀, c1, c2, l₀⟩ := S.fr
  refine method_type F O.K (by rfl) (by decide +kernel) (v := .builtin "Exception.__init__") (by rfl) (by decide +kernel) ?_
  refine PyProof.Rows.callWith_builtin1 ?_ rfl rfl
  have J : JL X p11 [.Name "self" p3, .BinOp (.BinOp (.Call (.Name "str" p4) [.Name "code" p5] [] p6) .Add (.Constant (.str ": ") 0 p7) p8) .Add (.Name "text" p9) p10] σ (fun as σ₁ => σ₁ = σ ∧ ∃ y, as = [.v (.ref e), .v (.str y)]) :=
    JL_cons rfl (JE_local O kself (by decide) lself (JL_cons rfl (JE_text O kstr kcode ktext lcode ltext nstr hx fun y => JL_nil ⟨rfl, y, rfl⟩)))
  refine J ow ρ { s with toks := s.toks + 1 } S _ _ fun vs as σ₁ ow₁ ρ₁ h₁ tk₁ e₁ S₁ r₁ k₁ => ?_
  obtain ⟨hσ, y, rfl⟩ := k₁
  rw [hσ] at S₁
  cases r₁ with | cons r rs => cases rs with | cons r2 rs => cases rs with | nil =>
  cases r.inv
  obtain ⟨u2, rfl⟩ := r2.inv.str_inv
  obtain ⟨o, ws, t0, x1, x2, x3, x4, x5, x6⟩ := xo.o
  have y1 : h₁.get? e = some o := e₁.keep e o x1 H.r H.l H.L
  obtain ⟨hr₁, H₁⟩ : e ∉ ρ₁ ∧ Hid X ow₁ ρ₁ e := by
    have z : e ∉ ρ₁ := fun m => by
      rcases e₁.fresh e m with m | m
      · exact H.r m
      · have := x1; rw [m] at this; cases this
    exact ⟨z, e₁.own _ H.o, z, H.L, H.l, H.h⟩
  obtain ⟨nm, qn, N, bs, sn, sub, ab, col, dd, k0, k1, k2, k3, k5, mN, hC, hN, hi, hno⟩ := exCls S₁.kin (ex_in X.w)
  obtain ⟨hh, gg, dr, tt, oo⟩ := s
  refine initX (o := o) PySem.F.excBase_Exception hC y1 x2 x4 x5 ?_ (show 1 ≤ sizeLine by decide +kernel)
  show wpAny _ _ _ _ _ _
  obtain ⟨⟨o₂, ws₂, z1, z2, z3, z4, z5, z6⟩, kp₂⟩ := argsSet (T := { cls := .type "tuple", data := .seq [.str y u2].toArray }) (v := .ref h₁.objs.size) y1 x4 ⟨_, x5⟩ x6
  generalize hG : (h₁.push { cls := .type "tuple", data := .seq [.str y u2].toArray }).update e (Obj.mapFields (·.setIfInBounds 0 (.ref h₁.objs.size))) = h₂ at z1 kp₂ ⊢
  have S₂ : SR X ow₁ ρ₁ h₂ σ := S₁.write [e] (fun b ob nb q => kp₂ b ob (fun z => nb (by rw [z]; exact .head _)) q) (fun a m => by rw [List.mem_singleton.mp m]; exact H₁) (fun a m => by rw [List.mem_singleton.mp m]; exact ⟨_, z1⟩)
  -- self.code
  refine wpAny_execs_cons (storeS (s := ⟨h₂, gg, dr, tk₁, oo⟩) (mA := fun _ => none) (ns := []) O S₂ kself kcode (by decide) lself lcode (by decide) lk_code z1 (z2.trans x2) z4 (.inl ⟨z3.trans x3, fun _ => rfl⟩) .nil (Nat.zero_le _) fun v1 h₃ tk₃ dx rv1 a1 a2 a3 a4 a5 => ?_)
  obtain ⟨t1, rfl⟩ := rv1.int_inv
  have dn : h₂.get? dx = none := by
    rcases a1 with a1 | a1
    · rw [z3.trans x3] at a1; cases a1
    · exact a1.2
  have dEx : ∃ od, h₃.get? dx = some od := by obtain ⟨o', _, _, q, _⟩ := a4; exact ⟨o', q⟩
  have kp₃ : ∀ b ob, b ≠ e → h₂.get? b = some ob → h₃.get? b = some ob := fun b ob nb q => a5 b ob nb (fun z => by rw [z, dn] at q; cases q) q
  have S₃ := S₂.writeNew z1 ⟨_, a2⟩ kp₃ dn dEx H₁
  have Hd := Hid.new S₂ dn
  have He₃ : Hid X (fun b => ow₁ b ∨ b ∈ [dx]) ρ₁ e := H₁.up fun _ => .inl
  have hw2 : ∀ a ∈ [e, dx], Hid X (fun b => ow₁ b ∨ b ∈ [dx]) ρ₁ a := fun a m => by
    rcases List.mem_cons.mp m with rfl | m
    · exact He₃
    · rw [List.mem_singleton.mp m]; exact Hd
  -- self.frame_type
  refine wpAny_execs_cons (storeS (s := ⟨h₃, gg, dr, tk₃, oo⟩) (ns := ["code"]) O S₃ kself kft (by decide) lself lft (by decide) lk_ft a2 (z2.trans x2) z4 (.inr ⟨dx, rfl, a3, a4⟩) (.cons _ _ .nil) (by decide) fun v2 h₄ tk₄ dx' rv2 c1 c2 c3 c4 c5 => ?_)
  obtain rfl : dx = dx' := by rcases c1 with c1 | c1; exact Option.some.inj c1; cases c1.1
  have S₄ := S₃.write (h' := h₄) [e, dx] (fun b ob nb q => c5 b ob (fun z => nb (by rw [z]; exact .head _)) (fun z => nb (by rw [z]; exact .tail _ (.head _))) q) hw2 (fun a m => by
    rcases List.mem_cons.mp m with rfl | m
    · exact ⟨_, c2⟩
    · rw [List.mem_singleton.mp m]; obtain ⟨o', _, _, q, _⟩ := c4; exact ⟨o', q⟩)
  -- self.text
  refine wpAny_execs_cons (storeS (s := ⟨h₄, gg, dr, tk₄, oo⟩) (ns := ["frame_type", "code"]) O S₄ kself ktext (by decide) lself ltext (by decide) lk_text c2 (z2.trans x2) z4 (.inr ⟨dx, rfl, c3, c4⟩) (.cons _ _ (.cons _ _ .nil)) (by decide) fun v3 h₅ tk₅ dx' rv3 d1 d2 d3 d4 d5 => ?_)
  obtain rfl : dx = dx' := by rcases d1 with d1 | d1; exact Option.some.inj d1; cases d1.1
  refine wpAny_execs_nil (q h₅ tk₅ dx (fun b ob nb n1 n2 n3 q => ?_) ?_ ⟨⟨_, ws₂, _, d2, z2.trans x2, rfl, z4, z5, z6⟩⟩ d3 ⟨_, t1, d4.ns, rfl⟩)
  · have q₁ := e₁.keep b ob q n1 n3 n2
    have q₂ := kp₂ b ob nb q₁
    have nd : b ≠ dx := fun z => by rw [z, dn] at q₂; cases q₂
    exact d5 b ob nb nd (c5 b ob nb nd (kp₃ b ob nb q₂))
  · have : h₁.get? dx = none := by
      cases z : h₁.get? dx with
      | none => rfl
      | some od =>
        by_cases y : dx = e
        · exact absurd y d3
        · have := kp₂ dx od y z; rw [dn] at this; cases this
    exact e₁.gone this
end
section
theorem in35 (w : World) : FnAt 35 w := ⟨_, _, _, _, _, _, _, _, _, rfl, by kernel_rfl⟩
theorem bind35 (w : World) : Bnd (prm 35 w.params) ["self", "code", "frame_type", "text"] := bnd4 fun _ _ _ _ _ => by kernel_rfl
theorem fn35 (w : World) : ∃ o, (tp.heap_1 w.params).lookup 35 = some o ∧ o.cls = .type "function" := ⟨_, rfl, by kernel_rfl⟩
theorem ok35 (w : World) : (nodupB ((cells0 (scp 35 w.params)).map (·.1)) && bindsB (scp 35 w.params) ["self", "code", "frame_type", "text"] && ((scp 35 w.params).kind == .function && !(scp 35 w.params).isCoroutine && !(scp 35 w.params).isGenerator)) = true := by kernel_rfl
theorem newExcX {X : Fx} (O : X.Ok) {σ : SS} {ow : Addr → Prop} {ρ : List Addr} {s : Shared} (S : SR X ow ρ s.heap σ) (hdp : X.dp + 2 < recursionLimit) (hun : X.un + 14 < cLine) {t1 t2 t3 : Tok} {x : Str} (hx : x.length ≤ 1000) {Q E : Value → Shared → Prop}
    (q : ∀ e dx h' tk', (∀ b o, s.heap.get? b = some o → h'.get? b = some o) → s.heap.get? e = none → s.heap.get? dx = none → ExO h' e (some dx) → dx ≠ e → (∃ m tk, h'.Ns dx m ∧ m "code" = some (.int 10 tk)) → Q (.ref e) { s with heap := h', toks := tk' }) :
    wpAny (model lawP X.w) X.A (call (.ref 38) [.int 10 t1, .int 0 t2, .str x t3]) Q E s := by
  obtain ⟨nm, qn, N, bs, sn, sub, ab, col, dd, k0, k1, k2, k3, k5, mN, hC, hN, hi, hno⟩ := exCls S.kin (ex_in X.w)
  obtain ⟨oI, hfI, hfc⟩ := fn35 X.w
  obtain ⟨hh, gg, dr, tt, oo⟩ := s
  refine wpAny_call_exc_init PySem.F.excBase_Exception hC hN hi (S.kin _ _ hfI) hfc (fun h' e hm => ?_) (show 3 ≤ sizeLine by decide +kernel)
  rw [under_cls]
  generalize hX : ({ X with dp := X.dp + 1, un := X.un + 1, D := X.D - 1, U := X.U - 1 } : Fx) = X₁
  have room := O.room
  have units := O.units
  have O₁ : X₁.Ok := by
    subst hX
    exact { below := O.below, K := O.K, T := O.T, ck := O.ck, kind := O.kind, glob := O.glob, bins := O.bins, here := O.here, there := O.there, room := (by dsimp only; omega), units := (by dsimp only; omega) }
  obtain ⟨t0, he, ht0, _⟩ := hm.there
  have S₁ : SR X₁ (fun b => ow b ∨ b ∈ [e]) ρ h' σ := by
    subst hX
    have S₂ := (S.hideUp (h' := h') [e] hm.keeps (fun a m => by rw [List.mem_singleton.mp m]; exact ⟨hm.new, _, he⟩)).1
    exact ⟨S₂.fr, S₂.len, S₂.cel, S₂.nd, S₂.off, S₂.owL, S₂.owl, S₂.low, S₂.var, S₂.kf⟩
  have hA : X₁.A = { X.A with depth := X.A.depth + 1, units := X.A.units + 1 } ∧ X₁.w = X.w ∧ X₁.dp = X.dp + 1 ∧ X₁.un = X.un + 1 ∧ X₁.h₀ = X.h₀ ∧ X₁.L = X.L := by subst hX; exact ⟨rfl, rfl, rfl, rfl, rfl, rfl⟩
  obtain ⟨hA, hw, hdp₁, hun₁, hh₀, hL⟩ := hA
  rw [← hA]
  have c := ok35 X.w
  have nl : ∀ a o, hh.get? a = some o → e ≠ a := fun a o z y => by rw [← y, hm.new] at z; cases z
  have N' : News X₁.h₀ X₁.L h' [(e, _)] := fun p hp => by
    rw [List.mem_singleton.mp hp]
    obtain ⟨mf, ml, F, n, c1, c2, l⟩ := S.fr
    obtain ⟨oL, zL⟩ := S.low _ S.owL
    refine ⟨he, by rw [hL]; exact nl _ _ zL, ?_⟩
    rw [hh₀]
    cases z : X.h₀.get? e with
    | none => rfl
    | some o => exact absurd rfl (nl _ _ (F.keep _ _ z))
  refine wpAny_call (enterAnyH (w := X.w) (f := 35) (D := 0) (U := 10) (ns := ["self", "code", "frame_type", "text"]) (in35 X.w) (bind35 X.w) c
    X₁ O₁ hw (by omega) (by omega) _ ρ σ ⟨h', gg, dr, tt, oo⟩ S₁ [] [] [.ref e, .int 10 t1, .int 0 t2, .str x t3] [.v (.ref e), .v (.int 10), .v (.int 0), .v (.str x)] List.nodup_nil (fun a m => by cases m) ⟨rfl, fun i a o f1 f2 => by cases f1⟩
    (.cons (.v (.ref e)) (.cons (.v (.int _ _)) (.cons (.v (.int _ _)) (.cons (.v (.str _ _)) .nil)))) rfl [e] [(e, _)] N' rfl (fun a m => by cases m) (fun a m => .inr m) _ ?_)
  intro X' ca h₁ tk ⟨O', hw', hD, hU, ag, hout, hbase, hh, hL', hcomp, hA', hfr, hme, keep₁, caBig, S'⟩
  have hes : e < h'.objs.size := Heap.lt_size he
  have loc : X'.env.locals = X'.L := O'.here hcomp
  have H : Hid X' (fun b => (ow b ∨ b ∈ [e]) ∨ b = h'.objs.size ∨ b ∈ ca) ([] ++ ca) e := ⟨.inl (.inr (.head _)), fun m => by
    rw [List.nil_append] at m; exact Nat.lt_irrefl _ (Nat.lt_trans hes (caBig e m)), by rw [hL']; exact Nat.ne_of_lt hes, by rw [loc, hL']; exact Nat.ne_of_lt hes, by rw [hh]; exact hideAll_none _ (.head _)⟩
  rw [← hw'] at ag S' ⊢
  refine init_body O' ag S' H hx ⟨⟨_, _, t0, keep₁ _ _ he, rfl, rfl, rfl, rfl, rfl⟩⟩ fun h₂ tk₂ dx kp dn xo de cd => ?_
  refine ⟨rfl, q e dx h₂ tk₂ (fun b o z => ?_) hm.new ?_ xo de cd⟩
  · have bl := Heap.lt_size (hm.keeps b o z)
    refine kp b o (Ne.symm (nl b o z)) (fun m => ?_) (by rw [hL']; exact Nat.ne_of_lt bl) (by rw [loc, hL']; exact Nat.ne_of_lt bl) (keep₁ b o (hm.keeps b o z))
    rw [List.nil_append] at m; exact Nat.lt_irrefl _ (Nat.lt_trans bl (caBig b m))
  · show Heap.get? _ dx = none
    cases z : Heap.get? _ dx with
    | none => rfl
    | some o => have := keep₁ _ _ (hm.keeps _ _ z); rw [dn] at this; cases this
end
section
abbrev Fx.me (X : Fx) : Env := envX X.cn X.cs X.L X.fa X.ccd X.cl
def RaisedX (X : Fx) (e : Addr) (h : Heap) : Prop := ∃ g dx fl, (fl = none ∨ fl = some .none ∨ fl = some (rawInt X.L)) ∧ (∀ b o, X.h₀.get? b = some o → g.get? b = some o) ∧ (∃ m, g.Ns X.L m) ∧ Fly g (X.me :: X.outer) 38 e dx fl h
def JSR (X : Fx) (st : Stmt) (σ : SS) : Prop := ∀ ow ρ s, SR X ow ρ s.heap σ → ∀ (Q : Flow → Shared → Prop) (E : Value → Shared → Prop), (∀ e h' tk', RaisedX X e h' → E (.ref e) { s with heap := h', toks := tk' }) → wpAny (model lawP X.w) X.A (exec st X.env) Q E s
def JER (X : Fx) (x : Expr) (σ : SS) : Prop := ∀ ow ρ s, SR X ow ρ s.heap σ → ∀ (Q : Value → Shared → Prop) (E : Value → Shared → Prop), (∀ e h' tk', RaisedX X e h' → E (.ref e) { s with heap := h', toks := tk' }) → wpAny (model lawP X.w) X.A (eval x X.env) Q E s
def JBR (X : Fx) (st : List Stmt) (σ : SS) : Prop := ∀ ow ρ s, SR X ow ρ s.heap σ → ∀ (Q : Flow → Shared → Prop) (E : Value → Shared → Prop), (∀ e h' tk', RaisedX X e h' → E (.ref e) { s with heap := h', toks := tk' }) → wpAny (model lawP X.w) X.A (execs st X.env) Q E s
section
variable {X : Fx} {σ : SS}
theorem JBR_here {st : Stmt} {rest : List Stmt} (h : JSR X st σ) : JBR X (st :: rest) σ := fun ow ρ s S Q E q => wpAny_execs_cons (h ow ρ s S _ _ q)
theorem JBR_next {st : Stmt} {rest : List Stmt} (h : JS X st σ fun f σ₁ => f = .next ∧ JBR X rest σ₁) : JBR X (st :: rest) σ := by
  intro ow ρ s S Q E q
  refine wpAny_execs_cons (h ow ρ s S _ _ fun a sa σ₁ ow₁ ρ₁ h₁ tk₁ e₁ S₁ r₁ k₁ => ?_)
  obtain ⟨rfl, k₁⟩ := k₁
  cases r₁
  exact k₁ ow₁ ρ₁ { s with heap := h₁, toks := tk₁ } S₁ _ _ q
theorem JSR_If {t : Expr} {a b : List Stmt} {pos : Pos} (h : JT X t σ fun c σ₁ => Br c (JBR X a σ₁) (JBR X b σ₁)) : JSR X (.If t a b pos) σ := by
  intro ow ρ s S Q E q
  refine wpAny_If (h ow ρ s S _ _ fun c sc σ₁ ow₁ ρ₁ h₁ tk₁ e₁ S₁ r₁ k₁ => ?_)
  obtain rfl : c = sc := r₁
  cases c with
  | true => exact k₁ ow₁ ρ₁ { s with heap := h₁, toks := tk₁ } S₁ _ _ q
  | false => exact k₁ ow₁ ρ₁ { s with heap := h₁, toks := tk₁ } S₁ _ _ q
theorem JSR_Expr {x : Expr} {pos : Pos} (hi : interactive X.env = false) (hs : swapsWith x none pos.line X.env = pure false) (h : JER X x σ) : JSR X (.Expr x pos) σ := fun ow ρ s S Q E q => wpAny_Expr (h ow ρ s S _ _ q) hi hs
theorem funFr (O : X.Ok) {ow : Addr → Prop} {ρ : List Addr} {h : Heap} (S : SR X ow ρ h σ) : h.FunFrames X.base (X.me :: X.outer) := by
  obtain ⟨mf, ml, F, n, c1, c2, l⟩ := S.fr
  have f := O.below.frames
  obtain ⟨o, es, ep, ho, hd, _⟩ := F.ns
  refine ⟨by show X.cs.kind ≠ .module; rw [O.ck]; decide, ⟨X.L, o, rfl, ?_, ho, fun vs z => by rw [hd] at z; cases z⟩, f.of_keeps fun b o z _ => ⟨o, F.keep b o z, rfl⟩⟩
  cases z : X.base.get? X.L with
  | none => rfl
  | some o' =>
    have := kts_self F
    rw [O.below.stays _ _ z] at this; cases this
theorem RaisedX.made (O : X.Ok) {ow : Addr → Prop} {ρ : List Addr} {h h' : Heap} {e dx : Addr} (S : SR X ow ρ h σ) (kp : ∀ b o, h.get? b = some o → h'.get? b = some o) (en : h.get? e = none) (dn : h.get? dx = none) (xo : ExO h' e (some dx)) (de : dx ≠ e) (cd : ∃ m tk, h'.Ns dx m ∧ m "code" = some (.int 10 tk)) : RaisedX X e h' := by
  obtain ⟨mf, ml, F, n, c1, c2, l⟩ := S.fr
  obtain ⟨o, vs, t0, x1, x2, x3, x4, x5, x6⟩ := xo.o
  have ff := funFr O S
  refine ⟨h, dx, none, .inl rfl, F.keep, ⟨mf, F.ns⟩, ⟨⟨fun b o z _ => kp b o z, fun b o z _ => ⟨o.slots, kp b o z⟩⟩, ⟨X.base, ff.of_keeps fun b o z _ => ⟨o, kp b o z, rfl⟩⟩, en, dn, Ne.symm de, fun m => ?_, ⟨o, vs, x1, x2, x3, x4, x6⟩, cd⟩⟩
  obtain ⟨_, o', z, _⟩ := ff.mem m
  rw [dn] at z; cases z
theorem JSR_Raise (O : X.Ok) {a0 : Expr} {args : List Expr} {np cpos pos : Pos} (hs : noStar (a0 :: args) = true) (hx : X.env.kindOf "QuicError" = some .globalImplicit) (hD : 2 ≤ X.D) (hU : 14 ≤ X.U)
    (h : JL X cpos (a0 :: args) σ fun as σ₁ => ∃ x, as = [.v (.int 10), .v (.int 0), .v (.str x)] ∧ x.length ≤ 1000) : JSR X (.Raise (some (.Call (.Name "QuicError" np) (a0 :: args) [] cpos)) none pos) σ := by
  intro ow ρ s S Q E q
  have room := O.room
  have units := O.units
  rw [arm_exec_Raise]
  refine wpAny_bind (wpAny_standAt ?_)
  simp only [evalOpt, Option.map]
  unfold raiseStmt
  refine wpAny_bind (wpAny_bind (Call_ (name_glob O S hx (by decide) (v := .ref 38) (by kernel_rfl) ?_)))
  refine callWith_K S.kin (by kernel_rfl) ?_ (starEach_cons hs) (noStar_plain (noStar_tail hs))
  refine h ow ρ s S _ _ fun vs as σ₁ ow₁ ρ₁ h₁ tk₁ e₁ S₁ r₁ k₁ => ⟨S₁.kin, ?_⟩
  obtain ⟨x, rfl, hz⟩ := k₁
  cases r₁ with | cons ra rs => cases rs with | cons rb rs => cases rs with | cons rc rs => cases rs with | nil =>
  obtain ⟨t1, rfl⟩ := ra.inv.int_inv
  obtain ⟨t2, rfl⟩ := rb.inv.int_inv
  obtain ⟨t3, rfl⟩ := rc.inv.str_inv
  refine newExcX (s := { s with heap := h₁, toks := tk₁ }) O S₁ (by omega) (by omega) hz fun e dx h₂ tk₂ kp en dn xo de cd => ?_
  refine wpAny_bind (wpAny_standAt (wpAny_pure ?_))
  have fin := q e h₂ tk₂ (RaisedX.made O S₁ kp en dn xo de cd)
  obtain ⟨o, ws, t0, x1, x2, x3, x4, x5, x6⟩ := xo.o
  obtain ⟨nm, qn, N, bs, sn, sub, ab, col, dd, k0, k1, k2, k3, k5, mN, hC, hN, hi, hno⟩ := exCls S₁.kin (ex_in X.w)
  have hC := kp _ _ hC
  have hcB : (Value.ref 38 :: exBm).contains (.type "BaseException") = true := by decide +kernel
  obtain ⟨hh, gg, dr, tt, oo⟩ := s
  dsimp only
  repeat (first | (with_reducible refine wpAny_loadPart_at x1 ?_; first | rw [x2] | rw [x4]) | with_reducible refine wpAny_loadPart_at hC ?_ | (with_reducible refine wpAny_isSubtype_exc hC ?_; rw [hcB]) | wp_step)
  rw [x4]
  refine wpAny_pure ?_
  rw [x6]
  refine wpAny_pure ?_
  rw [if_neg (by decide)]
  refine wpAny_pure ?_
  exact wpAny_raiseNew_none rfl fin
end
end
section
theorem Fly.mono {g g' h : Heap} {l : List Env} {C e dx : Addr} {fl : Option Value} (up : ∀ b o, g.get? b = some o → g'.get? b = some o) (F : Fly g' l C e dx fl h) : Fly g l C e dx fl h := by
  have dn : ∀ b, g'.get? b = none → g.get? b = none := fun b z => by
    cases y : g.get? b with
    | none => rfl
    | some o => have := up _ _ y; rw [z] at this; cases this
  obtain ⟨kp, ff, en, dd, ed, dl, ⟨oe, vs, he, hc, hdx, hd, ht⟩, cd⟩ := F
  refine ⟨⟨fun b o z => kp.keep b o (up b o z), fun b o z => kp.slot b o (up b o z)⟩, ff, dn e en, dn dx dd, ed, dl, ⟨oe, vs, he, hc, hdx, hd, ?_⟩, cd⟩
  cases fl with
  | none => exact ht
  | some f => obtain ⟨T, oT, ts, h1, gT, r⟩ := ht; exact ⟨T, oT, ts, h1, dn T gT, r⟩
def FnRaise (w : World) (f : Addr) (D U : Nat) (sp : List AV → Prop) : Prop :=
  ∀ (X : Fx), X.Ok → X.w = w → X.dp + D < recursionLimit → X.un + U < cLine → ∀ (ow : Addr → Prop) (ρ : List Addr) (σ : SS) (s : Shared), SR X ow ρ s.heap σ →
  ∀ (vs : List Value) (as : List AV), ARs (Pz s.heap ow) w [] vs as → sp as → ∀ (Q E : Value → Shared → Prop), (∀ e h' tk', RaisedX X e h' → E (.ref e) { s with heap := h', toks := tk' }) → wpAny (model lawP w) X.A (call (.ref f) vs) Q E s
theorem FnRaise.of_body {w : World} {f : Addr} {D U : Nat} {sp : List AV → Prop} {qual : Str} {params : Arguments} {body : List Stmt} {sc : Scope} {ns : List Str}
    (hf : FnIn w f qual params body sc) (hb : Bnd params ns)
    (hc : ScOk sc ns)
    (hlen : ∀ as, sp as → as.length = ns.length)
    (h : ∀ (X : Fx) (as : List AV), X.Ok → X.w = w → X.D = D → X.U = U → Agr X (cxOf sc 0) → X.env = X.me → sp as → JBR X body (entSS sc ns as [])) : FnRaise w f (D + 1) (U + 3) sp := by
  intro X O hw hdp hun ow ρ σ s S vs as R hsp Q E q
  refine wpAny_call (enterAny hf hb hc
    X O hw hdp hun ow ρ σ s S [] [] vs as List.nodup_nil (fun a m => by cases m) ⟨rfl, fun i a o f1 f2 => by cases f1⟩ R (hlen _ hsp) _ ?_)
  intro X' ca h₁ tk ⟨O', hw', hD, hU, ag, hout, hbase, hh, hL, hcomp, hA, hfr, hme, keep₁, caBig, S'⟩
  have J := h X' as O' hw' hD hU ag hme hsp _ _ { s with heap := h₁, toks := tk } S' (fun fl s' => False) (fun e s' => wpAny (model lawP w) X'.A (leaving X'.env e) (fun _ s'' => E e s'') (fun e' s'' => E e' s'') s') fun e h' tk' R => ?_
  · rw [hw'] at J
    exact wpAny_mono J (fun _ _ z => z.elim) fun _ _ z => z
  obtain ⟨g, dx, fl, hfl, hg, _, F⟩ := R
  obtain ⟨mf, ml, Fr0, n, c1, c2, l⟩ := S.fr
  rw [hme]
  refine wpAny_leavingX (s := { s with heap := h', toks := tk' }) (env := X'.me) (outer := X'.outer) rfl rfl (F.mono hg) hfl ?_ fun h'' F'' => q e h'' tk' ⟨s.heap, dx, some .none, .inr (.inl rfl), Fr0.keep, ⟨mf, Fr0.ns⟩, ?_⟩
  · rw [hh, hL]; exact none_size s.heap
  · rw [hh, hout] at F''
    exact F''
section
variable {X : Fx} {σ : SS}
theorem JER_Call (O : X.Ok) {f : Addr} {D U : Nat} {sp : List AV → Prop} {x : Str} {px pos : Pos} {a : Expr} {args : List Expr} (hf : FnRaise X.w f D U sp) (hD : D ≤ X.D) (hU : U ≤ X.U) (hs : noStar (a :: args) = true) (hk : keepIn (tp.heap_1 X.w.params) (.ref f) = true)
    (hx : X.env.kindOf x = some .globalImplicit) (hd : (x == ("__debug__" : Str)) = false) (e : nsIn (tp.heap_1 X.w.params) mainGlobals x = some (some (.ref f)))
    (h : JL X pos (a :: args) σ fun as σ₁ => plains as = true ∧ sp as) : JER X (.Call (.Name x px) (a :: args) [] pos) σ := by
  intro ow ρ s S Q E q
  have room := O.room
  have units := O.units
  refine Call_ (name_glob O S hx hd e ?_)
  refine callWith_K S.kin hk ?_ (starEach_cons hs) (noStar_plain (noStar_tail hs))
  refine h ow ρ s S _ _ fun vs as σ₁ ow₁ ρ₁ h₁ tk₁ e₁ S₁ r₁ k₁ => ⟨S₁.kin, ?_⟩
  exact hf X O rfl (by omega) (by omega) ow₁ ρ₁ σ₁ { s with heap := h₁, toks := tk₁ } S₁ vs as (r₁.plain k₁.1) k₁.2 _ _ q
def JForR (X : Fx) (target : Expr) (body : List Stmt) : List SV → SS → Prop
  | [], σ => False
  | d :: ds, σ => JA X target (.v d) σ (fun σ₁ => JBR X body σ₁) ∨ JA X target (.v d) σ (fun σ₁ => JB X body σ₁ fun f σ₂ => f = .next ∧ JForR X target body ds σ₂)
theorem JSR_For {target iter : Expr} {body : List Stmt} {pos : Pos} (O : X.Ok) (hme : X.env = X.me) (hs : ∀ x, foldedSetIterable iter X.env x = pure x) (h : JE X iter σ fun a σ₁ => ∃ its, Iters X a σ₁ its ∧ JForR X target body its σ₁) : JSR X (.For target iter body [] pos) σ := by
  intro ow ρ s S Q E q
  refine wpAny_For (h ow ρ s S _ _ fun a sa σ₁ ow₁ ρ₁ h₁ tk₁ e₁ S₁ r₁ k₁ => ?_) hs
  obtain ⟨its, hi, jf⟩ := k₁
  refine hi ow₁ ρ₁ { s with heap := h₁, toks := tk₁ } a S₁ r₁ _ _ fun o fp P St hof it st0 => ?_
  obtain ⟨S₂, e₂⟩ := S₁.hide o hof
  have In : ¬ ow₁ h₁.objs.size := fun z => let ⟨_, e⟩ := S₁.low _ z; no_get e (none_size h₁)
  have IL : h₁.objs.size ≠ X.L := fun z => In (z ▸ S₁.owL)
  have Il : h₁.objs.size ≠ X.env.locals := fun z => In (z ▸ S₁.owl)
  have Ih : X.h₀.get? h₁.objs.size = none := by
    obtain ⟨mf, _, F, _⟩ := S₁.fr
    cases z : X.h₀.get? h₁.objs.size with
    | none => rfl
    | some o => exact no_get (F.keep _ _ z) (none_size h₁)
  have Iρ : h₁.objs.size ∉ ρ₁ := fun z => In (S₁.off _ z).1
  -- what comes back out of the loop
  have back : ∀ e h' tk', RaisedX X e h' → notedBy (model lawP X.w) X.A X.env (fun e s' => cameBackBy (model lawP X.w) X.A X.env E e s') (.ref e) { s with heap := h', toks := tk' } := fun e h' tk' R => by
    obtain ⟨g, dx, fl, hfl, hg, hm, F⟩ := R
    rw [hme]
    refine wpAny_noteX' (s := { s with heap := h', toks := tk' }) (env := X.me) (outer := X.outer) rfl rfl F hfl fun h₂ F₂ => ?_
    obtain ⟨oe, vs, he, hc, hdx, hd, T, oT, ts, y1, gT, hTe, hTd, hT, hdT, h3⟩ := F₂.eo
    refine wpAny_bind (wpAny_field (s := { s with heap := h₂, toks := tk' }) he hd y1 ?_)
    rw [if_neg (show ¬ ((Value.ref T == Value.none) = true) from by simp)]
    exact wpAny_setFlightX (s := { s with heap := h₂, toks := tk' }) F₂ fun h₃ F₃ => q e h₃ tk' ⟨g, dx, _, .inr (.inr rfl), hg, hm, F₃⟩
  let Inv : Nat → Shared → Prop := fun n s' => ∃ i ow' ρ' σ' h' tk', n = its.length - i ∧ i ≤ its.length ∧ s' = { s with heap := h', toks := tk' } ∧ SR X ow' ρ' h' σ' ∧ Ex X ow₁ ρ₁ h₁ ow' ρ' h' ∧ St i h' ∧ ow' h₁.objs.size ∧ h₁.objs.size ∉ ρ' ∧ JForR X target body (its.drop i) σ'
  refine codeAny_forLoop_any Inv (fun n s' hI => ?_) its.length ⟨0, _, _, _, _, _, rfl, Nat.zero_le _, rfl, S₂, e₂, st0, .inr rfl, Iρ, jf⟩
  obtain ⟨i, ow', ρ', σ', h', tk', hn, hle, rfl, S', e', st, oI, nI, jf⟩ := hI
  have hw : ∀ a ∈ [h₁.objs.size], ow' a ∧ h₁.get? a = none ∧ a ∉ ρ' ∧ a ≠ X.L ∧ a ≠ X.env.locals ∧ X.h₀.get? a = none := fun a m => by
    rw [List.mem_singleton.mp m]; exact ⟨oI, none_size h₁, nI, IL, Il, Ih⟩
  by_cases hlt : i < its.length
  · refine it.W.item i _ _ _ hlt st fun v h'' tk'' hP st' kp => ?_
    obtain ⟨d, hd, rv⟩ := it.val i v hP
    obtain ⟨S'', e''⟩ := S'.hid e' (h' := h'') kp hw (fun _ z => z) (fun _ z => .inl z) (fun b _ m => by rw [List.mem_singleton.mp m]; exact let ⟨o, e, _⟩ := it.alive _ _ st'; ⟨o, e⟩)
    have dr : its.drop i = d :: its.drop (i + 1) := by rw [List.drop_eq_getElem_cons hlt, (List.getElem?_eq_some_iff.mp hd).2]
    rw [dr] at jf
    have rv' : AR (Pz h'' ow') X.w ρ' v (.v d) := .v (S₁.vr e'' rv)
    have keepSt : ∀ {ow₃ ρ₃ h₃}, Ex X ow' ρ' h'' ow₃ ρ₃ h₃ → St (i + 1) h₃ ∧ ow₃ h₁.objs.size ∧ h₁.objs.size ∉ ρ₃ := fun {ow₃ ρ₃ h₃} ex => by
      refine ⟨it.W.frame _ _ _ st' fun b hb o e => ?_, ex.own _ oI, fun m => (ex.fresh _ m).elim nI fun z => ?_⟩
      · rcases it.notOw hb with rfl | nb
        · exact ex.keep _ o e nI Il IL
        · refine ex.keep b o e (fun m => ?_) (fun z => nb (z ▸ S₁.owl)) (fun z => nb (z ▸ S₁.owL))
          obtain ⟨o', p⟩ := (it.fp b hb).resolve_left (fun z => by subst z; exact nI m)
          have ob := (S''.off b m).1
          exact (e''.new b ob).elim nb fun z => no_get p.1 z
      · obtain ⟨o, e, _⟩ := it.alive _ _ st'; exact no_get e z
    obtain ⟨oI', eI', qI'⟩ := it.alive _ _ st'
    refine letOwned_quiet (s := { s with heap := h'', toks := tk'' }) eI' qI' ?_
    rcases jf with jf | jf
    · refine jf ow' ρ' { s with heap := h'', toks := tk'' } v S'' rv' _ _ fun _ _ σ₃ ow₃ ρ₃ h₃ tk₃ e₃ S₃ _ k₃ => ?_
      exact k₃ ow₃ ρ₃ { s with heap := h₃, toks := tk₃ } S₃ _ _ back
    · refine jf ow' ρ' { s with heap := h'', toks := tk'' } v S'' rv' _ _ fun _ _ σ₃ ow₃ ρ₃ h₃ tk₃ e₃ S₃ _ k₃ => ?_
      refine k₃ ow₃ ρ₃ { s with heap := h₃, toks := tk₃ } S₃ _ _ fun f sf σ₄ ow₄ ρ₄ h₄ tk₄ e₄ S₄ r₄ k₄ => ?_
      have e34 := e₃.trans e₄
      obtain ⟨st4, o4, n4⟩ := keepSt e34
      have e14 := e''.trans e34
      obtain ⟨rfl, k₄⟩ := k₄
      cases r₄ with
      | next => exact ⟨its.length - (i + 1), by omega, i + 1, ow₄, ρ₄, σ₄, h₄, tk₄, rfl, hlt, rfl, S₄, e14, st4, o4, n4, k₄⟩
  · obtain rfl : i = its.length := by omega
    rw [List.drop_length] at jf
    exact jf.elim
end
end
section
theorem kn_len (f : Fm) : (kn f).length ≤ 30 := by cases f <;> exact Nat.le_of_ble_eq_true (by kernel_rfl)
theorem long_len (p : Pk) : p.long.length ≤ 30 := by cases p <;> decide +kernel
theorem cat30 {x y : Str} (hx : x.length ≤ 200) (hy : y.length ≤ 200) : x.length + y.length ≤ sizeLine := by
  have : (400 : Nat) ≤ sizeLine := by decide +kernel
  omega
theorem app_len (x y : Str) : (x ++ y).length = x.length + y.length := by first | exact Str.length_append x y | exact Str.length_append | simp
def spChkP : Spec := fun as cel K => match as with
  | [.v x, .v (.str y), .v (.int z)] => ∃ (f : Fm) (p : Pk), x = f.sv ∧ y = p.long ∧ z = 0 ∧ cel = [] ∧ mayB f p = true ∧ K .none []
  | _ => False
def spChkS : Spec := fun as cel K => match as with
  | [.v x, .v (.str y), .v (.int z)] => ∃ (f : Fm) (c : Bool), x = f.sv ∧ y = cliS c ∧ z = 0 ∧ cel = [] ∧ sendB f c = true ∧ K .none []
  | _ => False
def rsChkP : List AV → Prop := fun as => ∃ (f : Fm) (p : Pk), as = [.v f.sv, .v (.str p.long), .v (.int 0)] ∧ mayB f p = false
def rsChkS : List AV → Prop := fun as => ∃ (f : Fm) (c : Bool), as = [.v f.sv, .v (.str (cliS c)), .v (.int 0)] ∧ sendB f c = false
def T318 : Tb := { glob := [("PROTOCOL_VIOLATION", .int 10), ("may_stand", .ref 275)], fn := [(275, spMay)], fnG := [], cls := [], field := [], meth := [] }
theorem chkp_run (w : World) : Rn spChkP T318 200 318 [] ["f", "packet", "frame_type"] w := fun as cel K h => by
  unfold spChkP at h
  split at h
  · obtain ⟨f, p, rfl, rfl, rfl, rfl, hm, k⟩ := h
    conv => whnf
    refine ⟨f, p, rfl, rfl, rfl, ?_⟩
    rw [hm]
    conv => whnf
    exact k
  · exact h.elim
theorem in318 (w : World) : FnAt 318 w := ⟨_, _, _, _, _, _, _, _, _, rfl, by kernel_rfl⟩
theorem bind318 (w : World) : Bnd (prm 318 w.params) ["f", "packet", "frame_type"] := bnd3 fun _ _ _ _ => by kernel_rfl
theorem ok318 (w : World) : FnOk w 318 2 16 spChkP :=
  FnOk.at (ns := ["f", "packet", "frame_type"]) (T := T318) (U := 13) (D := 1) 318 [] 200 (in318 w) (bind318 w) (by kernel_rfl) (fun as cel K h => by
    unfold spChkP at h
    split at h
    · rfl
    · exact h.elim) (tbOk (.cons (g_10 w) (.cons (g_52 w) .nil)) (.cons (ok275 w) (by decide) (by decide) (by kernel_rfl) .nil) .nil .nil .nil) (by decide) (chkp_run w)
def T325 : Tb := { glob := [("PROTOCOL_VIOLATION", .int 10), ("SERVER_ALONE", sSERVER_ALONE)], fn := [], fnG := [], cls := [], field := [], meth := [] }
theorem chks_run (w : World) : Rn spChkS T325 200 325 [] ["f", "sender", "frame_type"] w := fun as cel K h => by
  unfold spChkS at h
  split at h
  · obtain ⟨f, c, rfl, rfl, rfl, rfl, hm, k⟩ := h
    cases f
    case newToken =>
      cases c
      · conv => whnf
        exact k
      · cases hm
    case done =>
      cases c
      · conv => whnf
        exact k
      · cases hm
    all_goals
      conv => whnf
      exact k
  · exact h.elim
theorem in325 (w : World) : FnAt 325 w := ⟨_, _, _, _, _, _, _, _, _, rfl, by kernel_rfl⟩
theorem bind325 (w : World) : Bnd (prm 325 w.params) ["f", "sender", "frame_type"] := bnd3 fun _ _ _ _ => by kernel_rfl
theorem ok325 (w : World) : FnOk w 325 1 13 spChkS :=
  FnOk.at (ns := ["f", "sender", "frame_type"]) (T := T325) (U := 10) (D := 0) 325 [] 200 (in325 w) (bind325 w) (by kernel_rfl) (fun as cel K h => by
    unfold spChkS at h
    split at h
    · rfl
    · exact h.elim) (tbOk (.cons (g_10 w) (.cons (g_7 w) .nil)) .nil .nil .nil .nil) (by decide) (chks_run w)
theorem okk318 (w : World) : ScOk (scp 318 w.params) ["f", "packet", "frame_type"] := by kernel_rfl
theorem okk325 (w : World) : ScOk (scp 325 w.params) ["f", "sender", "frame_type"] := by kernel_rfl
theorem b318 (w : World) : ∃ q1 q2 q3 q4 q5 p1 p2 p3 p4 p5 p6 p7 p8 p9 p10 p11 p12 p13 p14 p15, bd 318 w.params = [.If (.UnaryOp .Not (.Call (.Name "may_stand" q1) [.Name "f" q2, .Name "packet" q3] [] q4) q5) [.Raise (some (.Call (.Name "QuicError" p1) [.Name "PROTOCOL_VIOLATION" p2, .Name "frame_type" p3,
    .BinOp (.BinOp (.BinOp (.Constant (.str "a ") 0 p4) .Add (.Subscript (.Name "f" p5) (.Constant (.int 0) 0 p6) p7) p8) .Add (.Constant (.str " frame in a packet of kind ") 0 p9) p10) .Add (.Name "packet" p11) p12] [] p13)) none p14] [] p15] :=
  ⟨_, _, _, _, _, _, _, _, _, _, _, _, _, _, _, _, _, _, _, _, rfl⟩
theorem b325 (w : World) : ∃ q1 q2 q3 q4 q5 q6 q7 q8 q9 p1 p2 p3 p4 p5 p6 p7 p8 p9 p10 p11 p12 p13, bd 325 w.params = [.If (.BoolOp .And [.Compare (.Subscript (.Name "f" q1) (.Constant (.int 0) 0 q2) q3) [.In] [.Name "SERVER_ALONE" q4] q5, .Compare (.Name "sender" q6) [.NotEq] [.Constant (.str "server") 0 q7] q8] q9) [.Raise (some (.Call (.Name "QuicError" p1) [.Name "PROTOCOL_VIOLATION" p2, .Name "frame_type" p3,
    .BinOp (.BinOp (.Constant (.str "a client sent a ") 0 p4) .Add (.Subscript (.Name "f" p5) (.Constant (.int 0) 0 p6) p7) p8) .Add (.Constant (.str " frame") 0 p9) p10] [] p11)) none p12] [] p13] :=
  ⟨_, _, _, _, _, _, _, _, _, _, _, _, _, _, _, _, _, _, _, _, _, _, rfl⟩
theorem rs318 (w : World) : FnRaise w 318 3 17 rsChkP := by
  refine FnRaise.of_body (D := 2) (U := 14) (ns := ["f", "packet", "frame_type"]) (in318 w) (bind318 w) (okk318 w) (fun as h => by obtain ⟨f, p, rfl, _⟩ := h; rfl) fun X as O hw hD hU ag hme h => ?_
  obtain ⟨f, p, rfl, hm⟩ := h
  have tb : TbOk X.w X.D X.U T318 := by rw [hw, hD, hU]; exact (tbOk (.cons (g_10 w) (.cons (g_52 w) .nil)) (.cons (ok275 w) (by decide) (by decide) (by kernel_rfl) .nil) .nil .nil .nil)
  have c : Ctx T318 X (ctAt 318 w 0 []) := ⟨O, ⟨ag.names, ag.vid, fun _ => ag.comp, quiet_of O⟩, tb, by rw [hU]; decide⟩
  have run : ∀ n t, run T318 n (ctAt 318 w 0 []) t → t.sound X n := fun n t => run_sound T318 n X _ t c
  have kind : ∀ y k, (scp 318 w.params).names.lookup y = k → X.env.kindOf y = k := fun y k z => by show X.env.scope.names.lookup y = k; rw [ag.names]; exact z
  obtain ⟨tl, hsv, hble⟩ := sv_head f
  obtain ⟨q1, q2, q3, q4, q5, p1, p2, p3, p4, p5, p6, p7, p8, p9, p10, p11, p12, p13, p14, p15, hb⟩ := b318 w
  rw [hb]
  refine JBR_here (JSR_If (run 100 (.t _ _ _) ?_))
  conv => whnf
  refine ⟨f, p, rfl, rfl, rfl, ?_⟩
  rw [hm]
  conv => whnf
  refine JBR_here (JSR_Raise O rfl (kind "QuicError" _ (by kernel_rfl)) (by omega) (by omega) ?_)
  generalize hσ : entSS (scp 318 w.params) ["f", "packet", "frame_type"] [.v f.sv, .v (.str p.long), .v (.int 0)] [] = σ
  have J1 : ∀ q, JE X (.Name "PROTOCOL_VIOLATION" q) σ (fun a σ₁ => a = .v (.int 10) ∧ σ₁ = σ) := fun q => run 100 (.e _ _ _) (by subst hσ; (conv => whnf); exact ⟨rfl, rfl⟩)
  have J2 : ∀ q, JE X (.Name "frame_type" q) σ (fun a σ₁ => a = .v (.int 0) ∧ σ₁ = σ) := fun q => run 100 (.e _ _ _) (by subst hσ; (conv => whnf); exact ⟨rfl, rfl⟩)
  have J3 : ∀ q, JE X (.Name "packet" q) σ (fun a σ₁ => a = .v (.str p.long) ∧ σ₁ = σ) := fun q => run 100 (.e _ _ _) (by subst hσ; (conv => whnf); exact ⟨rfl, rfl⟩)
  have J4 : ∀ q1 q2 q3, JE X (.Subscript (.Name "f" q1) (.Constant (.int 0) 0 q2) q3) σ (fun a σ₁ => a = .v (.str (kn f)) ∧ σ₁ = σ) := fun q1 q2 q3 => run 100 (.e _ _ _) (by subst hσ; rw [hsv]; (conv => whnf); exact Gd.mk hble ⟨rfl, rfl⟩)
  refine JL_cons rfl ((J1 p2).mono fun a σ₁ z => ?_)
  obtain ⟨rfl, rfl⟩ := z
  refine JL_cons rfl ((J2 p3).mono fun a σ₂ z => ?_)
  obtain ⟨rfl, rfl⟩ := z
  refine JL_cons rfl (JE_BinOp (JE_BinOp (JE_BinOp (JE_str ((J4 p5 p6 p7).mono fun a σ₃ z => ?_)))))
  obtain ⟨rfl, rfl⟩ := z
  have h1 := kn_len f
  have h2 := long_len p
  have h3 : ("a " : Str).length ≤ 30 := by decide +kernel
  have h4 : (" frame in a packet of kind " : Str).length ≤ 30 := by decide +kernel
  have h5 : (("a " : Str) ++ kn f).length ≤ 60 := by rw [app_len]; omega
  have h6 : ((("a " : Str) ++ kn f) ++ (" frame in a packet of kind " : Str)).length ≤ 90 := by rw [app_len]; omega
  refine cat_str (cat30 (by omega) (by omega)) (JE_str (cat_str (cat30 (by omega) (by omega)) ((J3 p11).mono fun a σ₄ z => ?_)))
  obtain ⟨rfl, rfl⟩ := z
  exact cat_str (cat30 (by omega) (by omega)) (JL_nil ⟨_, rfl, by rw [app_len]; omega⟩)
theorem rs325 (w : World) : FnRaise w 325 3 17 rsChkS := by
  refine FnRaise.of_body (D := 2) (U := 14) (ns := ["f", "sender", "frame_type"]) (in325 w) (bind325 w) (okk325 w) (fun as h => by obtain ⟨f, p, rfl, _⟩ := h; rfl) fun X as O hw hD hU ag hme h => ?_
  obtain ⟨f, p, rfl, hm⟩ := h
  have tb : TbOk X.w X.D X.U T325 := by rw [hw, hD, hU]; exact (tbOk (.cons (g_10 w) (.cons (g_7 w) .nil)) .nil .nil .nil .nil)
  have c : Ctx T325 X (ctAt 325 w 0 []) := ⟨O, ⟨ag.names, ag.vid, fun _ => ag.comp, quiet_of O⟩, tb, by rw [hU]; decide⟩
  have run : ∀ n t, run T325 n (ctAt 325 w 0 []) t → t.sound X n := fun n t => run_sound T325 n X _ t c
  have kind : ∀ y k, (scp 325 w.params).names.lookup y = k → X.env.kindOf y = k := fun y k z => by show X.env.scope.names.lookup y = k; rw [ag.names]; exact z
  obtain ⟨tl, hsv, hble⟩ := sv_head f
  obtain ⟨q1, q2, q3, q4, q5, q6, q7, q8, q9, p1, p2, p3, p4, p5, p6, p7, p8, p9, p10, p11, p12, p13, hb⟩ := b325 w
  rw [hb]
  have J : JT X (.BoolOp .And [.Compare (.Subscript (.Name "f" q1) (.Constant (.int 0) 0 q2) q3) [.In] [.Name "SERVER_ALONE" q4] q5, .Compare (.Name "sender" q6) [.NotEq] [.Constant (.str "server") 0 q7] q8] q9) (entSS (scp 325 w.params) ["f", "sender", "frame_type"] [.v f.sv, .v (.str (cliS p)), .v (.int 0)] []) (fun a σ₁ => a = true ∧ σ₁ = entSS (scp 325 w.params) ["f", "sender", "frame_type"] [.v f.sv, .v (.str (cliS p)), .v (.int 0)] []) := by
    refine run 100 (.t _ _ _) ?_
    cases p with
    | false => cases f <;> cases hm
    | true =>
      cases f
      case newToken =>
        conv => whnf
        exact ⟨rfl, rfl⟩
      case done =>
        conv => whnf
        exact ⟨rfl, rfl⟩
      all_goals cases hm
  refine JBR_here (JSR_If (J.mono fun a σ₁ z => ?_))
  obtain ⟨rfl, rfl⟩ := z
  refine JBR_here (JSR_Raise O rfl (kind "QuicError" _ (by kernel_rfl)) (by omega) (by omega) ?_)
  generalize hσ : entSS (scp 325 w.params) ["f", "sender", "frame_type"] [.v f.sv, .v (.str (cliS p)), .v (.int 0)] [] = σ
  have J1 : ∀ q, JE X (.Name "PROTOCOL_VIOLATION" q) σ (fun a σ₁ => a = .v (.int 10) ∧ σ₁ = σ) := fun q => run 100 (.e _ _ _) (by subst hσ; (conv => whnf); exact ⟨rfl, rfl⟩)
  have J2 : ∀ q, JE X (.Name "frame_type" q) σ (fun a σ₁ => a = .v (.int 0) ∧ σ₁ = σ) := fun q => run 100 (.e _ _ _) (by subst hσ; (conv => whnf); exact ⟨rfl, rfl⟩)
  have J4 : ∀ q1 q2 q3, JE X (.Subscript (.Name "f" q1) (.Constant (.int 0) 0 q2) q3) σ (fun a σ₁ => a = .v (.str (kn f)) ∧ σ₁ = σ) := fun q1 q2 q3 => run 100 (.e _ _ _) (by subst hσ; rw [hsv]; (conv => whnf); exact Gd.mk hble ⟨rfl, rfl⟩)
  refine JL_cons rfl ((J1 p2).mono fun a σ₁ z => ?_)
  obtain ⟨rfl, rfl⟩ := z
  refine JL_cons rfl ((J2 p3).mono fun a σ₂ z => ?_)
  obtain ⟨rfl, rfl⟩ := z
  refine JL_cons rfl (JE_BinOp (JE_BinOp (JE_str ((J4 p5 p6 p7).mono fun a σ₃ z => ?_))))
  obtain ⟨rfl, rfl⟩ := z
  have h1 := kn_len f
  have h3 : ("a client sent a " : Str).length ≤ 30 := by decide +kernel
  have h4 : (" frame" : Str).length ≤ 30 := by decide +kernel
  have h5 : (("a client sent a " : Str) ++ kn f).length ≤ 60 := by rw [app_len]; omega
  refine cat_str (cat30 (by omega) (by omega)) (JE_str ?_)
  exact cat_str (cat30 (by omega) (by omega)) (JL_nil ⟨_, rfl, by rw [app_len]; omega⟩)
end
section
theorem b332 (w : World) : ∃ p1 p2 p3 p4 p5 p6 p7 p8 p9 p10 p11 p12 p13 p14 p15, bd 332 w.params = [.For (.Name "f" p1) (.Name "row" p2) [.Expr (.Call (.Name "check_place" p3) [.Name "f" p4, .Name "packet" p5, .Constant (.int 0) 0 p6] [] p7) p8, .Expr (.Call (.Name "check_sender" p9) [.Name "f" p10, .Name "sender" p11, .Constant (.int 0) 0 p12] [] p13) p14] [] p15] :=
  ⟨_, _, _, _, _, _, _, _, _, _, _, _, _, _, _, rfl⟩
def okF (p : Pk) (c : Bool) (f : Fm) : Bool := mayB f p && sendB f c
section
variable {X : Fx} {σ : SS}
theorem JL3 (O : X.Ok) {x y : Str} {p1 p2 p3 pos : Pos} {d1 d2 : AV} {K : List AV → SS → Prop} (kx : X.env.kindOf x = some .local) (ky : X.env.kindOf y = some .local) (hx : (x == ("__debug__" : Str)) = false) (hy : (y == ("__debug__" : Str)) = false)
    (lx : lk x σ.loc = some d1) (ly : lk y σ.loc = some d2) (k : K [d1, d2, .v (.int 0)] σ) : JL X pos [.Name x p1, .Name y p2, .Constant (.int 0) 0 p3] σ K :=
  JL_cons rfl (JE_local O kx hx lx (JL_cons rfl (JE_local O ky hy ly (JL_cons rfl (JE_int (JL_nil k))))))
structure Lp (X : Fx) (w : World) : Prop where
  O : X.Ok
  hw : X.w = w
  D : 3 ≤ X.D
  U : 17 ≤ X.U
  n : X.env.scope.names = (scp 332 w.params).names
structure Lo (p : Pk) (c : Bool) (σ : SS) : Prop where
  p : lk "packet" σ.loc = some (.v (.str p.long))
  s : lk "sender" σ.loc = some (.v (.str (cliS c)))
  c : σ.cel = []
theorem Lp.kind {w : World} (L : Lp X w) (y : Str) (k : Option NameKind) (z : (scp 332 w.params).names.lookup y = k) : X.env.kindOf y = k := by show X.env.scope.names.lookup y = k; rw [L.n]; exact z
theorem okP_ {w : World} (L : Lp X w) {f : Fm} {p : Pk} {p3 p4 p5 p6 p7 p8 : Pos} {K : SF → SS → Prop} (lf : lk "f" σ.loc = some (.v f.sv)) (lp : lk "packet" σ.loc = some (.v (.str p.long))) (hm : mayB f p = true) (k : K .next σ) : JS X (.Expr (.Call (.Name "check_place" p3) [.Name "f" p4, .Name "packet" p5, .Constant (.int 0) 0 p6] [] p7) p8) σ K := by
  obtain ⟨O, rfl, hD, hU, hn⟩ := L
  have L : Lp X X.w := ⟨O, rfl, hD, hU, hn⟩
  refine JS_Expr (quiet_of O) rfl (JE_Call rfl (JE_glob O (L.kind "check_place" _ (by kernel_rfl)) (by decide) (v := .ref 318) (sv := .ref 318) (by kernel_rfl) (fun P _ => .ref 318) ⟨by kernel_rfl, ?_⟩))
  refine JL3 O (L.kind "f" _ (by kernel_rfl)) (L.kind "packet" _ (by kernel_rfl)) (by decide) (by decide) lf lp ?_
  exact JCall_of O (ok318 X.w) (by omega) (by omega) (Gd.mk rfl ⟨f, p, rfl, rfl, rfl, rfl, hm, k⟩)
theorem okS_ {w : World} (L : Lp X w) {f : Fm} {c : Bool} {p3 p4 p5 p6 p7 p8 : Pos} {K : SF → SS → Prop} (lf : lk "f" σ.loc = some (.v f.sv)) (lp : lk "sender" σ.loc = some (.v (.str (cliS c)))) (hm : sendB f c = true) (k : K .next σ) : JS X (.Expr (.Call (.Name "check_sender" p3) [.Name "f" p4, .Name "sender" p5, .Constant (.int 0) 0 p6] [] p7) p8) σ K := by
  obtain ⟨O, rfl, hD, hU, hn⟩ := L
  have L : Lp X X.w := ⟨O, rfl, hD, hU, hn⟩
  refine JS_Expr (quiet_of O) rfl (JE_Call rfl (JE_glob O (L.kind "check_sender" _ (by kernel_rfl)) (by decide) (v := .ref 325) (sv := .ref 325) (by kernel_rfl) (fun P _ => .ref 325) ⟨by kernel_rfl, ?_⟩))
  refine JL3 O (L.kind "f" _ (by kernel_rfl)) (L.kind "sender" _ (by kernel_rfl)) (by decide) (by decide) lf lp ?_
  exact JCall_of O (ok325 X.w) (by omega) (by omega) (Gd.mk rfl ⟨f, c, rfl, rfl, rfl, rfl, hm, k⟩)
theorem raP {w : World} (L : Lp X w) {f : Fm} {p : Pk} {p3 p4 p5 p6 p7 p8 : Pos} (lf : lk "f" σ.loc = some (.v f.sv)) (lp : lk "packet" σ.loc = some (.v (.str p.long))) (hm : mayB f p = false) : JSR X (.Expr (.Call (.Name "check_place" p3) [.Name "f" p4, .Name "packet" p5, .Constant (.int 0) 0 p6] [] p7) p8) σ := by
  obtain ⟨O, rfl, hD, hU, hn⟩ := L
  have L : Lp X X.w := ⟨O, rfl, hD, hU, hn⟩
  refine JSR_Expr (quiet_of O) rfl (JER_Call O (rs318 X.w) hD hU rfl (by kernel_rfl) (L.kind "check_place" _ (by kernel_rfl)) (by decide) (by kernel_rfl) ?_)
  exact JL3 O (L.kind "f" _ (by kernel_rfl)) (L.kind "packet" _ (by kernel_rfl)) (by decide) (by decide) lf lp ⟨rfl, f, p, rfl, hm⟩
theorem raS {w : World} (L : Lp X w) {f : Fm} {c : Bool} {p3 p4 p5 p6 p7 p8 : Pos} (lf : lk "f" σ.loc = some (.v f.sv)) (lp : lk "sender" σ.loc = some (.v (.str (cliS c)))) (hm : sendB f c = false) : JSR X (.Expr (.Call (.Name "check_sender" p3) [.Name "f" p4, .Name "sender" p5, .Constant (.int 0) 0 p6] [] p7) p8) σ := by
  obtain ⟨O, rfl, hD, hU, hn⟩ := L
  have L : Lp X X.w := ⟨O, rfl, hD, hU, hn⟩
  refine JSR_Expr (quiet_of O) rfl (JER_Call O (rs325 X.w) hD hU rfl (by kernel_rfl) (L.kind "check_sender" _ (by kernel_rfl)) (by decide) (by kernel_rfl) ?_)
  exact JL3 O (L.kind "f" _ (by kernel_rfl)) (L.kind "sender" _ (by kernel_rfl)) (by decide) (by decide) lf lp ⟨rfl, f, c, rfl, hm⟩
theorem Lo.st {p : Pk} {c : Bool} (H : Lo p c σ) (v : AV) : Lo p c ⟨("f", v) :: σ.loc, σ.cel⟩ := ⟨H.p, H.s, H.c⟩
theorem for_ok {w : World} (L : Lp X w) {p : Pk} {c : Bool} {p1 p3 p4 p5 p6 p7 p8 p9 p10 p11 p12 p13 p14 : Pos} {K : SF → SS → Prop} (k : ∀ σ', σ'.cel = [] → K .next σ') : ∀ (fs : List Fm) (σ : SS), Lo p c σ → fs.all (okF p c) = true →
    JFor X (.Name "f" p1) [.Expr (.Call (.Name "check_place" p3) [.Name "f" p4, .Name "packet" p5, .Constant (.int 0) 0 p6] [] p7) p8, .Expr (.Call (.Name "check_sender" p9) [.Name "f" p10, .Name "sender" p11, .Constant (.int 0) 0 p12] [] p13) p14] (fs.map Fm.sv) σ K
  | [], σ, H, _ => k σ H.c
  | f :: fs, σ, H, ha => by
    rw [List.all_cons] at ha
    obtain ⟨h1, h2⟩ := Bool.and_eq_true_iff.mp ha
    obtain ⟨m1, m2⟩ := Bool.and_eq_true_iff.mp h1
    refine JA_Name (JStore_loc L.O (L.kind "f" _ (by kernel_rfl)) ?_)
    refine JB_cons (okP_ L (f := f) (p := p) rfl (H.st _).p m1 ?_)
    refine JB_cons (okS_ L (f := f) (c := c) rfl (H.st _).s m2 ?_)
    exact JB_nil (for_ok L k fs _ (H.st _) h2)
theorem for_bad {w : World} (L : Lp X w) {p : Pk} {c : Bool} {p1 p3 p4 p5 p6 p7 p8 p9 p10 p11 p12 p13 p14 : Pos} : ∀ (fs : List Fm) (σ : SS), Lo p c σ → fs.all (okF p c) = false →
    JForR X (.Name "f" p1) [.Expr (.Call (.Name "check_place" p3) [.Name "f" p4, .Name "packet" p5, .Constant (.int 0) 0 p6] [] p7) p8, .Expr (.Call (.Name "check_sender" p9) [.Name "f" p10, .Name "sender" p11, .Constant (.int 0) 0 p12] [] p13) p14] (fs.map Fm.sv) σ
  | [], σ, H, ha => by cases ha
  | f :: fs, σ, H, ha => by
    rw [List.all_cons] at ha
    cases m1 : mayB f p with
    | false => exact .inl (JA_Name (JStore_loc L.O (L.kind "f" _ (by kernel_rfl)) (JBR_here (raP L (f := f) (p := p) rfl (H.st _).p m1))))
    | true =>
      cases m2 : sendB f c with
      | false => exact .inl (JA_Name (JStore_loc L.O (L.kind "f" _ (by kernel_rfl)) (JBR_next (okP_ L (f := f) (p := p) rfl (H.st _).p m1 ⟨rfl, JBR_here (raS L (f := f) (c := c) rfl (H.st _).s m2)⟩))))
      | true =>
        have h2 : fs.all (okF p c) = false := by
          have : okF p c f = true := by unfold okF; rw [m1, m2]; rfl
          rw [this, Bool.true_and] at ha; exact ha
        refine .inr (JA_Name (JStore_loc L.O (L.kind "f" _ (by kernel_rfl)) ?_))
        refine JB_cons (okP_ L (f := f) (p := p) rfl (H.st _).p m1 ?_)
        refine JB_cons (okS_ L (f := f) (c := c) rfl (H.st _).s m2 ?_)
        exact JB_nil ⟨rfl, for_bad L fs _ (H.st _) h2⟩
end
def spChkF : Spec := fun as cel K => match as with
  | [.v (.lst l), .v (.str y), .v (.str z)] => ∃ (fs : List Fm) (p : Pk) (c : Bool), l = fs.map Fm.sv ∧ y = p.long ∧ z = cliS c ∧ cel = [] ∧ fs.all (okF p c) = true ∧ K .none []
  | _ => False
def rsChkF : List AV → Prop := fun as => ∃ (fs : List Fm) (p : Pk) (c : Bool), as = [.v (.lst (fs.map Fm.sv)), .v (.str p.long), .v (.str (cliS c))] ∧ fs.all (okF p c) = false
theorem in332 (w : World) : FnAt 332 w := ⟨_, _, _, _, _, _, _, _, _, rfl, by kernel_rfl⟩
theorem bind332 (w : World) : Bnd (prm 332 w.params) ["row", "packet", "sender"] := bnd3 fun _ _ _ _ => by kernel_rfl
theorem okk332 (w : World) : ScOk (scp 332 w.params) ["row", "packet", "sender"] := by kernel_rfl
theorem ok332 (w : World) : FnOk w 332 4 20 spChkF := by
  refine FnOk.of_body (D := 3) (U := 17) (ns := ["row", "packet", "sender"]) (in332 w) (bind332 w) (okk332 w) (fun as cel K h => by
    unfold spChkF at h
    split at h
    · rfl
    · exact h.elim) fun X as cel K O hw hD hU ag h => ?_
  unfold spChkF at h
  split at h
  · obtain ⟨fs, p, c, rfl, rfl, rfl, rfl, ha, k⟩ := h
    obtain ⟨p1, p2, p3, p4, p5, p6, p7, p8, p9, p10, p11, p12, p13, p14, p15, hb⟩ := b332 w
    have L : Lp X w := ⟨O, hw, by omega, by omega, ag.names⟩
    rw [hb]
    refine JB_cons (JS_For O (fun _ => rfl) (JE_local O (L.kind "row" _ (by kernel_rfl)) (by decide) (by kernel_rfl) ⟨fs.map Fm.sv, Iters_lst O, for_ok L (fun σ' hc => ?_) fs _ ⟨by kernel_rfl, by kernel_rfl, by kernel_rfl⟩ ha⟩))
    refine JB_nil ?_
    obtain ⟨loc, cel⟩ := σ'
    obtain rfl : cel = [] := hc
    exact k
  · exact h.elim
theorem rs332 (w : World) : FnRaise w 332 4 20 rsChkF := by
  refine FnRaise.of_body (D := 3) (U := 17) (ns := ["row", "packet", "sender"]) (in332 w) (bind332 w) (okk332 w) (fun as h => by obtain ⟨fs, p, c, rfl, _⟩ := h; rfl) fun X as O hw hD hU ag hme h => ?_
  obtain ⟨fs, p, c, rfl, ha⟩ := h
  obtain ⟨p1, p2, p3, p4, p5, p6, p7, p8, p9, p10, p11, p12, p13, p14, p15, hb⟩ := b332 w
  have L : Lp X w := ⟨O, hw, by omega, by omega, ag.names⟩
  rw [hb]
  exact JBR_here (JSR_For O hme (fun _ => rfl) (JE_local O (L.kind "row" _ (by kernel_rfl)) (by decide) (by kernel_rfl) ⟨fs.map Fm.sv, Iters_lst O, for_bad L fs _ ⟨by kernel_rfl, by kernel_rfl, by kernel_rfl⟩ ha⟩))
end
section
theorem Kp.ns {g h : Heap} {fr : List Addr} {a : Addr} {m : Str → Option Value} (k : Kp g fr h) (n : g.Ns a m) : h.Ns a m := by
  obtain ⟨o, es, ep, ho, hd, r⟩ := n
  by_cases hm : a ∈ fr
  · obtain ⟨sl, z⟩ := k.slot a o ho hm; exact ⟨_, es, ep, z, hd, r⟩
  · exact ⟨o, es, ep, k.keep a o ho hm, hd, r⟩
theorem ns_same {h h' : Heap} {L a : Addr} {m : Str → Option Value} (hs : Heap.SameBut L h h') (na : a ≠ L) (n : h.Ns a m) : h'.Ns a m := by
  obtain ⟨o, es, ep, ho, r⟩ := n; exact ⟨o, es, ep, (hs.2 a na).trans ho, r⟩
theorem caught {X : Fx} (O : X.Ok) (hme : X.env = X.me) (hc : X.comp = none) (hL₀ : X.h₀.get? X.L = none) (hK : ∀ a o, (tp.heap_1 X.w.params).lookup a = some o → a ∉ frs (X.me :: X.outer))
    (kq : X.env.kindOf "QuicError" = some .globalImplicit) (kp_ : X.env.kindOf "PROTOCOL_VIOLATION" = some .globalImplicit) (ke : X.env.kindOf "e" = some .local)
    {p7 p8 p9 p10 p11 p12 p13 p14 p15 p16 : Pos} {e : Addr} {s : Shared} {Q : Flow → Shared → Prop} {E : Value → Shared → Prop} (R : RaisedX X e s.heap)
    (q : ∀ h' tk' tk'', Kp X.h₀ (frs X.outer) h' → Q (.ret (.str "refused" tk'')) { s with heap := h', toks := tk' }) :
    wpAny (model lawP X.w) X.A (noteFrame (.ref e) X.env) (fun _ s₂ => wpAny (model lawP X.w) X.A (setFlight (.ref e) none) (fun _ s₃ => wpAny (model lawP X.w) X.A (handleBy (.ref e) X.env
      [.ExceptHandler (some (.Name "QuicError" p7)) (some "e") [.Return (some (.IfExp (.Compare (.Attribute (.Name "e" p8) "code" p9) [.Eq] [.Name "PROTOCOL_VIOLATION" p10] p11) (.Constant (.str "refused") 0 p12) (.Constant (.str "refused otherwise") 0 p13) p14)) p15] p16]) Q E s₃) E s₂) E s := by
  obtain ⟨g, dx, fl, hfl, hg, ⟨m, gN⟩, F⟩ := R
  obtain ⟨mean, mg, mb, T⟩ := O.T
  have loc : X.env.locals = X.L := O.here hc
  have hp : (X.env.scope.kind == .class || (X.env.scope.kind == .module && X.env.locals != X.env.globals)) = false := by rw [O.kind]; rfl
  obtain ⟨gg, dr, oo, hh, tt, hs⟩ : ∃ gg dr oo hh tt, s = ⟨hh, gg, dr, tt, oo⟩ := ⟨_, _, _, _, _, rfl⟩
  subst hs
  have n1 : wpAny (model lawP X.w) X.A (noteFrame (.ref e) X.env) (fun _ s₂ => ∃ h₁, s₂ = ⟨h₁, gg, dr, tt, oo⟩ ∧ Fly g (X.me :: X.outer) 38 e dx (some (rawInt X.L)) h₁) E ⟨hh, gg, dr, tt, oo⟩ := by
    rw [hme]
    exact wpAny_noteX' (s := ⟨hh, gg, dr, tt, oo⟩) (env := X.me) (outer := X.outer) rfl rfl F hfl fun h₁ F₁ => ⟨h₁, rfl, F₁⟩
  refine wpAny_mono n1 (fun _ s₂ z => ?_) fun _ _ z => z
  obtain ⟨h₁, rfl, F₁⟩ := z
  refine wpAny_setFlightX (s := ⟨h₁, gg, dr, tt, oo⟩) (fr := none) F₁ fun h₂ F₂ => ?_
  -- the written part is still there
  have kin : ∀ {h : Heap}, Kp g (frs (X.me :: X.outer)) h → (tp.heap_1 X.w.params).In h := fun k a o z => k.keep a o (hg a o (O.K a o z)) (hK a o z)
  have glob : ∀ {h : Heap}, Kp g (frs (X.me :: X.outer)) h → h.Ns mainGlobals mg := fun k => k.ns (by obtain ⟨o, es, ep, ho, r⟩ := T.g; exact ⟨o, es, ep, hg _ _ ho, r⟩)
  obtain ⟨nm, qn, N, bs, sn, sub, ab, col, dd, k0, k1, k2, k3, k5, mN, hC, hN, hi, hno⟩ := exCls (kin F₂.kp) (ex_in X.w)
  obtain ⟨oe, vs, he, hec, hdx, hd, ht⟩ := F₂.eo
  refine wpAny_handleBy_cons (codeAny_handlers_test (Name_function_global O.kind kq (loadGlobal_global (by rw [O.glob]; exact glob F₂.kp) (mg_of O.K T.g (v := .ref 38) (by kernel_rfl)) ?_) (by decide))) (by intro q; cases q)
  refine wpAny_excMatches_sub_self hC he hec (by decide +kernel) ?_
  show codeAny _ _ _ _ _
  refine codeAny_handlers_suite_as ?_
  refine wpAny_setFlightX (s := ⟨h₂, gg, dr, tt, oo⟩) (fr := none) F₂ fun h₃ F₃ => ?_
  have nL : h₃.Ns X.env.locals m := by rw [loc]; exact F₃.kp.ns gN
  refine wpAny_storeName_local (s := ⟨h₃, gg, dr, tt, oo⟩) ke nL (fun h₄ hn₄ hs₄ => ?_) hp
  rw [loc] at hs₄
  obtain ⟨nm, qn, N, bs, sn, sub, ab, col, dd, k0, k1, k2, k3, k5, mN, hC₀, hN₀, hi, hno⟩ := exCls O.K (ex_in X.w)
  have c38 : 38 ∉ frs (X.me :: X.outer) := hK 38 _ (Classical.choose_spec (show ∃ o, (tp.heap_1 X.w.params).lookup 38 = some o from ⟨_, rfl⟩))
  have up : ∀ {a : Addr} {m : Str → Option Value}, X.h₀.Ns a m → g.Ns a m := fun n => by obtain ⟨o, es, ep, ho, r⟩ := n; exact ⟨o, es, ep, hg _ _ ho, r⟩
  have hC := F₃.kp.keep 38 _ (hg _ _ hC₀) c38
  have hN := F₃.kp.ns (up hN₀)
  have nL' : ∀ {a : Addr} {m : Str → Option Value}, X.h₀.Ns a m → a ≠ X.L := fun n z => by obtain ⟨o, es, ep, ho, r⟩ := n; rw [z, hL₀] at ho; cases ho
  obtain ⟨oe, vs, he, hec, hdx, hd, ht⟩ := F₃.eo
  obtain ⟨ff, hff⟩ := F₃.ff
  have eL : e ≠ X.L := fun z => frs_nf hff he hd (by rw [z]; exact .head _)
  have dL : dx ≠ X.L := fun z => F₃.dl (by rw [z]; exact .head _)
  have cL : 38 ≠ X.L := fun z => c38 (by rw [z]; exact .head _)
  refine wpAny_execs_cons (wpAny_Return_some (IfExp_ (wpAny_isTrue_Compare1 (Attribute_any_ (wpAny_Name (wpAny_loadName_local O.kind ke hn₄ (if_pos rfl) ?_) (by decide)) (by rfl)) rfl)))
  obtain ⟨m', tk, cN, hcode⟩ := F₃.cd
  refine getX PySem.F.attrBase_Exception ((hs₄.2 38 cL).trans hC) (ns_same hs₄ (nL' hN₀) hN) (hno _ (by decide)) (hno _ (by decide)) (hno _ (by decide)) lk_code ((hs₄.2 e eL).trans he) hec hd hdx (ns_same hs₄ dL cN) hcode rfl ?_
  obtain ⟨pv, epv, kpv⟩ : ∃ v, nsIn (tp.heap_1 X.w.params) mainGlobals "PROTOCOL_VIOLATION" = some (some v) ∧ KV X.w v (.int 10) := ⟨gv "PROTOCOL_VIOLATION" X.w.params, by kernel_rfl, fun P hP => .int _ _⟩
  obtain ⟨tpv, rfl⟩ := (kpv (fun a o => (tp.heap_1 X.w.params).lookup a = some o) (fun a o z => z)).int_inv
  refine Name_function_global O.kind kp_ (loadGlobal_global (by rw [O.glob]; exact ns_same hs₄ (nL' T.g) (glob F₃.kp)) (mg_of O.K T.g epv) ?_) (by decide)
  refine PyProof.Rows.eq_int (wpAny_truthy_bool ?_)
  refine wpAny_Constant_str ?_
  show wpAny _ _ _ _ _ _
  refine wpAny_nameGoes ke hn₄ hp fun h₅ m₅ hn₅ hs₅ => ?_
  rw [loc] at hs₅
  refine q h₅ _ _ ⟨fun b o z nb => ?_, fun b o z mb => ?_⟩
  · have nb1 : b ≠ X.L := fun y => by rw [y, hL₀] at z; cases z
    have nb2 : b ∉ frs (X.me :: X.outer) := fun y => (List.mem_cons.mp y).elim nb1 nb
    exact (hs₅.2 b nb1).trans ((hs₄.2 b nb1).trans (F₃.kp.keep b o (hg b o z) nb2))
  · have nb1 : b ≠ X.L := fun y => by rw [y, hL₀] at z; cases z
    obtain ⟨sl, y⟩ := F₃.kp.slot b o (hg b o z) (.tail _ mb)
    exact ⟨sl, (hs₅.2 b nb1).trans ((hs₄.2 b nb1).trans y)⟩
end
section
noncomputable def jSub (w : World) : Expr := match bd 487 w.params with
  | [.Try [.Expr (.Call _ [_, s, _] _ _) _] _ _ _ _, _] => s
  | _ => .Constant .none 0 default
theorem b487 (w : World) : ∃ p1 p2 p4 p5 p6 p7 p8 p9 p10 p11 p12 p13 p14 p15 p16 p17 p18 p19, bd 487 w.params = [.Try [.Expr (.Call (.Name "check_frames" p1) [.Name "row" p2, jSub w, .Name "sender" p4] [] p5) p6]
    [.ExceptHandler (some (.Name "QuicError" p7)) (some "e") [.Return (some (.IfExp (.Compare (.Attribute (.Name "e" p8) "code" p9) [.Eq] [.Name "PROTOCOL_VIOLATION" p10] p11) (.Constant (.str "refused") 0 p12) (.Constant (.str "refused otherwise") 0 p13) p14)) p15] p16] [] [] p17, .Return (some (.Constant (.str "let") 0 p18)) p19] :=
  ⟨_, _, _, _, _, _, _, _, _, _, _, _, _, _, _, _, _, _, rfl⟩
def spJn : Spec := fun as cel K => match as with
  | [.v (.lst l), .v (.str y), .v (.str z)] => ∃ (fs : List Fm) (p : Pk) (c : Bool), l = fs.map Fm.sv ∧ y = p.short ∧ z = cliS c ∧ cel = [] ∧ fs.all (okF p c) = true ∧ K (.str "let") []
  | _ => False
def T487 : Tb := { glob := [("check_frames", .ref 332), ("PROTOCOL_VIOLATION", .int 10), ("QuicError", .ref 38)], fn := [(332, spChkF)], fnG := [], cls := [], field := [], meth := [] }
theorem judged_run (w : World) : Rn spJn T487 200 487 [] ["row", "packet", "sender"] w := fun as cel K h => by
  unfold spJn at h
  split at h
  · obtain ⟨fs, p, c, rfl, rfl, rfl, rfl, ha, k⟩ := h
    cases p
    case z =>
      conv => whnf
      refine ⟨fs, .z, c, rfl, rfl, rfl, rfl, ha, ?_⟩
      conv => whnf
      exact k
    case i =>
      conv => whnf
      refine ⟨fs, .i, c, rfl, rfl, rfl, rfl, ha, ?_⟩
      conv => whnf
      exact k
    case s =>
      conv => whnf
      refine ⟨fs, .s, c, rfl, rfl, rfl, rfl, ha, ?_⟩
      conv => whnf
      exact k
    case h =>
      conv => whnf
      refine ⟨fs, .h, c, rfl, rfl, rfl, rfl, ha, ?_⟩
      conv => whnf
      exact k
  · exact h.elim
theorem in487 (w : World) : FnAt 487 w := ⟨_, _, _, _, _, _, _, _, _, rfl, by kernel_rfl⟩
theorem bind487 (w : World) : Bnd (prm 487 w.params) ["row", "packet", "sender"] := bnd3 fun _ _ _ _ => by kernel_rfl
theorem ok487 (w : World) : FnOk w 487 5 23 spJn :=
  FnOk.at (ns := ["row", "packet", "sender"]) (T := T487) (U := 20) (D := 4) 487 [] 200 (in487 w) (bind487 w) (by kernel_rfl) (fun as cel K h => by
    unfold spJn at h
    split at h
    · rfl
    · exact h.elim) (tbOk (.cons (g_61 w) (.cons (g_10 w) (.cons (g_86 w) .nil))) (.cons (ok332 w) (by decide) (by decide) (by kernel_rfl) .nil) .nil .nil .nil) (by decide) (judged_run w)
theorem okk487 (w : World) : ScOk (scp 487 w.params) ["row", "packet", "sender"] := by kernel_rfl
def FnOkX (w : World) (f : Addr) (D U : Nat) (sp : Spec) : Prop :=
  ∀ (X : Fx), X.Ok → X.w = w → X.dp + D < recursionLimit → X.un + U < cLine → (∃ mean mg mb, Top lq ll mean mg mb X.base) → ∀ (ow : Addr → Prop) (ρ : List Addr) (σ : SS) (s : Shared), SR X ow ρ s.heap σ → (∀ a ∈ frs X.outer, ow a) →
  ∀ (vs : List Value) (as : List AV) (K : SV → List SObj → Prop), ARs (Pz s.heap ow) w [] vs as → sp as [] K →
  ∀ (Q : Value → Shared → Prop), (∀ v r h' tk', Kp s.heap (frs (X.me :: X.outer)) h' → VR (Pz h' ow) w v r → K r [] → Q v { s with heap := h', toks := tk' }) →
  wpG (model lawP w) X.A (call (.ref f) vs) Q F0 s
theorem Kp.of_keep {g h : Heap} {fr : List Addr} (k : ∀ b o, g.get? b = some o → h.get? b = some o) : Kp g fr h := ⟨fun b o z _ => k b o z, fun b o z _ => ⟨o.slots, k b o z⟩⟩
def spJudged : Spec := fun as cel K => match as with
  | [.v (.lst l), .v (.str y), .v (.str z)] => ∃ (fs : List Fm) (p : Pk) (c : Bool), l = fs.map Fm.sv ∧ y = p.short ∧ z = cliS c ∧ cel = [] ∧ (fs.all (okF p c) = true → K (.str "let") []) ∧ (fs.all (okF p c) = false → K (.str "refused") [])
  | _ => False
theorem ok487x (w : World) : FnOkX w 487 5 23 spJudged := by
  intro X O hw hdp hun hT ow ρ σ s S hfo vs as K R hsp Q q
  unfold spJudged at hsp
  split at hsp
  · obtain ⟨fs, p, c, rfl, rfl, rfl, _, k1, k2⟩ := hsp
    cases ha : fs.all (okF p c) with
    | true =>
      refine .of (ok487 w X O hw hdp hun ow ρ σ s S [] [] vs _ K List.nodup_nil (fun a m => by cases m) Cels.nil R ⟨fs, p, c, rfl, rfl, rfl, rfl, ha, k1 ha⟩ Q F0 fun v r cel' h' tk' kp lv Cc rv k => ?_)
      have : cel' = [] := List.length_eq_zero_iff.mp Cc.len.symm
      subst this
      exact q v r h' tk' (.of_keep fun b o z => kp b o z (fun m => by cases m)) rv k
    | false =>
      refine .of (wpAny_call (enterAny (D := 4) (U := 20) (ns := ["row", "packet", "sender"]) (in487 w) (bind487 w) (okk487 w)
        X O hw hdp hun ow ρ σ s S [] [] vs _ List.nodup_nil (fun a m => by cases m) Cels.nil R rfl _ ?_))
      intro X' ca h₁ tk ⟨O', hw', hD, hU, ag, hout, hbase, hh, hL, hcomp, hA, hfr, hme, keep₁, caBig, S'⟩
      subst hw'
      have tb : TbOk X'.w X'.D X'.U T487 := by rw [hD, hU]; exact (tbOk (.cons (g_61 X'.w) (.cons (g_10 X'.w) (.cons (g_86 X'.w) .nil))) (.cons (ok332 X'.w) (by decide) (by decide) (by kernel_rfl) .nil) .nil .nil .nil)
      have cx : Ctx T487 X' (ctAt 487 X'.w 0 []) := ⟨O', ⟨ag.names, ag.vid, fun _ => ag.comp, quiet_of O'⟩, tb, by rw [hU]; decide⟩
      have run : ∀ n t, run T487 n (ctAt 487 X'.w 0 []) t → t.sound X' n := fun n t => run_sound T487 n X' _ t cx
      have kind : ∀ y k, (scp 487 X'.w.params).names.lookup y = k → X'.env.kindOf y = k := fun y k z => by show X'.env.scope.names.lookup y = k; rw [ag.names]; exact z
      obtain ⟨p1, p2, p4, p5, p6, p7, p8, p9, p10, p11, p12, p13, p14, p15, p16, p17, p18, p19, hb⟩ := b487 X'.w
      rw [hb]
      have J1 : ∀ q, JE X' (.Name "row" q) (entSS (scp 487 X'.w.params) ["row", "packet", "sender"] [.v (.lst (fs.map Fm.sv)), .v (.str p.short), .v (.str (cliS c))] []) (fun a σ₁ => a = .v (.lst (fs.map Fm.sv)) ∧ σ₁ = entSS (scp 487 X'.w.params) ["row", "packet", "sender"] [.v (.lst (fs.map Fm.sv)), .v (.str p.short), .v (.str (cliS c))] []) := fun q => run 100 (.e _ _ _) (by (conv => whnf); exact ⟨rfl, rfl⟩)
      have J2 : JE X' (jSub X'.w) (entSS (scp 487 X'.w.params) ["row", "packet", "sender"] [.v (.lst (fs.map Fm.sv)), .v (.str p.short), .v (.str (cliS c))] []) (fun a σ₁ => a = .v (.str p.long) ∧ σ₁ = entSS (scp 487 X'.w.params) ["row", "packet", "sender"] [.v (.lst (fs.map Fm.sv)), .v (.str p.short), .v (.str (cliS c))] []) := run 100 (.e _ _ _) (by
        cases p
        all_goals
          (conv => whnf)
          exact ⟨rfl, rfl⟩)
      have J3 : ∀ q, JE X' (.Name "sender" q) (entSS (scp 487 X'.w.params) ["row", "packet", "sender"] [.v (.lst (fs.map Fm.sv)), .v (.str p.short), .v (.str (cliS c))] []) (fun a σ₁ => a = .v (.str (cliS c)) ∧ σ₁ = entSS (scp 487 X'.w.params) ["row", "packet", "sender"] [.v (.lst (fs.map Fm.sv)), .v (.str p.short), .v (.str (cliS c))] []) := fun q => run 100 (.e _ _ _) (by (conv => whnf); exact ⟨rfl, rfl⟩)
      have JB0 : ∀ js, noStar [.Name "row" p2, js, .Name "sender" p4] = true → noStar [js, .Name "sender" p4] = true → JE X' js (entSS (scp 487 X'.w.params) ["row", "packet", "sender"] [.v (.lst (fs.map Fm.sv)), .v (.str p.short), .v (.str (cliS c))] []) (fun a σ₁ => a = .v (.str p.long) ∧ σ₁ = entSS (scp 487 X'.w.params) ["row", "packet", "sender"] [.v (.lst (fs.map Fm.sv)), .v (.str p.short), .v (.str (cliS c))] []) → JBR X' [.Expr (.Call (.Name "check_frames" p1) [.Name "row" p2, js, .Name "sender" p4] [] p5) p6] (entSS (scp 487 X'.w.params) ["row", "packet", "sender"] [.v (.lst (fs.map Fm.sv)), .v (.str p.short), .v (.str (cliS c))] []) := by
        intro js n1 n2 J2
        refine JBR_here (JSR_Expr (quiet_of O') (swaps_false rfl) (JER_Call O' (rs332 X'.w) (by omega) (by omega) n1 (by kernel_rfl) (kind "check_frames" _ (by kernel_rfl)) (by decide) (by kernel_rfl) ?_))
        refine JL_cons (starEach_cons n1) ((J1 p2).mono fun a σ₁ z => ?_)
        obtain ⟨rfl, rfl⟩ := z
        refine JL_cons (starEach_cons n2) (J2.mono fun a σ₂ z => ?_)
        obtain ⟨rfl, rfl⟩ := z
        refine JL_cons rfl ((J3 p4).mono fun a σ₃ z => ?_)
        obtain ⟨rfl, rfl⟩ := z
        exact JL_nil ⟨rfl, fs, p, c, rfl, ha⟩
      have JB' := JB0 (jSub X'.w) (by kernel_rfl) (by kernel_rfl) J2
      refine wpAny_execs_cons (wpAny_Try_except (JB' _ _ { s with heap := h₁, toks := tk } S' _ _ fun e h' tk' R => ?_))
      refine caught O' hme hcomp (by rw [hh, hL]; exact none_size s.heap) ?_ (kind "QuicError" _ (by kernel_rfl)) (kind "PROTOCOL_VIOLATION" _ (by kernel_rfl)) (kind "e" _ (by kernel_rfl)) (s := { s with heap := h', toks := tk' }) R fun h₂ tk₂ tk₃ kp => ?_
      rotate_left
      · rw [hh, hout] at kp
        exact q _ _ h₂ tk₂ kp (.str _ _) (k2 ha)
      · intro a o z m
        rw [hout] at m
        have nz := (S.kf a o (by rw [hw]; exact z)).2
        rcases List.mem_cons.mp m with m | m
        · have := (S.kf a o (by rw [hw]; exact z)).1
          rw [m, hL] at this
          exact no_get this (none_size s.heap)
        · rcases List.mem_cons.mp m with m | m
          · exact nz (m ▸ S.owL)
          · exact nz (hfo a m)
  · exact hsp.elim
end
section
structure Xc (X X₂ : Fx) : Prop where
  eq : X₂ = { X with h₀ := X₂.h₀ }
  ok : X₂.Ok
  turn : KtsTurn (frs X.outer) X.h₀ X₂.h₀
theorem SR.reset {X : Fx} (O : X.Ok) (hT : ∃ mean mg mb, Top lq ll mean mg mb X.base) {ow : Addr → Prop} {ρ : List Addr} {h h' : Heap} {σ : SS} (S : SR X ow ρ h σ) (hfo : ∀ a ∈ frs X.outer, ow a) (k : Kp h (frs (X.me :: X.outer)) h') :
    ∃ X₂, Xc X X₂ ∧ SR X₂ ow ρ h' σ := by
  obtain ⟨mf, ml, F, n, c1, c2, l⟩ := S.fr
  have nL : X.h₀.get? X.L = none := kts_self F
  have mem : ∀ b ∈ frs X.outer, X.base.get? b = none ∧ ∃ o, X.h₀.get? b = some o := fun b m => by
    obtain ⟨z, o, e, _⟩ := O.below.frames.mem m; exact ⟨z, o, e⟩
  have nb : ∀ b o, X.h₀.get? b = some o → b ∉ frs X.outer → b ∉ frs (X.me :: X.outer) := fun b o e z m => (List.mem_cons.mp m).elim (fun y => by rw [y, nL] at e; cases e) z
  obtain ⟨T, up⟩ := kts_turn_at (h := h') (fs := frs X.outer) (g := X.h₀) (fun b m => (mem b m).2) (fun b o e z => k.keep b o (F.keep b o e) (nb b o e z)) (fun b o e m => k.slot b o (F.keep b o e) (.tail _ m))
  have own : ∀ b ∈ frs (X.me :: X.outer), ow b := fun b m => (List.mem_cons.mp m).elim (fun y => y ▸ S.owL) (hfo b)
  have hp : ∀ b o, Pz h ow b o → Pz h' ow b o := fun b o p => ⟨k.keep b o p.1 fun m => p.2 (own b m), p.2⟩
  have stays : X.base.StaysIn (ktsHeap h' (frs X.outer) X.h₀) := fun b o e => T.other b o (O.below.stays b o e) fun m => by rw [(mem b m).1] at e; cases e
  have lv : ∀ b o, h.get? b = some o → ∃ o', h'.get? b = some o' := fun b o e => by
    by_cases m : b ∈ frs (X.me :: X.outer)
    · obtain ⟨sl, z⟩ := k.slot b o e m; exact ⟨_, z⟩
    · exact ⟨o, k.keep b o e m⟩
  obtain ⟨mean, mg, mb, TB⟩ := hT
  have nρ : ∀ a ∈ ρ, a ∉ frs (X.me :: X.outer) := fun a ha m => by
    have q := S.off a ha
    rcases List.mem_cons.mp m with y | m
    · exact q.2.2.1 y
    · obtain ⟨o, e⟩ := (mem a m).2; rw [q.2.1] at e; cases e
  generalize hg : ktsHeap h' (frs X.outer) X.h₀ = g' at T up stays
  refine ⟨{ X with h₀ := g' }, ⟨rfl, ?_, T⟩, ?_⟩
  · exact { below := ⟨O.below.stack, stays, O.below.frames.of_keeps fun b o e _ => by obtain ⟨sl, z⟩ := T.up e; exact ⟨_, z, rfl⟩⟩
            K := fun a o z => T.other a o (O.K a o z) fun m => (S.kf a o z).2 (hfo a m)
            T := ⟨mean, mg, mb, TB.keeps stays⟩
            ck := O.ck, kind := O.kind, glob := O.glob, bins := O.bins, here := O.here
            there := fun m e => ⟨(O.there m e).1, T.none_ _ (O.there m e).2⟩
            room := O.room, units := O.units }
  · exact ⟨⟨mf, ml, ⟨k.ns F.ns, up, by rw [T.size]; exact F.above⟩, k.ns n, c1, c2, fun x sv e => let ⟨v, e1, e2⟩ := l x sv e; ⟨v, e1, e2.mono hp (pfx ρ)⟩⟩, S.len,
      fun i a o e1 e2 => let ⟨ob, e3, e4⟩ := S.cel i a o e1 e2; ⟨ob, k.keep a ob e3 (nρ a (List.mem_of_getElem? e1)), e4.mono hp (pfx ρ)⟩, S.nd,
      fun a ha => ⟨(S.off a ha).1, T.none_ _ (S.off a ha).2.1, (S.off a ha).2.2⟩, S.owL, S.owl, fun a q => let ⟨o, e⟩ := S.low a q; lv a o e, S.var, fun a o z => hp a o (S.kf a o z)⟩
theorem Xc.refl {X : Fx} (O : X.Ok) : Xc X X := ⟨rfl, O, .refl⟩
end
section
structure Bx (X : Fx) (ow : Addr → Prop) : Prop where
  T : ∃ mean mg mb, Top lq ll mean mg mb X.base
  f : ∀ a ∈ frs X.outer, ow a
theorem Bx.up {X : Fx} {ow ow' : Addr → Prop} (B : Bx X ow) (h : ∀ b, ow b → ow' b) : Bx X ow' := ⟨B.T, fun a m => h a (B.f a m)⟩
def JBX (X : Fx) (st : List Stmt) (σ : SS) (K : Bool → Prop) : Prop := ∀ ow ρ s, SR X ow ρ s.heap σ → Bx X ow → ∀ (Q : Flow → Shared → Prop), (∀ b h' tk', Kp X.h₀ (frs X.outer) h' → K b → Q (.ret (.bool b)) { s with heap := h', toks := tk' }) → wpG (model lawP X.w) X.A (execs st X.env) Q F0 s
def JTX (X : Fx) (e : Expr) (σ : SS) (K : Bool → Fx → SS → Prop) : Prop := ∀ ow ρ s, SR X ow ρ s.heap σ → Bx X ow → ∀ (Q : Bool → Shared → Prop), (∀ b X₂ ow₂ ρ₂ σ₂ h₂ tk₂, Xc X X₂ → SR X₂ ow₂ ρ₂ h₂ σ₂ → Bx X₂ ow₂ → K b X₂ σ₂ → Q b { s with heap := h₂, toks := tk₂ }) → wpG (model lawP X.w) X.A (isTrue e X.env (eval e X.env)) Q F0 s
def JEX (X : Fx) (e : Expr) (σ : SS) (K : SV → Fx → SS → Prop) : Prop := ∀ ow ρ s, SR X ow ρ s.heap σ → Bx X ow → ∀ (Q : Value → Shared → Prop), (∀ v r X₂ ow₂ ρ₂ σ₂ h₂ tk₂, Xc X X₂ → SR X₂ ow₂ ρ₂ h₂ σ₂ → Bx X₂ ow₂ → VR (Pz h₂ ow₂) X.w v r → K r X₂ σ₂ → Q v { s with heap := h₂, toks := tk₂ }) → wpG (model lawP X.w) X.A (eval e X.env) Q F0 s
section
variable {X : Fx} {σ : SS} {K : Bool → Prop}
theorem Xc.kp {X X₂ : Fx} {h' : Heap} (c : Xc X X₂) (k : Kp X₂.h₀ (frs X₂.outer) h') : Kp X.h₀ (frs X.outer) h' := by
  have e : X₂.outer = X.outer := by rw [c.eq]
  rw [e] at k
  refine ⟨fun b o z nb => k.keep b o (c.turn.other b o z nb) nb, fun b o z m => ?_⟩
  obtain ⟨sl, y⟩ := c.turn.frame b o z m
  obtain ⟨sl', y'⟩ := k.slot b _ y m
  exact ⟨sl', y'⟩
theorem JBX_step {st : Stmt} {rest : List Stmt} (h : JSG X st σ fun f σ₁ => match f with | .next => JBX X rest σ₁ K | .ret v => ∃ b, v = .v (.bool b) ∧ K b | _ => False) : JBX X (st :: rest) σ K := by
  intro ow ρ s S B Q q
  refine G_execs_cons (h ow ρ s S _ fun a sa σ₁ ow₁ ρ₁ h₁ tk₁ e₁ S₁ r₁ k₁ => ?_)
  cases r₁ with
  | next => exact k₁ ow₁ ρ₁ { s with heap := h₁, toks := tk₁ } S₁ (B.up e₁.own) Q q
  | brk => exact k₁.elim
  | cont => exact k₁.elim
  | ret r =>
    obtain ⟨b, rfl, k⟩ := k₁
    cases r.inv
    obtain ⟨mf, ml, F, n, c1, c2, l⟩ := S₁.fr
    exact q b h₁ tk₁ (.of_keep F.keep) k
theorem JBX_IfX {t : Expr} {a rest : List Stmt} {pos : Pos} (h : JTX X t σ fun b X₂ σ₂ => Br b (JBX X₂ a σ₂ K) (JBX X₂ rest σ₂ K)) : JBX X (.If t a [] pos :: rest) σ K := by
  intro ow ρ s S B Q q
  refine G_execs_cons (G_If (h ow ρ s S B _ fun b X₂ ow₂ ρ₂ σ₂ h₂ tk₂ c S₂ B₂ k => ?_))
  have eA : X₂.A = X.A := by rw [c.eq]
  have eE : X₂.env = X.env := by rw [c.eq]
  have eW : X₂.w = X.w := by rw [c.eq]
  cases b with
  | true =>
    have go := k ow₂ ρ₂ { s with heap := h₂, toks := tk₂ } S₂ B₂
    rw [eA, eE, eW] at go
    exact go _ fun b h' tk' kp kb => q b h' tk' (c.kp kp) kb
  | false =>
    have := k ow₂ ρ₂ { s with heap := h₂, toks := tk₂ } S₂ B₂ _ fun b h' tk' kp kb => q b h' tk' (c.kp kp) kb
    rw [eA, eE, eW] at this
    exact G_execs_nil this
theorem JEX_Call (O : X.Ok) {K : SV → Fx → SS → Prop} {f : Addr} {D U : Nat} {sp : Spec} {x : Str} {px pos : Pos} {a : Expr} {args : List Expr} (hf : FnOkX X.w f D U sp) (hD : D ≤ X.D) (hU : U ≤ X.U) (hs : noStar (a :: args) = true) (hk : keepIn (tp.heap_1 X.w.params) (.ref f) = true)
    (hx : X.env.kindOf x = some .globalImplicit) (hd : (x == ("__debug__" : Str)) = false) (e : nsIn (tp.heap_1 X.w.params) mainGlobals x = some (some (.ref f)))
    (h : JLG X pos (a :: args) σ fun as σ₁ => plains as = true ∧ sp as [] fun r _ => ∀ X₂, Xc X X₂ → K r X₂ σ₁) : JEX X (.Call (.Name x px) (a :: args) [] pos) σ K := by
  intro ow ρ s S B Q q
  have room := O.room
  have units := O.units
  refine G_Call (.of (name_glob O S hx hd e ?_))
  refine G_callWith_K (noStar_plain hs) hk ?_
  have sp' : backTo pos (starEach (a :: args) X.env) = (false, eval a X.env) :: backTo pos (starEach args X.env) := by rw [starEach_cons hs]; rfl
  rw [sp']
  refine G_evalArgs ?_
  rw [← sp']
  refine h ow ρ s S _ fun vs as σ₁ ow₁ ρ₁ h₁ tk₁ e₁ S₁ r₁ k₁ => ⟨S₁.kin, ?_⟩
  have B₁ := B.up e₁.own
  refine hf X O rfl (by omega) (by omega) B.T ow₁ ρ₁ σ₁ { s with heap := h₁, toks := tk₁ } S₁ B₁.f vs as _ (r₁.plain k₁.1) k₁.2 _ fun v r h' tk' kp rv k => ?_
  obtain ⟨X₂, c, S₂⟩ := S₁.reset O B.T B₁.f kp
  refine q v r X₂ ow₁ ρ₁ σ₁ h' tk' c S₂ ⟨?_, ?_⟩ rv (k X₂ c)
  · have : X₂.base = X.base := by rw [c.eq]
    rw [this]; exact B.T
  · have : X₂.outer = X.outer := by rw [c.eq]
    rw [this]; exact B₁.f
theorem JTX_Not {x : Expr} {pos : Pos} {K : Bool → Fx → SS → Prop} (h : JTX X x σ fun b X₂ σ₂ => K (!b) X₂ σ₂) : JTX X (.UnaryOp .Not x pos) σ K := fun ow ρ s S B Q q =>
  G_isTrue_not (h ow ρ s S B _ fun b X₂ ow₂ ρ₂ σ₂ h₂ tk₂ c S₂ B₂ k => q (!b) X₂ ow₂ ρ₂ σ₂ h₂ tk₂ c S₂ B₂ k)
theorem JTX_bool {e : Expr} {K : Bool → Fx → SS → Prop} (h : JEX X e σ fun v X₂ σ₂ => ∃ b, v = .bool b ∧ K b X₂ σ₂) (hp : isTrue e X.env (eval e X.env) = (do let v ← eval e X.env; standAt (Expr.pos e); holding [v] (truthy v))) : JTX X e σ K := fun ow ρ s S B Q q =>
  G_isTrue_plain (h ow ρ s S B _ fun v r X₂ ow₂ ρ₂ σ₂ h₂ tk₂ c S₂ B₂ rv k => by
    obtain ⟨b, rfl, k⟩ := k
    cases rv
    exact .of (wpAny_truthy_bool (q b X₂ ow₂ ρ₂ σ₂ h₂ tk₂ c S₂ B₂ k))) hp
theorem JTX_Compare {l r : Expr} {op : CmpOp} {pos : Pos} {K : Bool → Fx → SS → Prop} (hm : behindInMarks op r = false)
    (h : JEX X l σ fun a X₂ σ₂ => JE X₂ r σ₂ fun b σ₃ => J2 X₂ (compareOp op) (.v a) b σ₃ fun c σ₄ => JTr X₂ c σ₄ fun t σ₅ => K t X₂ σ₅) : JTX X (.Compare l [op] [r] pos) σ K := by
  intro ow ρ s S B Q q
  refine G_isTrue_Compare1 hm (h ow ρ s S B _ fun v a X₂ ow₂ ρ₂ σ₂ h₂ tk₂ c S₂ B₂ rv k => ?_)
  have eA : X₂.A = X.A := by rw [c.eq]
  have eE : X₂.env = X.env := by rw [c.eq]
  have eW : X₂.w = X.w := by rw [c.eq]
  rw [← eA, ← eE, ← eW]
  rw [← eW] at rv
  refine .of (k ow₂ ρ₂ { s with heap := h₂, toks := tk₂ } S₂ _ _ fun v3 b σ₃ ow₃ ρ₃ h₃ tk₃ e₃ S₃ r₃ k₃ => ?_)
  refine .of (k₃ ow₃ ρ₃ { s with heap := h₃, toks := tk₃ } v v3 S₃ (S₂.ar e₃ (.v rv)) r₃ _ _ fun v4 d σ₄ ow₄ ρ₄ h₄ tk₄ e₄ S₄ r₄ k₄ => ?_)
  refine .of (k₄ ow₄ ρ₄ { s with heap := h₄, toks := tk₄ } v4 S₄ r₄ _ _ fun t t' σ₅ ow₅ ρ₅ h₅ tk₅ e₅ S₅ r₅ k₅ => ?_)
  obtain rfl : t = t' := r₅
  exact q t X₂ ow₅ ρ₅ σ₅ h₅ tk₅ c S₅ (B₂.up fun b z => e₅.own b (e₄.own b (e₃.own b z))) k₅
theorem JBX_RetX {e : Expr} {rest : List Stmt} {pos : Pos} (h : JEX X e σ fun v X₂ σ₂ => ∃ b, v = .bool b ∧ K b) : JBX X (.Return (some e) pos :: rest) σ K := by
  intro ow ρ s S B Q q
  refine G_execs_cons (G_Return (h ow ρ s S B _ fun v r X₂ ow₂ ρ₂ σ₂ h₂ tk₂ c S₂ B₂ rv k => ?_))
  obtain ⟨b, rfl, k⟩ := k
  cases rv
  obtain ⟨mf, ml, F, n, c1, c2, l⟩ := S₂.fr
  exact q b h₂ tk₂ (c.kp (.of_keep F.keep)) k
theorem JEX_Or {a b : Expr} {pos : Pos} {K : SV → Fx → SS → Prop} (O : X.Ok) (h : JE X a σ fun v σ₁ => ∃ t, v = .v (.bool t) ∧ (t = true → ∀ X₂, Xc X X₂ → K (.bool true) X₂ σ₁) ∧ (t = false → JEX X b σ₁ K))
    (hb : eval (.BoolOp .Or [b] pos) X.env = eval b X.env) : JEX X (.BoolOp .Or [a, b] pos) σ K := by
  intro ow ρ s S B Q q
  refine G_BoolOp_or (.of (h ow ρ s S _ _ fun v sv σ₁ ow₁ ρ₁ h₁ tk₁ e₁ S₁ r₁ k₁ => ?_))
  obtain ⟨t, rfl, k1, k2⟩ := k₁
  cases r₁.inv
  refine .of (wpAny_truthy_bool ?_)
  have B₁ := B.up e₁.own
  cases t with
  | true => exact q _ _ X ow₁ ρ₁ σ₁ h₁ tk₁ (.refl O) S₁ B₁ (.bool _) (k1 rfl X (.refl O))
  | false =>
    show wpG _ _ (eval (.BoolOp .Or [b] pos) X.env) _ _ _
    rw [hb]
    exact k2 rfl ow₁ ρ₁ { s with heap := h₁, toks := tk₁ } S₁ B₁ Q q
end
end
section
theorem FnOkX.of_body {w : World} {f : Addr} {D U : Nat} {sp : Spec} {qual : Str} {params : Arguments} {body : List Stmt} {sc : Scope} {ns : List Str}
    (hf : FnIn w f qual params body sc) (hb : Bnd params ns)
    (hc : ScOk sc ns)
    (hlen : ∀ as K, sp as [] K → as.length = ns.length)
    (h : ∀ (X : Fx) (as : List AV) (K : SV → List SObj → Prop), X.Ok → X.w = w → X.D = D → X.U = U → Agr X (cxOf sc 0) → X.env = X.me → sp as [] K → JBX X body (entSS sc ns as []) (fun b => K (.bool b) [])) : FnOkX w f (D + 1) (U + 3) sp := by
  intro X O hw hdp hun hT ow ρ σ s S hfo vs as K R hsp Q q
  refine wpG_call (enterG hf hb hc
    X O hw hdp hun ow ρ σ s S [] [] vs as List.nodup_nil (fun a m => by cases m) Cels.nil R (hlen _ _ hsp) _ ?_)
  intro X' ca h₁ tk ⟨O', hw', hD, hU, ag, hout, hbase, hh, hL, hcomp, hA, hfr, hme, keep₁, caBig, S'⟩
  have J := h X' as K O' hw' hD hU ag hme hsp
  subst hw'
  refine J _ _ { s with heap := h₁, toks := tk } S' ⟨by rw [hbase]; exact hT, fun a m => ?_⟩ _ fun b h' tk' kp kb => ?_
  · rw [hout] at m
    rcases List.mem_cons.mp m with m | m
    · exact .inl (m ▸ S.owL)
    · exact .inl (hfo a m)
  · rw [hh, hout] at kp
    exact q (.bool b) (.bool b) h' tk' kp (.bool b) kb
end
section
theorem pf_eq (f : Fm) : vb 0 f.told ++ ((tlP f).map wl).flatten = pf f := by
  have hv : vb 0 f.told = vb (lv f.told) f.told := by rw [told_lv]
  rw [hv]
  cases f with
  | ack d low e => cases e <;> simp [tlP, ackT, wl, pf, nb, ackN, Fm.told, List.flatten_cons]
  | close c ft l => cases ft <;> simp [tlP, closeT, wl, pf, nb, closeN, Fm.told, cn]
  | stream n o l fin => cases fin <;> simp [tlP, wl, pf, nb, stN, Fm.told, cn]
  | maxStreams u n => cases u <;> simp [tlP, wl, pf, nb, msN, Fm.told]
  | _ => simp [tlP, wl, pf, nb, Fm.told, cn]
theorem nm_of {n : Int} (h0 : 0 ≤ n) (h1 : n < 4611686018427387904) : Nm (lv n) n := by
  unfold lv
  split
  · exact ⟨.inl rfl, h0, by assumption⟩
  · split
    · exact ⟨.inr (.inl rfl), h0, by assumption⟩
    · split
      · exact ⟨.inr (.inr (.inl rfl)), h0, by assumption⟩
      · exact ⟨.inr (.inr (.inr rfl)), h0, h1⟩
theorem wr_least : ∀ {l : List Pt}, (∀ p ∈ l, p.Ok) → WR l (l.map wl).flatten
  | [], _ => rfl
  | .num n :: r, h => ⟨lv n, _, nm_of (h _ (.head _)).1 (h _ (.head _)).2, rfl, wr_least fun p m => h p (.tail _ m)⟩
  | .cnt l :: r, h => ⟨lv l.length, _, nm_of (by omega) (by have : l.length ≤ 30 := h _ (.head _); omega), rfl, wr_least fun p m => h p (.tail _ m)⟩
  | .raw l :: r, h => ⟨_, rfl, wr_least fun p m => h p (.tail _ m)⟩
theorem wd_wr {wd : Wd} {f : Fm} {b : List UInt8} (hok : FmOk f) (h : WdR wd (tlP f) b) : WR (tlP f) b := by
  cases wd with
  | least => have : b = _ := h; subst this; exact wr_least (tlP_ok hok).1
  | wide _ _ _ => exact h
theorem bd_of {f : Fm} {b : List UInt8} (hok : FmOk f) (h : WR (tlP f) b) (r : List UInt8) : BdR f (b ++ r) r := by
  cases f with
  | ping => have : b = [] := h; subst this; rfl
  | done => have : b = [] := h; subst this; rfl
  | pathResp => obtain ⟨b', rfl, h⟩ := h; have : b' = [] := h; subst this; simp [BdR]
  | pathChal => obtain ⟨b', rfl, h⟩ := h; have : b' = [] := h; subst this; simp [BdR]
  | maxData n => obtain ⟨e, b', he, rfl, h⟩ := h; have : b' = [] := h; subst this; exact ⟨e, he, by simp⟩
  | retire n => obtain ⟨e, b', he, rfl, h⟩ := h; have : b' = [] := h; subst this; exact ⟨e, he, by simp⟩
  | maxStreams u n => obtain ⟨e, b', he, rfl, h⟩ := h; have : b' = [] := h; subst this; exact ⟨e, he, by simp only [FmOk] at hok; omega, by simp⟩
  | crypto o x => obtain ⟨e1, b1, h1, rfl, e2, b2, h2, rfl, h⟩ := h; have : b2 = [] := h; subst this; exact ⟨e1, e2, h1, h2, by simp only [FmOk] at hok; omega, by simp⟩
  | stream n o x fin => obtain ⟨e1, b1, h1, rfl, e2, b2, h2, rfl, e3, b3, h3, rfl, h⟩ := h; have : b3 = [] := h; subst this; exact ⟨e1, e2, e3, h1, h2, h3, by simp only [FmOk] at hok; omega, by simp⟩
  | ncid p c => obtain ⟨e1, b1, h1, rfl, e2, b2, h2, rfl, b3, rfl, h⟩ := h; have : b3 = [] := h; subst this; exact ⟨e1, e2, h1, h2, by simp only [FmOk] at hok; omega, by simp only [FmOk] at hok; omega, by simp⟩
  | newToken x => obtain ⟨e, b', he, rfl, h⟩ := h; have : b' = [] := h; subst this; exact ⟨e, he, by simp only [FmOk] at hok; omega, by simp⟩
  | close c ft x =>
    cases ft with
    | false => obtain ⟨e1, b1, h1, rfl, e3, b3, h3, rfl, h⟩ := h; have : b3 = [] := h; subst this; exact ⟨e1, e3, _, h1, h3, by simp, rfl⟩
    | true => obtain ⟨e1, b1, h1, rfl, e2, b2, h2, rfl, e3, b3, h3, rfl, h⟩ := h; have : b3 = [] := h; subst this; exact ⟨e1, e3, _, h1, h3, by simp, e2, h2, rfl⟩
  | ack d low e =>
    simp only [FmOk] at hok
    cases e with
    | false =>
      obtain ⟨e1, b1, h1, rfl, e2, b2, h2, rfl, e3, b3, h3, rfl, e4, b4, h4, rfl, e5, b5, h5, rfl, e6, b6, h6, rfl, h⟩ := h
      have : b6 = [] := h; subst this
      exact ⟨e1, e2, e3, e4, e5, e6, r, h1, h2, h3, h4, h5, h6, by omega, by simp, rfl⟩
    | true =>
      obtain ⟨e1, b1, h1, rfl, e2, b2, h2, rfl, e3, b3, h3, rfl, e4, b4, h4, rfl, e5, b5, h5, rfl, e6, b6, h6, rfl, f1, c1, g1, rfl, f2, c2, g2, rfl, f3, c3, g3, rfl, h⟩ := h
      have : c3 = [] := h; subst this
      exact ⟨e1, e2, e3, e4, e5, e6, _, h1, h2, h3, h4, h5, h6, by omega, by simp, f1, f2, f3, g1, g2, g3, rfl⟩
def LwR (wd : Wd) (f : Fm) (l : List UInt8) : Prop := ∃ b, l = vb 0 f.told ++ b ∧ WdR wd (tlP f) b
theorem lw_least {f : Fm} {l : List UInt8} (h : LwR .least f l) : l = pf f := by
  obtain ⟨b, rfl, h⟩ := h
  have : b = _ := h
  rw [this]; exact pf_eq f
theorem lw_pf (f : Fm) : LwR .least f (pf f) := ⟨_, (pf_eq f).symm, rfl⟩
theorem wr_len : ∀ {l : List Pt} {b : List UInt8}, (∀ p ∈ l, p.Ok) → WR l b → b.length ≤ 38 * l.length
  | [], b, _, h => by have : b = [] := h; subst this; exact Nat.zero_le _
  | .num n :: r, b, hp, h => by
    obtain ⟨e, b', he, rfl, h⟩ := h
    have := wr_len (fun p m => hp p (.tail _ m)) h
    have := vb_len8 e n
    rw [List.length_append, List.length_cons]; omega
  | .cnt l :: r, b, hp, h => by
    obtain ⟨e, b', he, rfl, h⟩ := h
    have := wr_len (fun p m => hp p (.tail _ m)) h
    have := vb_len8 e l.length
    have : l.length ≤ 30 := hp _ (.head _)
    rw [List.length_append, List.length_append, List.length_cons]; omega
  | .raw l :: r, b, hp, h => by
    obtain ⟨b', rfl, h⟩ := h
    have := wr_len (fun p m => hp p (.tail _ m)) h
    have : l.length ≤ 30 := hp _ (.head _)
    rw [List.length_append, List.length_cons]; omega
theorem lw_len {wd : Wd} {f : Fm} {l : List UInt8} (hok : FmOk f) (h : LwR wd f l) : l.length ≤ 400 := by
  obtain ⟨b, rfl, h⟩ := h
  have h1 := wr_len (tlP_ok hok).1 (wd_wr hok h)
  have h2 := (tlP_ok hok).2
  have h3 := vb_len8 0 f.told
  rw [List.length_append]; omega
inductive LwAll (wd : Wd) : List Fm → List (List UInt8) → Prop
  | nil : LwAll wd [] []
  | cons {f : Fm} {fs : List Fm} {l : List UInt8} {ls : List (List UInt8)} : LwR wd f l → LwAll wd fs ls → LwAll wd (f :: fs) (l :: ls)
theorem LwAll.frs {wd : Wd} {fs : List Fm} {ls : List (List UInt8)} (hok : ∀ f ∈ fs, FmOk f) (h : LwAll wd fs ls) : FrsR fs ls.flatten := by
  induction h with
  | nil => rfl
  | cons h r ih =>
    obtain ⟨b, rfl, h⟩ := h
    have hf := hok _ (.head _)
    exact ⟨_, _, by rw [List.flatten_cons, List.append_assoc], bd_of hf (wd_wr hf h) _, ih fun g m => hok g (.tail _ m)⟩
theorem LwAll.len {wd : Wd} {fs : List Fm} {ls : List (List UInt8)} (hok : ∀ f ∈ fs, FmOk f) (h : LwAll wd fs ls) : ls.flatten.length ≤ 400 * fs.length ∧ ls.length = fs.length := by
  induction h with
  | nil => exact ⟨Nat.le_refl _, rfl⟩
  | cons h r ih =>
    have h1 := lw_len (hok _ (.head _)) h
    obtain ⟨h2, h3⟩ := ih fun g m => hok g (.tail _ m)
    refine ⟨?_, by rw [List.length_cons, List.length_cons, h3]⟩
    rw [List.flatten_cons, List.length_append, List.length_cons]; omega
theorem LwAll.least {fs : List Fm} {ls : List (List UInt8)} (h : LwAll .least fs ls) : ls = fs.map pf := by
  induction h with
  | nil => rfl
  | cons h r ih => rw [lw_least h, ih]; rfl
theorem LwAll.pf (fs : List Fm) : LwAll .least fs (fs.map pf) := by
  induction fs with
  | nil => exact .nil
  | cons f fs ih => exact .cons (lw_pf f) ih
theorem frs_pf {fs : List Fm} (hok : ∀ f ∈ fs, FmOk f) : FrsR fs (fs.map pf).flatten := (LwAll.pf fs).frs hok
end
section
inductive RelAll {α β : Type} (R : α → β → Prop) : List α → List β → Prop
  | nil : RelAll R [] []
  | cons {a : α} {as : List α} {b : β} {bs : List β} : R a b → RelAll R as bs → RelAll R (a :: as) (b :: bs)
theorem comp_rel {α β : Type} {T : Tb} {C : Ct} {x : Str} {elt : Expr} {cel : List SObj} {K : List SV → List SObj → Prop} (sv : α → SV) (out : β → SV) (R : α → β → Prop) (m : Nat) : ∀ (its : List α) (acc : List SV) (n : Nat), its.length + m + 1 ≤ n →
    (∀ d ∈ its, ∀ (k : Nat) (K' : AV → SS → Prop), (∀ y, R d y → K' (.v (out y)) ⟨[(x, .v (sv d))], cel⟩) → run T (k + m) C (.e elt ⟨[(x, .v (sv d))], cel⟩ K')) → (∀ ys, RelAll R its ys → K (acc ++ ys.map out) cel) → run T n C (.c x [] elt (its.map sv) acc cel K)
  | [], acc, n, hn, _, k => by
    obtain ⟨n, rfl⟩ : ∃ n', n = n' + 1 := ⟨n - 1, by omega⟩
    have k := k [] .nil
    rw [List.map_nil, List.append_nil] at k
    exact k
  | d :: its, acc, n, hn, te, k => by
    obtain ⟨n, rfl⟩ : ∃ n', n = n' + m + 1 := ⟨n - m - 1, by omega⟩
    rw [List.length_cons] at hn
    show run T (n + m) C (.e elt ⟨[(x, .v (sv d))], cel⟩ fun v σ₂ => asV v fun y => run T (n + m) C (.c x [] elt (its.map sv) (acc ++ [y]) σ₂.cel K))
    refine te d (.head _) n _ fun y hy => ?_
    refine comp_rel sv out R m its (acc ++ [out y]) (n + m) (by omega) (fun d hd => te d (.tail _ hd)) fun ys hys => ?_
    have k := k (y :: ys) (.cons hy hys)
    rw [List.map_cons] at k
    rw [List.append_assoc]
    exact k
theorem RelAll.lw {wd : Wd} {fs : List Fm} {ls : List (List UInt8)} (h : RelAll (LwR wd) fs ls) : LwAll wd fs ls := by
  induction h with
  | nil => exact .nil
  | cons h _ ih => exact .cons h ih
noncomputable def pk (w : World) (i : Nat) : Stmt := (bd 492 w.params).getD i (.Pass default)
theorem b492 (w : World) : bd 492 w.params = [pk w 0, pk w 1, pk w 2, pk w 3, pk w 4, pk w 5, pk w 6, pk w 7, pk w 8, pk w 9, pk w 10] := by kernel_rfl
def T492 : Tb := { glob := [("_law_written", .ref 473), ("read_frames", .ref 262), ("put_frames", .ref 404), ("sum", .bi .sum), ("frame_size", .ref 411), ("len", .bi .len), ("_law_may_be", .ref 480), ("_law_judged", .ref 487), ("any_eliciting", .ref 301), ("any_in_flight", .ref 306), ("are_probing", .ref 311)], fn := [(473, spWritten), (262, spFrames), (480, spLMay), (301, spAnyE), (306, spAnyF), (311, spAre)], fnG := [(404, spPFs), (411, spFSize)], cls := [], field := [], meth := [] }
noncomputable def pk0 (w : World) (fs : List Fm) (p : Pk) (c : Bool) (wd : Wd) : SS := entSS (scp 492 w.params) ["row", "packet", "sender", "wider"] [.v (.lst (fs.map Fm.sv)), .v (.str p.short), .v (.str (cliS c)), .v wd.sv] []
theorem sum_le {wd : Wd} {fs : List Fm} {ls : List (List UInt8)} (hok : ∀ f ∈ fs, FmOk f) (hl : fs.length ≤ 4) (h : LwAll wd fs ls) : Nat.ble (sumLen ls) 1048576 = true := by
  have := (h.len hok).1
  have e : sumLen ls = ls.flatten.length := by rw [sumLen_eq, List.length_flatten]
  rw [e]
  exact ble_of (by omega)
theorem st0 (w : World) (fs : List Fm) (p : Pk) (c : Bool) (wd : Wd) (hok : ∀ f ∈ fs, FmOk f) (hl : fs.length ≤ 4) : run T492 200 (ctAt 492 w 0 []) (.s (pk w 0) (pk0 w fs p c wd) fun f σ₁ => f = .next ∧ σ₁ = ⟨("least", .v (.bytes (fs.map pf).flatten)) :: (pk0 w fs p c wd).loc, (pk0 w fs p c wd).cel⟩) := by
  conv => whnf
  refine Gd.mk (ble_of (by rw [List.length_map]; omega)) ?_
  refine ⟨?_⟩
  refine comp_rel Fm.sv SV.bytes (LwR .least) 20 _ _ _ (Nat.le_trans (m := 41) (by omega) (by decide)) (fun f hf k K' hk => ?_) fun ys hys => ?_
  · conv => whnf
    refine ⟨f, .least, rfl, rfl, hok f hf, trivial, rfl, fun b hb => ?_⟩
    conv => whnf
    exact hk _ ⟨b, rfl, hb⟩
  · have hy := hys.lw
    rw [List.nil_append]
    conv => whnf
    rw [bytesOf_map]
    conv => whnf
    refine Gd.mk (sum_le hok hl hy) ?_
    conv => whnf
    refine ⟨rfl, ?_⟩
    rw [hy.least]
theorem st1 (w : World) (fs : List Fm) (p : Pk) (c : Bool) (wd : Wd) (v : AV) (hok : ∀ f ∈ fs, FmOk f) (hl : fs.length ≤ 4) (hne : fs ≠ []) (hw : wd.Ok) : run T492 200 (ctAt 492 w 0 []) (.s (pk w 1) ⟨("least", v) :: (pk0 w fs p c wd).loc, (pk0 w fs p c wd).cel⟩ fun f σ₁ => f = .next ∧ σ₁ = ⟨("told", .v (.lst (fs.map Fm.sv))) :: ("least", v) :: (pk0 w fs p c wd).loc, (pk0 w fs p c wd).cel⟩) := by
  conv => whnf
  refine Gd.mk (ble_of (by rw [List.length_map]; omega)) ?_
  refine ⟨?_⟩
  refine comp_rel Fm.sv SV.bytes (LwR wd) 20 _ _ _ (Nat.le_trans (m := 41) (by omega) (by decide)) (fun f hf k K' hk => ?_) fun ys hys => ?_
  · conv => whnf
    refine ⟨f, wd, rfl, rfl, hok f hf, hw, rfl, fun b hb => ?_⟩
    conv => whnf
    exact hk _ ⟨b, rfl, hb⟩
  · have hy := hys.lw
    rw [List.nil_append]
    conv => whnf
    rw [bytesOf_map]
    conv => whnf
    refine Gd.mk (sum_le hok hl hy) ?_
    conv => whnf
    refine ⟨fs, hne, hy.frs hok, by omega, by have := (hy.len hok).1; omega, ?_⟩
    conv => whnf
    exact ⟨rfl, rfl⟩
end
section
noncomputable def pk2 (w : World) (fs : List Fm) (p : Pk) (c : Bool) (wd : Wd) : SS := ⟨("told", .v (.lst (fs.map Fm.sv))) :: ("least", .v (.bytes (fs.map pf).flatten)) :: (pk0 w fs p c wd).loc, (pk0 w fs p c wd).cel⟩
theorem st2 (w : World) (fs : List Fm) (p : Pk) (c : Bool) (wd : Wd) (hok : ∀ f ∈ fs, FmOk f) (hl : fs.length ≤ 4) (hne : fs ≠ []) : runG T492 200 (ctAt 492 w 0 []) (.s (pk w 2) (pk2 w fs p c wd) fun f σ₁ => f = .next ∧ σ₁ = pk2 w fs p c wd) := by
  conv => whnf
  refine .inl ⟨rfl, svs_ok fs, ?_⟩
  conv => whnf
  refine ⟨fs, rfl, rfl, hok, by omega, ?_⟩
  conv => whnf
  rw [show ((fs.map pf).flatten != (fs.map pf).flatten) = false from by simp]
  conv => whnf
  refine ⟨fs, rfl, rfl, hok, by omega, ?_⟩
  conv => whnf
  refine ⟨fs, hne, frs_pf hok, by omega, by have := ((LwAll.pf fs).len hok).1; omega, ?_⟩
  conv => whnf
  refine .inl ⟨rfl, svs_ok fs, ?_⟩
  conv => whnf
  exact ⟨rfl, rfl⟩
theorem intsOf_len : ∀ fs : List Fm, intsOf (fs.map fun f => SV.int ((pf f).length : Int)) = some (fs.map fun f => ((pf f).length : Int))
  | [] => rfl
  | f :: fs => by
    rw [List.map_cons, List.map_cons]
    unfold intsOf
    rw [intsOf_len fs]; rfl
theorem sum_len : ∀ fs : List Fm, (fs.map fun f => ((pf f).length : Int)).sum = ((fs.map pf).flatten.length : Int)
  | [] => rfl
  | f :: fs => by
    rw [List.map_cons, List.sum_cons, sum_len fs, List.map_cons, List.flatten_cons, List.length_append]; push_cast; rfl
theorem st3 (w : World) (fs : List Fm) (p : Pk) (c : Bool) (wd : Wd) (hok : ∀ f ∈ fs, FmOk f) (hl : fs.length ≤ 4) (hne : fs ≠ []) : runG T492 200 (ctAt 492 w 0 []) (.s (pk w 3) (pk2 w fs p c wd) fun f σ₁ => f = .next ∧ σ₁ = pk2 w fs p c wd) := by
  conv => whnf
  refine Gd.mk (ble_of (by rw [List.length_map]; omega)) ?_
  refine ⟨?_⟩
  refine compG_mapA Fm.sv (fun f => .int ((pf f).length : Int)) 20 _ _ _ (Nat.le_trans (m := 41) (by omega) (by decide)) (fun f hf k K' hk => ?_) ?_
  · conv => whnf
    refine ⟨f, rfl, rfl, hok f hf, ?_⟩
    conv => whnf
    exact hk
  · rw [List.nil_append]
    conv => whnf
    rw [intsOf_len]
    conv => whnf
    refine Gd.mk (ble_of (by have := ((LwAll.pf fs).len hok).1; omega)) ?_
    conv => whnf
    rw [sum_len]
    refine Br.f (by simp) ?_
    conv => whnf
    exact ⟨rfl, rfl⟩
theorem st4 (w : World) (fs : List Fm) (p : Pk) (c : Bool) (wd : Wd) (hl : fs.length ≤ 4) : run T492 200 (ctAt 492 w 0 []) (.s (pk w 4) (pk2 w fs p c wd) fun f σ₁ => f = .next ∧ σ₁ = ⟨("wrong", .v (.lst ((fs.filter fun f => !okF p c f).map Fm.sv))) :: (pk2 w fs p c wd).loc, (pk2 w fs p c wd).cel⟩) := by
  conv => whnf
  refine Gd.mk (ble_of (by rw [List.length_map]; omega)) ?_
  refine ⟨?_⟩
  refine comp_filter Fm.sv Fm.sv (fun f => !okF p c f) 20 _ _ _ (Nat.le_trans (m := 41) (by omega) (by decide)) (fun f _ n K' hk => ?_) (fun f _ n K' hk => ?_) ?_
  · conv => whnf
    refine ⟨f, p, c, rfl, rfl, rfl, rfl, ?_⟩
    conv => whnf
    exact hk
  · conv => whnf
    exact hk
  · rw [List.nil_append]
    conv => whnf
    exact ⟨rfl, rfl⟩
end
section
noncomputable def pk4 (w : World) (fs : List Fm) (p : Pk) (c : Bool) (wd : Wd) : SS := ⟨("wrong", .v (.lst ((fs.filter fun f => !okF p c f).map Fm.sv))) :: (pk2 w fs p c wd).loc, (pk2 w fs p c wd).cel⟩
def knS (f : Fm) : SV := .str (kn f)
theorem st6 (w : World) (fs : List Fm) (p : Pk) (c : Bool) (wd : Wd) (hl : fs.length ≤ 4) : run T492 200 (ctAt 492 w 0 []) (.s (pk w 6) (pk4 w fs p c wd) fun f σ₁ => f = .next ∧ σ₁ = ⟨("kinds", .v (.lst (fs.map knS))) :: (pk4 w fs p c wd).loc, (pk4 w fs p c wd).cel⟩) := by
  conv => whnf
  refine Gd.mk (ble_of (by rw [List.length_map]; omega)) ?_
  refine ⟨?_⟩
  refine comp_map Fm.sv knS 20 _ _ _ (Nat.le_trans (m := 41) (by omega) (by decide)) (fun f _ n K' hk => ?_) ?_
  · obtain ⟨tl, hsv, hble⟩ := sv_head f
    rw [hsv]
    rw [hsv] at hk
    conv => whnf
    refine Gd.mk hble ?_
    conv => whnf
    exact hk
  · rw [List.nil_append]
    conv => whnf
    exact ⟨rfl, rfl⟩
theorem st7 (w : World) (fs : List Fm) (p : Pk) (c : Bool) (wd : Wd) (hl : fs.length ≤ 4) : run T492 200 (ctAt 492 w 0 []) (.s (pk w 7) ⟨("kinds", .v (.lst (fs.map knS))) :: (pk4 w fs p c wd).loc, (pk4 w fs p c wd).cel⟩ fun f σ₁ => f = .next ∧ σ₁ = ⟨("asking", .v (.lst ((fs.filter elicB).map knS))) :: ("kinds", .v (.lst (fs.map knS))) :: (pk4 w fs p c wd).loc, (pk4 w fs p c wd).cel⟩) := by
  conv => whnf
  refine Gd.mk (ble_of (by rw [List.length_map]; omega)) ?_
  refine ⟨?_⟩
  refine comp_filter knS knS elicB 20 _ _ _ (Nat.le_trans (m := 41) (by omega) (by decide)) (fun f _ n K' hk => ?_) (fun f _ n K' hk => ?_) ?_
  · cases f
    all_goals
      conv => whnf
      exact hk
  · conv => whnf
    exact hk
  · rw [List.nil_append]
    conv => whnf
    exact ⟨rfl, rfl⟩
theorem st8 (w : World) (fs : List Fm) (p : Pk) (c : Bool) (wd : Wd) (hl : fs.length ≤ 4) (v : AV) : run T492 200 (ctAt 492 w 0 []) (.s (pk w 8) ⟨("asking", v) :: ("kinds", .v (.lst (fs.map knS))) :: (pk4 w fs p c wd).loc, (pk4 w fs p c wd).cel⟩ fun f σ₁ => f = .next ∧ σ₁ = ⟨("probing", .v (.lst ((fs.filter probB).map knS))) :: ("asking", v) :: ("kinds", .v (.lst (fs.map knS))) :: (pk4 w fs p c wd).loc, (pk4 w fs p c wd).cel⟩) := by
  conv => whnf
  refine Gd.mk (ble_of (by rw [List.length_map]; omega)) ?_
  refine ⟨?_⟩
  refine comp_filter knS knS probB 20 _ _ _ (Nat.le_trans (m := 41) (by omega) (by decide)) (fun f _ n K' hk => ?_) (fun f _ n K' hk => ?_) ?_
  · cases f
    all_goals
      conv => whnf
      exact hk
  · conv => whnf
    exact hk
  · rw [List.nil_append]
    conv => whnf
    exact ⟨rfl, rfl⟩
end
section
noncomputable def pk8 (w : World) (fs : List Fm) (p : Pk) (c : Bool) (wd : Wd) (q r : List SV) : SS := ⟨("probing", .v (.lst r)) :: ("asking", .v (.lst q)) :: ("kinds", .v (.lst (fs.map knS))) :: (pk4 w fs p c wd).loc, (pk4 w fs p c wd).cel⟩
theorem st9 (w : World) (fs : List Fm) (p : Pk) (c : Bool) (wd : Wd) (hl : fs.length ≤ 4) (q r : List SV) (hq : (q = [] ∧ (fs.filter elicB).isEmpty = true) ∨ (q ≠ [] ∧ (fs.filter elicB).isEmpty = false)) : run T492 200 (ctAt 492 w 0 []) (.s (pk w 9) (pk8 w fs p c wd q r) fun f σ₁ => f = .next ∧ σ₁ = pk8 w fs p c wd q r) := by
  conv => whnf
  refine ⟨fs, rfl, rfl, by omega, ?_⟩
  rcases hq with ⟨rfl, he⟩ | ⟨hn, he⟩
  · conv => whnf
    refine .inl ⟨rfl, rfl, ?_⟩
    conv => whnf
    rw [he]
    conv => whnf
    refine ⟨fs, rfl, rfl, by omega, ?_⟩
    conv => whnf
    refine .inl ⟨rfl, rfl, ?_⟩
    conv => whnf
    rw [he]
    conv => whnf
    exact ⟨rfl, rfl⟩
  · conv => whnf
    refine .inr ⟨fun z => hn (List.length_eq_zero_iff.mp z), ?_⟩
    conv => whnf
    rw [he]
    conv => whnf
    refine ⟨fs, rfl, rfl, by omega, ?_⟩
    conv => whnf
    refine .inr ⟨fun z => hn (List.length_eq_zero_iff.mp z), ?_⟩
    conv => whnf
    rw [he]
    conv => whnf
    exact ⟨rfl, rfl⟩
theorem filter_two (p : Fm → Bool) : ∀ fs : List Fm, (fs.filter fun f => !p f).length + (fs.filter p).length = fs.length
  | [] => rfl
  | f :: fs => by
    have := filter_two p fs
    rw [List.filter_cons, List.filter_cons]
    cases p f <;> simp <;> omega
theorem are_len (fs : List Fm) : ((fs.filter fun f => !probB f).isEmpty == ((((fs.filter probB).map knS).length : Int) == ((fs.map knS).length : Int))) = true := by
  have h := filter_two probB fs
  rw [List.length_map, List.length_map]
  cases q : fs.filter fun f => !probB f with
  | nil =>
    rw [q, List.length_nil] at h
    have : ((fs.filter probB).length : Int) = (fs.length : Int) := by omega
    rw [this]; simp
  | cons a l =>
    rw [q, List.length_cons] at h
    have : ¬ ((fs.filter probB).length : Int) = (fs.length : Int) := by omega
    simp [this]
theorem st10 (w : World) (fs : List Fm) (p : Pk) (c : Bool) (wd : Wd) (hl : fs.length ≤ 4) (q : List SV) : run T492 200 (ctAt 492 w 0 []) (.s (pk w 10) (pk8 w fs p c wd q ((fs.filter probB).map knS)) fun f σ₁ => f = .ret (.v (.bool true))) := by
  conv => whnf
  refine ⟨fs, rfl, rfl, by omega, ?_⟩
  conv => whnf
  refine Gd.mk (ble_of (by rw [List.length_map]; have := List.length_filter_le probB fs; omega)) ?_
  conv => whnf
  refine Gd.mk (ble_of (by rw [List.length_map]; omega)) ?_
  conv => whnf
  rw [are_len]
end
section
theorem pk5 (w : World) : ∃ p1 p2 p3 p4 p5 p6 p7 p8 p9 r1 r2 r3 r4 r5 r6, pk w 5 = .If (.Compare (.Call (.Name "_law_judged" p1) [.Name "told" p2, .Name "packet" p3, .Name "sender" p4] [] p5) [.NotEq]
    [.IfExp (.Compare (.Name "wrong" r1) [.Eq] [.List [] r2] r3) (.Constant (.str "let") 0 r4) (.Constant (.str "refused") 0 r5) r6] p6) [.Return (some (.Constant (.bool false) 0 p7)) p8] [] p9 :=
  ⟨_, _, _, _, _, _, _, _, _, _, _, _, _, _, _, rfl⟩
theorem ctx2 {T : Tb} {X X₂ : Fx} {C : Ct} (c : Ctx T X C) (h : Xc X X₂) (hc : X.comp = none) : Ctx T X₂ C := by
  have e := h.eq
  have o := h.ok
  obtain ⟨O, ⟨a1, a2, a3, a4⟩, tb, hU⟩ := c
  rw [e]
  rw [e] at o
  exact ⟨o, ⟨a1, a2, a3, a4⟩, tb, hU⟩
theorem all_wrong (p : Pk) (c : Bool) : ∀ fs : List Fm, (fs.all (okF p c) = true → (fs.filter fun f => !okF p c f) = []) ∧ (fs.all (okF p c) = false → (fs.filter fun f => !okF p c f) ≠ [])
  | [] => ⟨fun _ => rfl, fun h => by cases h⟩
  | f :: fs => by
    rw [List.all_cons, List.filter_cons]
    cases okF p c f with
    | true => simp
    | false => simp
theorem jR {w : World} {X : Fx} (c : Ctx T492 X (ctAt 492 w 0 [])) (fs : List Fm) (p : Pk) (cl : Bool) (wd : Wd) {r1 r2 r3 r4 r5 r6 : Pos} : JE X (.IfExp (.Compare (.Name "wrong" r1) [.Eq] [.List [] r2] r3) (.Constant (.str "let") 0 r4) (.Constant (.str "refused") 0 r5) r6) (pk4 w fs p cl wd) fun a σ₁ => (a = .v (.str (match fs.all (okF p cl) with | true => "let" | false => "refused"))) ∧ σ₁ = pk4 w fs p cl wd := by
  refine run_sound T492 100 X _ (.e _ _ _) c ?_
  cases h : fs.all (okF p cl) with
  | true =>
    have e := (all_wrong p cl fs).1 h
    conv => whnf
    refine .inl ⟨by rw [e]; rfl, svs_ok _, ?_⟩
    conv => whnf
    exact ⟨rfl, rfl⟩
  | false =>
    have e := (all_wrong p cl fs).2 h
    conv => whnf
    refine .inr ⟨fun z => e (by rw [List.length_map] at z; exact List.length_eq_zero_iff.mp z), ?_⟩
    conv => whnf
    exact ⟨rfl, rfl⟩
theorem st5 {w : World} {X : Fx} (c : Ctx T492 X (ctAt 492 w 0 [])) (hw : X.w = w) (hc : X.comp = none) (hD : 5 ≤ X.D) (hU : 23 ≤ X.U) (ag : Agr X (cxOf (scp 492 w.params) 0)) (fs : List Fm) (p : Pk) (cl : Bool) (wd : Wd) {rest : List Stmt} {K : Bool → Prop}
    (k : ∀ X₂, Xc X X₂ → JBX X₂ rest (pk4 w fs p cl wd) K) : JBX X (pk w 5 :: rest) (pk4 w fs p cl wd) K := by
  subst hw
  obtain ⟨p1, p2, p3, p4, p5, p6, p7, p8, p9, r1, r2, r3, r4, r5, r6, e⟩ := pk5 X.w
  rw [e]
  have kind : ∀ y k, (scp 492 X.w.params).names.lookup y = k → X.env.kindOf y = k := fun y k z => by show X.env.scope.names.lookup y = k; rw [ag.names]; exact z
  have J1 : JE X (.Name "told" p2) (pk4 X.w fs p cl wd) (fun a σ₁ => a = .v (.lst (fs.map Fm.sv)) ∧ σ₁ = pk4 X.w fs p cl wd) := run_sound T492 100 X _ (.e _ _ _) c (by (conv => whnf); exact ⟨rfl, rfl⟩)
  have J2 : JE X (.Name "packet" p3) (pk4 X.w fs p cl wd) (fun a σ₁ => a = .v (.str p.short) ∧ σ₁ = pk4 X.w fs p cl wd) := run_sound T492 100 X _ (.e _ _ _) c (by (conv => whnf); exact ⟨rfl, rfl⟩)
  have J3 : JE X (.Name "sender" p4) (pk4 X.w fs p cl wd) (fun a σ₁ => a = .v (.str (cliS cl)) ∧ σ₁ = pk4 X.w fs p cl wd) := run_sound T492 100 X _ (.e _ _ _) c (by (conv => whnf); exact ⟨rfl, rfl⟩)
  have tail : ∀ (x : Str), x = (match fs.all (okF p cl) with | true => "let" | false => "refused") → ∀ X₂, Xc X X₂ → JE X₂ (.IfExp (.Compare (.Name "wrong" r1) [.Eq] [.List [] r2] r3) (.Constant (.str "let") 0 r4) (.Constant (.str "refused") 0 r5) r6) (pk4 X.w fs p cl wd) fun b σ₃ => Mine.J2 X₂ (compareOp .NotEq) (.v (.str x)) b σ₃ fun c σ₄ => JTr X₂ c σ₄ fun t σ₅ => Br t (JBX X₂ [.Return (some (.Constant (.bool false) 0 p7)) p8] σ₅ K) (JBX X₂ rest σ₅ K) := by
    intro x hx X₂ h2
    have c2 := ctx2 c h2 hc
    refine (jR c2 fs p cl wd).mono fun a σ₃ z => ?_
    obtain ⟨rfl, rfl⟩ := z
    subst hx
    have hU2 : 10 ≤ X₂.U := by
      have : X₂.U = X.U := by rw [h2.eq]
      omega
    refine cmpD_ok c2.ok hU2 ?_
    cases fs.all (okF p cl) with
    | true => exact JTr_bool (k X₂ h2)
    | false => exact JTr_bool (k X₂ h2)
  refine JBX_IfX (JTX_Compare rfl (JEX_Call c.ok (ok487x X.w) hD hU rfl (by kernel_rfl) (kind "_law_judged" _ (by kernel_rfl)) (by decide) (by kernel_rfl) (.of ?_)))
  refine JL_cons rfl (J1.mono fun a σ₁ z => ?_)
  obtain ⟨rfl, rfl⟩ := z
  refine JL_cons rfl (J2.mono fun a σ₁ z => ?_)
  obtain ⟨rfl, rfl⟩ := z
  refine JL_cons rfl (J3.mono fun a σ₁ z => ?_)
  obtain ⟨rfl, rfl⟩ := z
  refine JL_nil ⟨rfl, fs, p, cl, rfl, rfl, rfl, rfl, fun h X₂ h2 => tail _ ?_ X₂ h2, fun h X₂ h2 => tail _ ?_ X₂ h2⟩
  · rw [h]
  · rw [h]
end
section
def spPkt : Spec := fun as cel K => match as with
  | [.v (.lst l), .v (.str y), .v (.str z), .v d] => ∃ (fs : List Fm) (p : Pk) (c : Bool) (wd : Wd), l = fs.map Fm.sv ∧ y = p.short ∧ z = cliS c ∧ d = wd.sv ∧ cel = [] ∧ (∀ f ∈ fs, FmOk f) ∧ fs.length ≤ 4 ∧ fs ≠ [] ∧ wd.Ok ∧ K (.bool true) []
  | _ => False
theorem in492 (w : World) : FnAt 492 w := ⟨_, _, _, _, _, _, _, _, _, rfl, by kernel_rfl⟩
theorem bind492 (w : World) : Bnd (prm 492 w.params) ["row", "packet", "sender", "wider"] := bnd4 fun _ _ _ _ _ => by kernel_rfl
theorem okk492 (w : World) : ScOk (scp 492 w.params) ["row", "packet", "sender", "wider"] := by kernel_rfl
theorem next_of {X : Fx} {st : Stmt} {rest : List Stmt} {σ σ' : SS} {K : Bool → Prop} (h : JSG X st σ fun f σ₁ => f = .next ∧ σ₁ = σ') (k : JBX X rest σ' K) : JBX X (st :: rest) σ K :=
  JBX_step (h.mono fun f σ₁ z => by obtain ⟨rfl, rfl⟩ := z; exact k)
theorem ok492x (w : World) : FnOkX w 492 10 40 spPkt := by
  refine FnOkX.of_body (D := 9) (U := 37) (ns := ["row", "packet", "sender", "wider"]) (in492 w) (bind492 w) (okk492 w) (fun as K h => by
    unfold spPkt at h
    split at h
    · rfl
    · exact h.elim) fun X as K O hw hD hU ag hme h => ?_
  unfold spPkt at h
  split at h
  · obtain ⟨fs, p, c, wd, rfl, rfl, rfl, rfl, _, hok, hl, hne, hwd, k⟩ := h
    subst hw
    have tb : TbOk X.w X.D X.U T492 := by rw [hD, hU]; exact (tbOk (.cons (g_82 X.w) (.cons (g_51 X.w) (.cons (g_72 X.w) (.cons (g_89 X.w) (.cons (g_73 X.w) (.cons (g_87 X.w) (.cons (g_83 X.w) (.cons (g_84 X.w) (.cons (g_56 X.w) (.cons (g_57 X.w) (.cons (g_58 X.w) .nil))))))))))) (.cons (ok473 X.w) (by decide) (by decide) (by kernel_rfl) (.cons (ok262 X.w) (by decide) (by decide) (by kernel_rfl) (.cons (ok480 X.w) (by decide) (by decide) (by kernel_rfl) (.cons (ok301 X.w) (by decide) (by decide) (by kernel_rfl) (.cons (ok306 X.w) (by decide) (by decide) (by kernel_rfl) (.cons (ok311 X.w) (by decide) (by decide) (by kernel_rfl) .nil)))))) (.cons (ok404 X.w) (by decide) (by decide) (by kernel_rfl) (.cons (ok411 X.w) (by decide) (by decide) (by kernel_rfl) .nil)) .nil .nil)
    have cx : Ctx T492 X (ctAt 492 X.w 0 []) := ⟨O, ⟨ag.names, ag.vid, fun _ => ag.comp, quiet_of O⟩, tb, by rw [hU]; decide⟩
    have hc := ag.comp
    rw [b492]
    refine next_of (.of (run_sound T492 200 X _ (.s _ _ _) cx (st0 X.w fs p c wd hok hl))) ?_
    refine next_of (.of (run_sound T492 200 X _ (.s _ _ _) cx (st1 X.w fs p c wd _ hok hl hne hwd))) ?_
    refine next_of (runG_sound T492 200 X _ (.s _ _ _) cx (st2 X.w fs p c wd hok hl hne)) ?_
    refine next_of (runG_sound T492 200 X _ (.s _ _ _) cx (st3 X.w fs p c wd hok hl hne)) ?_
    refine next_of (.of (run_sound T492 200 X _ (.s _ _ _) cx (st4 X.w fs p c wd hl))) ?_
    refine st5 cx rfl hc (by omega) (by omega) ag fs p c wd fun X₂ h2 => ?_
    have c2 := ctx2 cx h2 hc
    have eW : X₂.w = X.w := by rw [h2.eq]
    refine next_of (.of (run_sound T492 200 X₂ _ (.s _ _ _) c2 (st6 X.w fs p c wd hl))) ?_
    refine next_of (.of (run_sound T492 200 X₂ _ (.s _ _ _) c2 (st7 X.w fs p c wd hl))) ?_
    refine next_of (.of (run_sound T492 200 X₂ _ (.s _ _ _) c2 (st8 X.w fs p c wd hl _))) ?_
    refine next_of (.of (run_sound T492 200 X₂ _ (.s _ _ _) c2 (st9 X.w fs p c wd hl _ _ ?_))) ?_
    · cases q : fs.filter elicB with
      | nil => exact .inl ⟨rfl, rfl⟩
      | cons a l => exact .inr ⟨(fun z => by cases z), rfl⟩
    refine JBX_step (JSG.mono (.of (run_sound T492 200 X₂ _ (.s _ _ _) c2 (st10 X.w fs p c wd hl _))) fun f σ₁ z => ?_)
    subst z
    exact ⟨true, rfl, k⟩
  · exact h.elim
end
section
theorem in497 (w : World) : FnAt 497 w := ⟨_, _, _, _, _, _, _, _, _, rfl, by kernel_rfl⟩
theorem bind497 (w : World) : Bnd (prm 497 w.params) ["script"] := bnd1 fun _ _ => by kernel_rfl
theorem okk497 (w : World) : ScOk (scp 497 w.params) ["script"] := by kernel_rfl
noncomputable def lw (w : World) (i : Nat) : Stmt := (bd 497 w.params).getD i (.Pass default)
theorem b497 (w : World) : bd 497 w.params = [lw w 0, lw w 1, lw w 2, lw w 3, lw w 4, lw w 5, lw w 6, lw w 7, lw w 8] := by kernel_rfl
end
section
def T497 : Tb := { glob := [("_law_kinds", slaw_kinds), ("_law_take", .ref 426), ("_law_frame", .ref 447), ("range", .ty .range), ("without_kinds", .ref 337), ("read_frames", .ref 262), ("put_frames", .ref 404)], fn := [(426, spTake2), (447, spLFrame), (337, spWithout), (262, spFrames)], fnG := [(404, spPFs)], cls := [], field := [], meth := [] }
noncomputable abbrev lct (w : World) : Ct := ctAt 497 w 0 [429010]
abbrev lS (loc : List (Str × AV)) (kd : SObj) (ms : List Int) (j : Nat) (h : Int) : SS := ⟨loc, kd :: .vcell (.c 2) :: bx ms j h⟩
theorem comp_box {T : Tb} {C : Ct} {x : Str} {elt : Expr} {β : Type} (out : β → SV) (P : β → Prop) (cel : Nat → Int → List SObj) (I : Nat → Int → Prop) (m : Nat) {K : List SV → List SObj → Prop} : ∀ (its : List SV) (acc : List SV) (n : Nat) (j : Nat) (h : Int), its.length + m + 1 ≤ n → I j h →
    (∀ d ∈ its, ∀ (k : Nat) (K' : AV → SS → Prop) (j : Nat) (h : Int), I j h → (∀ y j' h', P y → I j' h' → K' (.v (out y)) ⟨[(x, .v d)], cel j' h'⟩) → run T (k + m) C (.e elt ⟨[(x, .v d)], cel j h⟩ K')) →
    (∀ (ys : List β) j' h', ys.length = its.length → (∀ y ∈ ys, P y) → I j' h' → K (acc ++ ys.map out) (cel j' h')) → run T n C (.c x [] elt its acc (cel j h) K)
  | [], acc, n, j, h, hn, i, _, k => by
    obtain ⟨n, rfl⟩ : ∃ n', n = n' + 1 := ⟨n - 1, by omega⟩
    have k := k [] j h rfl (fun y m => by cases m) i
    rw [List.map_nil, List.append_nil] at k
    exact k
  | d :: its, acc, n, j, h, hn, i, te, k => by
    obtain ⟨n, rfl⟩ : ∃ n', n = n' + m + 1 := ⟨n - m - 1, by omega⟩
    rw [List.length_cons] at hn
    show run T (n + m) C (.e elt ⟨[(x, .v d)], cel j h⟩ fun v σ₂ => asV v fun y => run T (n + m) C (.c x [] elt its (acc ++ [y]) σ₂.cel K))
    refine te d (.head _) n _ j h i fun y j' h' hy i' => ?_
    refine comp_box out P cel I m its (acc ++ [out y]) (n + m) j' h' (by omega) i' (fun d hd => te d (.tail _ hd)) fun ys j'' h'' e hys i'' => ?_
    have k := k (y :: ys) j'' h'' (by rw [List.length_cons, List.length_cons, e]) (fun z hz => (List.mem_cons.mp hz).elim (fun q => q ▸ hy) (hys z)) i''
    rw [List.map_cons] at k
    rw [List.append_assoc]
    exact k
theorem sl40 (l : List SV) : sliceL l none (some 40) = l.take 40 := by
  unfold sliceL
  simp only [Option.elim, List.drop_zero, Nat.sub_zero]
  unfold clipAt
  rw [if_neg (by decide)]
  by_cases h : l.length ≤ 40
  · rw [List.take_of_length_le (l := l) h, List.take_of_length_le]; omega
  · congr 1; omega
noncomputable def sl0 (w : World) (ns : List Int) : SS := entSS (scp 497 w.params) ["script"] [.v (.lst (ns.map SV.int))] []
theorem lst0 (w : World) (ns : List Int) (hl : ns.length ≤ 63) : run T497 200 (lct w) (.s (lw w 0) (sl0 w ns) fun f σ₁ => f = .next ∧ σ₁ = lS [("script", .v (.lst (ns.map SV.int)))] .vnone (ns.take 40) 0 43) := by
  conv => whnf
  refine Gd.mk (ble_of (by rw [List.length_map]; omega)) ?_
  conv => whnf
  have e : sliceL (ns.map SV.int) none (some 40) = (ns.take 40).map SV.int := by rw [List.map_take, sl40]
  rw [e]
  exact ⟨rfl, rfl⟩
theorem lst1 (w : World) (ms : List Int) (loc : List (Str × AV)) (kd : SObj) (hl : ms.length ≤ 63) (K : SS → Prop) (k : ∀ (fs : List Fm) j h, (∀ f ∈ fs, FmOk f) → fs.length ≤ 4 → fs ≠ [] → j ≤ ms.length → 0 ≤ h → K (lS (("row", .v (.lst (fs.map Fm.sv))) :: loc) kd ms j h)) : run T497 200 (lct w) (.s (lw w 1) (lS loc kd ms 0 43) fun f σ₁ => f = .next ∧ K σ₁) := by
  conv => whnf
  refine ⟨ms, 0, 43, rfl, hl, Nat.zero_le _, by decide, by decide, by decide, fun r j h r0 r1 hj hh => ?_⟩
  have key : ∀ (n : Nat) (r : Int), r = (n : Int) → n ≤ 3 → ∀ its, its.length = n + 1 → run T497 199 (compCt (lct w) ⟨.function, [(".0", .local), ("turn", .local), ("_law_frame", .globalImplicit), ("box", .free)], false, false, []⟩) (.c "turn" [] (.Call (.Name "_law_frame" ⟨430, 11, 430, 21⟩) [.Name "box" ⟨430, 22, 430, 25⟩] [] ⟨430, 11, 430, 26⟩) its [] (kd :: .vcell (.c 2) :: bx ms j h) fun acc cel => SF.next = SF.next ∧ K ⟨("row", .v (.lst acc)) :: loc, cel⟩) := fun n r e hn its hi => by
    refine comp_box Fm.sv FmOk (fun j h => kd :: .vcell (.c 2) :: bx ms j h) (fun j h => j ≤ ms.length ∧ 0 ≤ h) 20 its [] 199 j h (by omega) ⟨hj, hh⟩ (fun d hd m K' j h i hk => ?_) fun ys j' h' e hy i => ?_
    · conv => whnf
      refine ⟨ms, j, h, rfl, hl, i.1, i.2, fun f j' h' hf hj' hh' => ?_⟩
      conv => whnf
      exact hk f j' h' hf ⟨hj', hh'⟩
    · rw [List.nil_append]
      exact ⟨rfl, k ys j' h' hy (by omega) (fun z => by rw [z] at e; rw [List.length_nil] at e; omega) i.1 i.2⟩
  have hr : r = 0 ∨ r = 1 ∨ r = 2 ∨ r = 3 := by omega
  rcases hr with rfl | rfl | rfl | rfl
  all_goals
    conv => whnf
    refine ⟨?_⟩
  · exact key 0 0 rfl (by omega) _ rfl
  · exact key 1 1 rfl (by omega) _ rfl
  · exact key 2 2 rfl (by omega) _ rfl
  · exact key 3 3 rfl (by omega) _ rfl
theorem lst2 (w : World) (ms : List Int) (j : Nat) (h : Int) (loc : List (Str × AV)) (kd : SObj) (hl : ms.length ≤ 63) (hj : j ≤ ms.length) (hh : 0 ≤ h) (K : SS → Prop) (k : ∀ (wd : Wd) j h, wd.Ok → j ≤ ms.length → 0 ≤ h → K (lS (("wider", .v wd.sv) :: loc) kd ms j h)) : run T497 200 (lct w) (.s (lw w 2) (lS loc kd ms j h) fun f σ₁ => f = .next ∧ K σ₁) := by
  conv => whnf
  refine ⟨?_⟩
  refine comp_box SV.int (fun r => 0 ≤ r ∧ r < 3) (fun j h => kd :: .vcell (.c 2) :: bx ms j h) (fun j h => j ≤ ms.length ∧ 0 ≤ h) 20 _ [] _ j h (Nat.le_of_ble_eq_true rfl) ⟨hj, hh⟩ (fun d hd m K' j h i hk => ?_) fun ys j' h' e hy i => ?_
  · conv => whnf
    refine ⟨ms, j, h, rfl, hl, i.1, i.2, by decide, by decide, fun r j' h' r0 r1 hj' hh' => ?_⟩
    conv => whnf
    exact hk r j' h' ⟨r0, r1⟩ ⟨hj', hh'⟩
  · rw [List.nil_append]
    have e : ys.length = 3 := e
    match ys, e, hy with
    | [a, b, c], _, hy =>
      have h1 := hy a (by simp)
      have h2 := hy b (by simp)
      have h3 := hy c (by simp)
      exact ⟨rfl, k (.wide a b c) j' h' ⟨by unfold b2; omega, by unfold b2; omega, by unfold b2; omega⟩ i.1 i.2⟩
end
section
theorem lst3 (w : World) (ms : List Int) (j : Nat) (h : Int) (loc : List (Str × AV)) (kd : SObj) (hl : ms.length ≤ 63) (hj : j ≤ ms.length) (hh : 0 ≤ h) (K : SS → Prop) (k : ∀ (p : Pk) (c : Bool) j h, j ≤ ms.length → 0 ≤ h → K (lS (("packet", .v (.str p.short)) :: ("sender", .v (.str (cliS c))) :: loc) kd ms j h)) : run T497 200 (lct w) (.s (lw w 3) (lS loc kd ms j h) fun f σ₁ => f = .next ∧ K σ₁) := by
  conv => whnf
  refine ⟨ms, j, h, rfl, hl, hj, hh, by decide, by decide, fun r j h r0 r1 hj hh => ?_⟩
  have hr : r = 0 ∨ r = 1 ∨ r = 2 ∨ r = 3 := by omega
  rcases hr with rfl | rfl | rfl | rfl
  all_goals
    conv => whnf
    refine ⟨ms, j, h, rfl, hl, hj, hh, by decide, by decide, fun r j' h' r0 r1 hj' hh' => ?_⟩
    have hr : r = 0 ∨ r = 1 := by omega
    rcases hr with rfl | rfl
    all_goals
      conv => whnf
  · exact ⟨rfl, k .z false j' h' hj' hh'⟩
  · exact ⟨rfl, k .z true j' h' hj' hh'⟩
  · exact ⟨rfl, k .i false j' h' hj' hh'⟩
  · exact ⟨rfl, k .i true j' h' hj' hh'⟩
  · exact ⟨rfl, k .s false j' h' hj' hh'⟩
  · exact ⟨rfl, k .s true j' h' hj' hh'⟩
  · exact ⟨rfl, k .h false j' h' hj' hh'⟩
  · exact ⟨rfl, k .h true j' h' hj' hh'⟩
theorem lst5 (w : World) (ms : List Int) (j : Nat) (h : Int) (fs : List Fm) (a b c : AV) (loc : List (Str × AV)) (kd : SObj) (hl : ms.length ≤ 63) (hj : j ≤ ms.length) (hh : 0 ≤ h) (hne : fs ≠ []) (hf : fs.length ≤ 4) (K : SS → Prop)
    (k : ∀ (x y : Str) j h, K (lS (("packet", a) :: ("sender", b) :: ("wider", c) :: ("row", .v (.lst (fs.map Fm.sv))) :: loc) (.vcell (.v (.tup [.str x, .str y]))) ms j h)) :
    run T497 200 (lct w) (.s (lw w 5) (lS (("packet", a) :: ("sender", b) :: ("wider", c) :: ("row", .v (.lst (fs.map Fm.sv))) :: loc) .vnone ms j h) fun f σ₁ => f = .next ∧ K σ₁) := by
  obtain ⟨f, fs, rfl⟩ := List.exists_cons_of_ne_nil hne
  obtain ⟨tl, e, hb⟩ := sv_head f
  rw [List.length_cons] at hf
  rw [List.map_cons, e] at k
  conv => whnf
  refine ⟨ms, j, h, rfl, hl, hj, hh, by decide, by decide, fun r j h r0 r1 hj hh => ?_⟩
  have hr : r = 0 ∨ r = 1 ∨ r = 2 ∨ r = 3 ∨ r = 4 ∨ r = 5 ∨ r = 6 ∨ r = 7 ∨ r = 8 ∨ r = 9 ∨ r = 10 ∨ r = 11 ∨ r = 12 := by omega
  rw [List.map_cons, e]
  rcases hr with rfl | rfl | rfl | rfl | rfl | rfl | rfl | rfl | rfl | rfl | rfl | rfl | rfl
  all_goals
    conv => whnf
    refine Gd.mk (ble_of (by rw [List.length_cons, List.length_map]; omega)) ?_
    conv => whnf
    refine Gd.mk hb ?_
    conv => whnf
    exact ⟨rfl, k _ _ _ _⟩
theorem lst6 (w : World) (ms : List Int) (j : Nat) (h : Int) (fs : List Fm) (x y : Str) (a b c : AV) (loc : List (Str × AV)) (hok : ∀ f ∈ fs, FmOk f) (hne : fs ≠ []) (hf : fs.length ≤ 4) :
    runG T497 200 (lct w) (.s (lw w 6) (lS (("packet", a) :: ("sender", b) :: ("wider", c) :: ("row", .v (.lst (fs.map Fm.sv))) :: loc) (.vcell (.v (.tup [.str x, .str y]))) ms j h) fun f σ₁ => f = .next ∧ σ₁ = lS (("less", .v (.lst ((fs.filter (wB x y)).map Fm.sv))) :: ("packet", a) :: ("sender", b) :: ("wider", c) :: ("row", .v (.lst (fs.map Fm.sv))) :: loc) (.vcell (.v (.tup [.str x, .str y]))) ms j h) := by
  conv => whnf
  refine ⟨fs, rfl, rfl, hok, by omega, ?_⟩
  conv => whnf
  refine ⟨fs, hne, frs_pf hok, by omega, by have := ((LwAll.pf fs).len hok).1; omega, ?_⟩
  conv => whnf
  refine ⟨fs, rfl, rfl, by omega, ?_⟩
  conv => whnf
  exact ⟨rfl, rfl⟩
theorem lst7 (w : World) (ms : List Int) (j : Nat) (h : Int) (fs : List Fm) (x y : Str) (a b c : AV) (loc : List (Str × AV)) (hf : fs.length ≤ 4) :
    run T497 200 (lct w) (.s (lw w 7) (lS (("less", .v (.lst ((fs.filter (wB x y)).map Fm.sv))) :: ("packet", a) :: ("sender", b) :: ("wider", c) :: ("row", .v (.lst (fs.map Fm.sv))) :: loc) (.vcell (.v (.tup [.str x, .str y]))) ms j h) fun f σ₁ => f = .next ∧ σ₁ = lS (("less", .v (.lst ((fs.filter (wB x y)).map Fm.sv))) :: ("packet", a) :: ("sender", b) :: ("wider", c) :: ("row", .v (.lst (fs.map Fm.sv))) :: loc) (.vcell (.v (.tup [.str x, .str y]))) ms j h) := by
  conv => whnf
  refine Gd.mk (ble_of (by rw [List.length_map]; omega)) ?_
  refine ⟨?_⟩
  refine comp_filter Fm.sv Fm.sv (wB x y) 20 _ _ _ (Nat.le_trans (m := 41) (by omega) (by decide)) (fun f _ n K' hk => ?_) (fun f _ n K' hk => ?_) ?_
  · obtain ⟨tl, e, hb⟩ := sv_head f
    rw [e] at hk ⊢
    conv => whnf
    refine Gd.mk hb ?_
    conv => whnf
    rw [strAny_two]
    conv => whnf
    exact hk
  · conv => whnf
    exact hk
  · rw [List.nil_append]
    conv => whnf
    refine .inl ⟨rfl, svs_ok _, ?_⟩
    conv => whnf
    exact ⟨rfl, rfl⟩
theorem lst8a (w : World) : ∃ p1 p2 p3 p4 q1 q2 q3 q4 q5 q6 q7 , lw w 8 = .Return (some (.BoolOp .Or [.Compare (.Name "less" p1) [.Eq] [.List [] p2] p3, .Call (.Name "_law_packet_right" q1) [.Name "less" q2, .Name "packet" q3, .Name "sender" q4, .Name "wider" q5] [] q6] p4)) q7 ∧ mutB p2 [429010] = false := ⟨_, _, _, _, _, _, _, _, _, _, _, rfl, rfl⟩
theorem lst4a (w : World) : ∃ q0 q1 q2 q3 q4 q5 q6 q7 q8 q9, lw w 4 = .If (.UnaryOp .Not (.Call (.Name "_law_packet_right" q1) [.Name "row" q2, .Name "packet" q3, .Name "sender" q4, .Name "wider" q5] [] q6) q0) [.Return (some (.Constant (.bool false) 0 q7)) q8] [] q9 := ⟨_, _, _, _, _, _, _, _, _, _, rfl⟩
end
section
theorem pktCall {X : Fx} {ms : List Int} {j : Nat} {h : Int} {loc : List (Str × AV)} {kd : SObj} (c : Ctx T497 X (lct X.w)) (hD : 10 ≤ X.D) (hU : 40 ≤ X.U) (ag : Agr X (cxOf (scp 497 X.w.params) 0)) (n : Str) (fs : List Fm) (p : Pk) (cl : Bool) (wd : Wd)
    (hok : ∀ f ∈ fs, FmOk f) (hl : fs.length ≤ 4) (hne : fs ≠ []) (hw : wd.Ok) {q1 q2 q3 q4 q5 q6 : Pos} {K : SV → Fx → SS → Prop}
    (J : ∀ q, JE X (.Name n q) (lS loc kd ms j h) fun a σ₁ => a = .v (.lst (fs.map Fm.sv)) ∧ σ₁ = lS loc kd ms j h) (Jp : ∀ q, JE X (.Name "packet" q) (lS loc kd ms j h) fun a σ₁ => a = .v (.str p.short) ∧ σ₁ = lS loc kd ms j h)
    (Js : ∀ q, JE X (.Name "sender" q) (lS loc kd ms j h) fun a σ₁ => a = .v (.str (cliS cl)) ∧ σ₁ = lS loc kd ms j h) (Jw : ∀ q, JE X (.Name "wider" q) (lS loc kd ms j h) fun a σ₁ => a = .v wd.sv ∧ σ₁ = lS loc kd ms j h)
    (k : ∀ X₂, Xc X X₂ → K (.bool true) X₂ (lS loc kd ms j h)) : JEX X (.Call (.Name "_law_packet_right" q1) [.Name n q2, .Name "packet" q3, .Name "sender" q4, .Name "wider" q5] [] q6) (lS loc kd ms j h) K := by
  have kind : ∀ y k, (scp 497 X.w.params).names.lookup y = k → X.env.kindOf y = k := fun y k z => by show X.env.scope.names.lookup y = k; rw [ag.names]; exact z
  refine JEX_Call c.ok (ok492x X.w) hD hU rfl (by kernel_rfl) (kind "_law_packet_right" _ (by kernel_rfl)) (by decide) (by kernel_rfl) (.of ?_)
  refine JL_cons rfl ((J _).mono fun a σ₁ z => ?_)
  obtain ⟨rfl, rfl⟩ := z
  refine JL_cons rfl ((Jp _).mono fun a σ₁ z => ?_)
  obtain ⟨rfl, rfl⟩ := z
  refine JL_cons rfl ((Js _).mono fun a σ₁ z => ?_)
  obtain ⟨rfl, rfl⟩ := z
  refine JL_cons rfl ((Jw _).mono fun a σ₁ z => ?_)
  obtain ⟨rfl, rfl⟩ := z
  exact JL_nil ⟨rfl, fs, p, cl, wd, rfl, rfl, rfl, rfl, rfl, hok, hl, hne, hw, k⟩
theorem next_K {X : Fx} {st : Stmt} {rest : List Stmt} {σ : SS} {K : Bool → Prop} (h : JSG X st σ fun f σ₁ => f = .next ∧ JBX X rest σ₁ K) : JBX X (st :: rest) σ K :=
  JBX_step (h.mono fun f σ₁ z => by obtain ⟨rfl, z⟩ := z; exact z)
theorem lawBody (X : Fx) (ns : List Int) (O : X.Ok) (hD : X.D = 10) (hU : X.U = 40) (ag : Agr X (cxOf (scp 497 X.w.params) 0)) (hme : X.env = X.me) (hn : ns.length ≤ 63) :
    JBX X (bd 497 X.w.params) (entSS (scp 497 X.w.params) ["script"] [.v (.lst (ns.map SV.int))] []) fun b => b = true := by
  have tb : TbOk X.w X.D X.U T497 := by rw [hD, hU]; exact (tbOk (.cons (g_9 X.w) (.cons (g_75 X.w) (.cons (g_78 X.w) (.cons (g_91 X.w) (.cons (g_62 X.w) (.cons (g_51 X.w) (.cons (g_72 X.w) .nil))))))) (.cons (ok426 X.w) (by decide) (by decide) (by kernel_rfl) (.cons (ok447 X.w) (by decide) (by decide) (by kernel_rfl) (.cons (ok337 X.w) (by decide) (by decide) (by kernel_rfl) (.cons (ok262 X.w) (by decide) (by decide) (by kernel_rfl) .nil)))) (.cons (ok404 X.w) (by decide) (by decide) (by kernel_rfl) .nil) .nil .nil)
  have cx : Ctx T497 X (lct X.w) := ⟨O, ⟨ag.names, ag.vid, fun _ => ag.comp, quiet_of O⟩, tb, by rw [hU]; decide⟩
  have hc := ag.comp
  have hms : (ns.take 40).length ≤ 63 := Nat.le_trans (List.length_take_le' _ _) hn
  rw [b497]
  refine next_of (.of (run_sound T497 200 X _ (.s _ _ _) cx (lst0 X.w ns hn))) ?_
  refine next_K (.of (run_sound T497 200 X _ (.s _ _ _) cx (lst1 X.w _ _ _ hms _ fun fs j h hok hl hne hj hh => ?_)))
  refine next_K (.of (run_sound T497 200 X _ (.s _ _ _) cx (lst2 X.w _ _ _ _ _ hms hj hh _ fun wd j h hwd hj hh => ?_)))
  refine next_K (.of (run_sound T497 200 X _ (.s _ _ _) cx (lst3 X.w _ _ _ _ _ hms hj hh _ fun p cl j h hj hh => ?_)))
  obtain ⟨q0, q1, q2, q3, q4, q5, q6, q7, q8, q9, e⟩ := lst4a X.w
  rw [e]
  have nm : ∀ (X : Fx) (n : Str) (q : Pos) (σ : SS) (K : AV → SS → Prop), Ctx T497 X (lct X.w) → run T497 100 (lct X.w) (.e (.Name n q) σ K) → JE X (.Name n q) σ K := fun X n q σ K c r => run_sound T497 100 X _ (.e _ _ _) c r
  refine JBX_IfX (JTX_Not (JTX_bool (pktCall cx (by omega) (by omega) ag "row" fs p cl wd hok hl hne hwd (fun q => nm X _ _ _ _ cx (by (conv => whnf); exact ⟨rfl, rfl⟩)) (fun q => nm X _ _ _ _ cx (by (conv => whnf); exact ⟨rfl, rfl⟩)) (fun q => nm X _ _ _ _ cx (by (conv => whnf); exact ⟨rfl, rfl⟩)) (fun q => nm X _ _ _ _ cx (by (conv => whnf); exact ⟨rfl, rfl⟩)) fun X₂ h2 => ⟨true, rfl, ?_⟩) rfl))
  show JBX X₂ _ _ _
  have cx2 := ctx2 cx h2 hc
  have eW : X₂.w = X.w := by rw [h2.eq]
  have hD2 : X₂.D = X.D := by rw [h2.eq]
  have hU2 : X₂.U = X.U := by rw [h2.eq]
  have ag2 : Agr X₂ (cxOf (scp 497 X₂.w.params) 0) := by
    obtain ⟨a1, a2, a3⟩ := ag
    rw [h2.eq]; exact ⟨a1, a2, a3⟩
  rw [← eW] at cx2
  refine next_K (.of (run_sound T497 200 X₂ _ (.s _ _ _) cx2 (eW ▸ lst5 X.w _ _ _ fs _ _ _ _ .vnone hms hj hh hne hl _ fun x y j h => ?_)))
  refine next_of (runG_sound T497 200 X₂ _ (.s _ _ _) cx2 (eW ▸ lst6 X.w _ _ _ fs x y _ _ _ _ hok hne hl)) ?_
  refine next_of (.of (run_sound T497 200 X₂ _ (.s _ _ _) cx2 (eW ▸ lst7 X.w _ _ _ fs x y _ _ _ _ hl))) ?_
  obtain ⟨p1, p2, p3, p4, q1, q2, q3, q4, q5, q6, q7, e8, hm⟩ := lst8a X₂.w
  rw [e8]
  refine JBX_RetX (JEX_Or cx2.ok (run_sound T497 100 X₂ _ (.e _ _ _) cx2 ?_) rfl)
  conv => whnf
  rw [show mutB p2 (lct X₂.w).mu = false from hm]
  conv => whnf
  cases z : fs.filter (wB x y) with
  | nil =>
    refine .inl ⟨rfl, rfl, ?_⟩
    conv => whnf
    exact ⟨true, rfl, fun _ X₃ _ => ⟨true, rfl, rfl⟩, fun q => by cases q⟩
  | cons f fs' =>
    refine .inr ⟨(fun q => by cases q), ?_⟩
    conv => whnf
    refine ⟨false, rfl, (fun q => by cases q), fun _ => ?_⟩
    have hm2 : ∀ g ∈ f :: fs', g ∈ fs := fun g m => by rw [← z] at m; exact (List.mem_filter.mp m).1
    have hl2 : (f :: fs').length ≤ 4 := by rw [← z]; exact Nat.le_trans (List.length_filter_le _ _) hl
    exact pktCall cx2 (by omega) (by omega) ag2 "less" (f :: fs') p cl wd (fun g m => hok g (hm2 g m)) hl2 (fun q => by cases q) hwd (fun q => nm X₂ _ _ _ _ cx2 (by (conv => whnf); exact ⟨rfl, rfl⟩)) (fun q => nm X₂ _ _ _ _ cx2 (by (conv => whnf); exact ⟨rfl, rfl⟩)) (fun q => nm X₂ _ _ _ _ cx2 (by (conv => whnf); exact ⟨rfl, rfl⟩)) (fun q => nm X₂ _ _ _ _ cx2 (by (conv => whnf); exact ⟨rfl, rfl⟩)) fun X₃ h3 => ⟨true, rfl, rfl⟩
end
section
theorem enterTop {w : World} {f : Addr} {D U : Nat} {qual : Str} {params : Arguments} {body : List Stmt} {sc : Scope} {ns : List Str}
    (hf : FnIn w f qual params body sc) (hb : Bnd params ns)
    (hc : ScOk sc ns) (hdp : 1 + claimMargin + (D + 1) < recursionLimit) (hun : 4 + (U + 3) < cLine)
    {s : Shared} (hT : ∃ mean mg mb, Top lq ll mean mg mb s.heap) (kf : (tp.heap_1 w.params).In s.heap) {vs : List Value} {as : List AV} (R : ARs (Pz s.heap fun _ => False) w [] vs as) (hlen : as.length = ns.length) {Q : Value → Shared → Prop}
    (h : ∀ (X : Fx) (ow : Addr → Prop) (ρ : List Addr) (h₁ : Heap) (tk : Nat), X.Ok → X.w = w → X.D = D → X.U = U → Agr X (cxOf sc 0) → X.outer = [] → X.base = s.heap → X.h₀ = s.heap → X.comp = none → X.env = envX X.cn X.cs X.L X.fa X.ccd X.cl → SR X ow ρ h₁ (entSS sc ns as []) →
      wpG (model lawP w) X.A (execs body X.env) (fun fl s' => Q (match fl with | .ret v => v | _ => .none) s') F0 { s with heap := h₁, toks := tk }) :
    wpG (model lawP w) callerA (PySem.call (.ref f) vs) Q F0 s := by
  obtain ⟨o, fd, ⟨ho, hd, hco, hgen, hbody, hcd⟩, go⟩ := enterCore (D := D) (U := U) hf hb hc (A := callerA) (dp := 1 + claimMargin) (un := 4) (gd := some []) (outer := []) (base := s.heap) (fun _ _ _ => rfl) hdp hun (fun _ => False) s [] [] [] vs as (below_caller s.heap) hT (fun a o e => ⟨kf a o e, fun z => z⟩)
    (fun a m => by cases m) (fun a m => by cases m) (fun a z => z.elim) List.nodup_nil Cels.nil R hlen
  refine wpG_call (codeG_call_function (by decide) ho hd hco hgen hbody hcd (go (fun env s₂ => codeG (model lawP w) callerA (.func body env) _ s₂) _ fun X ca h₁ tk T => codeG_func ?_))
  have J := h X _ _ h₁ tk T.ok T.w T.D T.U T.ag T.outer T.base T.h₀ T.comp T.me T.S
  rw [T.A] at J
  exact J
end
section
theorem lw_eq : looseW lq ll = ll := by kernel_rfl
theorem ints_of : ∀ {xs : List WData}, WShape.hasItems [] xs .int = true → ∃ ns : List Int, xs = ns.map WData.int
  | [], _ => ⟨[], rfl⟩
  | x :: xs, h => by
    unfold WShape.hasItems at h
    obtain ⟨h1, h2⟩ := Bool.and_eq_true_iff.mp h
    obtain ⟨i, rfl⟩ := hasW_int h1
    obtain ⟨ns, rfl⟩ := ints_of h2
    exact ⟨i :: ns, rfl⟩
theorem pre_args {args : List WData} (h : lawR.claim.pre args = true) : ∃ ns : List Int, args = [.list (ns.map WData.int)] ∧ ns.length ≤ 63 := by
  obtain ⟨h1, h2⟩ := pre_splitW h
  obtain ⟨d, r, rfl, h3, h4⟩ := hasAllW_cons (e := .list .int) (es := []) h1
  obtain rfl := hasAllW_nil h4
  obtain ⟨xs, rfl, h5⟩ := hasW_list h3
  obtain ⟨ns, rfl⟩ := ints_of h5
  refine ⟨ns, rfl, ?_⟩
  obtain ⟨h6, _⟩ := holds_andW (a := .not (.lt (.lit (.int 63)) (.len (.arg 0)))) (b := .lit (.bool true)) h2
  w_cond h6
  rename_i hc
  rw [List.length_map] at hc
  omega
theorem ints_vr {P : Addr → Obj → Prop} {Pm : Params} {w : World} {h : Heap} : ∀ {ns : List Int} {vs : List Value}, WellAll Pm h vs (ns.map WData.int) → VRs P w vs (ns.map SV.int)
  | [], vs, h => by cases h; exact .nil
  | n :: ns, vs, h => by
    cases h with
    | cons a b => cases a; exact .cons (.int _ _) (ints_vr b)
theorem good_of {w : World} {s₀ s₁ : Shared} {args : List WData} {h' : Heap} {tk' : Nat} (hg : s₁.gens = #[]) (k : ∀ b o, s₁.heap.get? b = some o → h'.get? b = some o) :
    GoodWG lawR.claim (classAt s₀.heap) (ExcName.means s₀.heap) args s₁ (.ok (.ret (.bool true))) { s₁ with heap := h', toks := tk' } := by
  refine ⟨.inl ⟨_, _, [], rfl, fun cls => rfl, .bool true, ?_, fun _ => ⟨List.nodup_nil, fun a m => by cases m⟩⟩, .of_keep k, rfl, .of_eq hg⟩
  exact postW_of (by wrow_shape) (by wtm_val) (by w_fin)
end
section
theorem lawWalk {D U : Nat} (hdp : 1 + claimMargin + (D + 1) < recursionLimit) (hun : 4 + (U + 3) < cLine) (jb : ∀ (X : Fx) (ns : List Int), X.Ok → X.D = D → X.U = U → Agr X (cxOf (scp 497 X.w.params) 0) → X.env = X.me → ns.length ≤ 63 →
      JBX X (bd 497 X.w.params) (entSS (scp 497 X.w.params) ["script"] [.v (.lst (ns.map SV.int))] []) fun b => b = true)
    {d : DefRec} {kwd : List (Str × Expr)} (hdef : d.name = "law") : WalkG (fun w h => (tp.heap_1 w.params).In h) d kwd := by
  intro w s₀ s₁ mg mb G K a o pm cd doc dV kV ho hd hcd hD hmg hg args vals as hpre hlay hrd hwl hlo
  obtain ⟨ns, rfl, hl⟩ := pre_args hpre
  have ha : mg "law" = some (.ref 497) := ns_some_of K G.T.g (by kernel_rfl)
  rw [hdef, ha] at hmg
  obtain rfl : 497 = a := by injection hmg with e; injection e
  obtain ⟨v, rfl, hv⟩ : ∃ v, vals = [v] ∧ VR (Pz s₁.heap fun _ => False) w v (.lst (ns.map SV.int)) := by
    cases hwl with
    | cons h1 h2 =>
      cases h2
      cases h1 with
      | list h3 h4 => exact ⟨_, rfl, .lst ⟨h3, fun z => z⟩ (ints_vr h4)⟩
  have hT : ∃ mean mg mb, Top lq ll mean mg mb s₁.heap := ⟨_, _, _, lw_eq ▸ G.T⟩
  refine (enterTop (ns := ["script"]) (in497 w) (bind497 w) (okk497 w) hdp hun hT K (as := [.v (.lst (ns.map SV.int))]) (.cons (.v hv) .nil) rfl (Q := fun v s' => GoodWG lawR.claim (classAt s₀.heap) (ExcName.means s₀.heap) _ s₁ (.ok (.ret v)) s') ?_).mono (fun _ _ z => z) fun _ _ z => z.elim
  intro X ow ρ h₁ tk O hw hD hU ag hout hbase hh hcomp hme S
  subst hw
  refine jb X ns O hD hU ag hme hl ow ρ { s₁ with heap := h₁, toks := tk } S ⟨by rw [hbase]; exact hT, fun a m => ?_⟩ _ fun b h' tk' kp kb => ?_
  · rw [hout] at m; cases m
  · subst kb
    rw [hh, hout] at kp
    exact good_of (w := X.w) (s₁ := s₁) hg fun b o e => kp.keep b o e fun m => by cases m
end
theorem law_holds : Challenge.rw_nz0355_01.Holds := hd (lawWalk (D := 10) (U := 40) (by decide) (by decide) lawBody rfl)
end Mine
theorem PySem.Challenge.cw_nz0355_01_holds : PySem.Challenge.rw_nz0355_01.Holds :=
  Mine.law_holds
