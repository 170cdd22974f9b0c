import PyProof.Rows.All
import Wide.All
import OpenK.AllK
import Wide.FinOn
import PyProof.ExcArgsOwn
import PyProof.ExcAttrAll.Exception
import PyProof.ExcInit
import PyProof.InstLoad
import PyProof.InstStoreFacts
import Flt.Ops
import KE.KAssignIn
import KE.LcSums
import KE.KBytesCut
import KE.KTryDeep
import Lean
import PySem.Challenge.RW_nz0355_01
open PySem PySem.W PySem.Calls PyProof.Rows
set_option Elab.async false
set_option linter.unusedVariables false
set_option maxRecDepth 100000
set_option maxHeartbeats 0
set_option genInjectivity false
set_option genSizeOf false
set_option bootstrap.genMatcherCode false
namespace Mine
section
noncomputable def exC {α : Type} (d : α) (bool : BoolOp → List Expr → Pos → α := fun _ _ _ => d) (bin : Expr → Operator → Expr → Pos → α := fun _ _ _ _ => d) (un : UnaryOp → Expr → Pos → α := fun _ _ _ => d) (ife : Expr → Expr → Expr → Pos → α := fun _ _ _ _ => d) (dict : List (Option Expr) → List Expr → Pos → α := fun _ _ _ => d)
  (set : List Expr → Nat → Pos → α := fun _ _ _ => d) (lc : Expr → List Comprehension → Scope → Pos → α := fun _ _ _ _ => d) (sc : Expr → List Comprehension → Scope → Pos → α := fun _ _ _ _ => d) (dc : Expr → Expr → List Comprehension → Scope → Pos → α := fun _ _ _ _ _ => d) (cmp : Expr → List CmpOp → List Expr → Pos → α := fun _ _ _ _ => d)
  (call : Expr → List Expr → List Keyword → Pos → α := fun _ _ _ _ => d) (con : Const → Nat → Pos → α := fun _ _ _ => d) (att : Expr → Str → Pos → α := fun _ _ _ => d) (sub : Expr → Expr → Pos → α := fun _ _ _ => d) (star : Expr → Pos → α := fun _ _ => d) (name : Str → Pos → α := fun _ _ => d) (lst : List Expr → Pos → α := fun _ _ => d) (tup : List Expr → Nat → Pos → α := fun _ _ _ => d)
  (slice : Option Expr → Option Expr → Option Expr → Pos → α := fun _ _ _ _ => d) (e : Expr) : α :=
 Expr.casesOn (motive_1 := fun _ => α) e bool (fun _ _ _ => d) bin un (fun _ _ _ _ => d) ife dict set lc sc dc (fun _ _ _ _ => d) (fun _ _ => d) (fun _ _ => d) (fun _ _ => d) cmp call (fun _ _ _ _ => d) (fun _ _ => d) con att sub star name lst tup slice
noncomputable def smC {α : Type} (d : α) (fdef : Arguments → List Stmt → Scope → α := fun _ _ _ => d) (cdef : List Stmt → Scope → α := fun _ _ => d) (ret : Option Expr → α := fun _ => d) (asg : List Expr → Expr → Pos → α := fun _ _ _ => d) (aug : Expr → Operator → Expr → α := fun _ _ _ => d)
  (for_ : Expr → Expr → List Stmt → List Stmt → α := fun _ _ _ _ => d) (whl : Expr → List Stmt → List Stmt → α := fun _ _ _ => d) (if_ : Expr → List Stmt → List Stmt → α := fun _ _ _ => d) (try_ : List Stmt → List ExceptHandler → List Stmt → List Stmt → α := fun _ _ _ _ => d) (exp : Expr → α := fun _ => d) (pass : α := d) (s : Stmt) : α :=
 Stmt.casesOn (motive_2 := fun _ => α) s (fun _ a b _ _ _ sc _ _ _ => fdef a b sc) (fun _ _ _ _ _ _ _ _ _ _ => d) (fun _ _ _ b _ _ sc _ _ _ _ => cdef b sc) (fun e _ => ret e) (fun _ _ => d) (fun ts v p => asg ts v p) (fun _ _ _ _ _ _ _ => d) (fun t o v _ => aug t o v) (fun _ _ _ _ _ => d) (fun t i b o _ => for_ t i b o) (fun _ _ _ _ _ => d) (fun t b o _ => whl t b o) (fun t a b _ => if_ t a b) (fun _ _ _ => d) (fun _ _ _ => d) (fun _ _ _ => d) (fun _ _ _ => d) (fun b h o f _ => try_ b h o f) (fun _ _ _ _ _ => d) (fun _ _ _ => d) (fun _ _ => d) (fun _ _ _ _ => d) (fun _ _ => d) (fun _ _ => d) (fun e _ => exp e) (fun _ => pass) (fun _ => d) (fun _ => d)
noncomputable def uV : List Obj → Nat → BT → BT
 | [], _, t => t
 | o :: r, n, t => uV r (n + 1) (t.ins n o)
noncomputable def s0 (P : Params) (os : OsState) : SharedT := ⟨uV (boot_heap P).objs.toList 0 .nil, 11, (boot_heap P).life, #[], boot_drawn, boot_toks, os⟩
theorem zX (P : Params) (os : OsState) : (s0 P os).abs = ⟨boot_heap P, #[], boot_drawn, boot_toks, os⟩ := by kernel_rfl!
noncomputable def xJ (p : Program) (w : World) (nz0 : Nat) (ann : Option Value) : Nat → SharedT → Thread → Option SharedT
 | 0, _, _ => none
 | n + 1, s, t => match through t with
  | true => some s
  | false => match stepOk nz0 ann t with
   | false => none
   | true => match PySem.W.Fast.tw10156331382660048174 (PySem.W.Fast.tw11892475500146522536 PySem.W.Fast.tw14364793385576792824) p w s t with
    | some (s', t') => xJ p w nz0 ann n s' t'
    | none => none
theorem rh : PySem.W.Fast.tw10156331382660048174 (PySem.W.Fast.tw11892475500146522536 PySem.W.Fast.tw14364793385576792824) = stepT (denote treeTable) := by
 rw [← PySem.W.Fast.te10156331382660048174, ← PySem.W.Fast.te11892475500146522536, ← PySem.W.Fast.te14364793385576792824]
theorem j6 {p : Program} {w : World} {nz0 : Nat} {ann : Option Value} : ∀ {n : Nat} {s s' : SharedT} {t : Thread}, xJ p w nz0 ann n s t = some s' → topRun treeTable p w nz0 ann n s.abs t = some s'.abs
 | 0, _, _, _, h => by cases h
 | n + 1, s, s', t, h => by
  unfold xJ at h
  unfold topRun
  cases ht : through t with
  | true => rw [ht] at h; cases h; rfl
  | false =>
   rw [ht] at h
   cases hk : stepOk nz0 ann t with
   | false => rw [hk] at h; cases h
   | true =>
    rw [hk] at h
    rw [rh] at h
    cases hs : stepT (denote treeTable) p w s t with
    | none => rw [hs] at h; cases h
    | some r => obtain ⟨sz2, tz2⟩ := r; rw [hs] at h; rw [stepT_spec hs]; exact j6 h
theorem vH {p q : Program} {loose : List Str} {Xt : Shared → Bool} {α : Type} {Yf : Shared → α} {Ya : World → α} {N : Nat} {g0 : Bool} {H0 : Params → Heap} {gs0 : Array GenState} {dz0 : Drawn} {kz0 : Nat} {mz0 : Nat} {ann : Option Value}
  (open_ : ∀ w : World, (fencedOpening treeTable p w N).map (fun s => (s.heap, s.gens, s.drawn, s.toks)) = some (H0 w.params, gs0, dz0, kz0))
  (size : ∀ w : World, ((H0 w.params).isNs mainGlobals && gs0.size == 0, (H0 w.params).objs.size, (H0 w.params).nsMap mainGlobals "__annotations__") = (true, mz0, ann))
  (run : ∀ (w : World) (os : OsState), ∃ s₁, topRun treeTable p w mz0 ann N ⟨H0 w.params, gs0, dz0, kz0, os⟩ (topStub p) = some s₁ ∧
   (staticsOk (importedModules p.main.body) (H0 w.params) s₁.heap && namesBound p s₁.heap && gensDone s₁ && laidKept (H0 w.params) s₁.heap) = true ∧
   openSeen q loose (importedModules p.main.body) Xt g0 s₁ = openGood q loose ∧ Yf s₁ = Ya w) : LeftO p q loose Xt Yf Ya N g0 := fun w => by
 obtain ⟨⟨h, gs, d, k, os⟩, e, e'⟩ := Option.map_eq_some_iff.mp (open_ w)
 obtain ⟨rfl, rfl, rfl, rfl⟩ : h = H0 w.params ∧ gs = gs0 ∧ d = dz0 ∧ k = kz0 := by simpa using e'
 obtain ⟨z1, z2, z3⟩ : _ ∧ _ ∧ _ := by simpa only [Prod.mk.injEq] using size w
 obtain ⟨s₁, r, l1, l2, l3⟩ := run w os
 have t : topFrom treeTable p w N ⟨H0 w.params, gs, d, k, os⟩ = some s₁ := by
  unfold topFrom
  dsimp only
  rw [z1, z2, z3, r]
  show (match staticsOk (importedModules p.main.body) (H0 w.params) s₁.heap && namesBound p s₁.heap && gensDone s₁ && laidKept (H0 w.params) s₁.heap with | true => _ | false => _) = _
  rw [l1]
 unfold openEnds
 rw [e]
 show (topFrom treeTable p w N _).map _ = _
 rw [t]
 exact congrArg some (Prod.ext l2 l3)
theorem CN : ∀ w : World, (fencedOpening treeTable Challenge.pw_nz0355_01 w 4200).map (fun s => (s.heap, s.gens, s.drawn, s.toks)) = some (boot_heap w.params, Array.mk [], boot_drawn, boot_toks) :=
 boot_open (by kernel_rfl!) (by kernel_rfl!) (fun s => by kernel_rfl!)
theorem A7 : ∀ w : World, ((boot_heap w.params).isNs mainGlobals && (Array.mk [] : Array GenState).size == 0, (boot_heap w.params).objs.size, (boot_heap w.params).nsMap mainGlobals "__annotations__") = (true, 11, some (.ref 6)) := fun w => by kernel_rfl!
noncomputable abbrev af : Program := Challenge.pw_nz0355_01
noncomputable def lq : Program := view af [109]
noncomputable def ll : List Str := (af.main.scope.names.map (·.1)).filter fun x => x != ("law" : Str)
end
section
noncomputable def xt : Shared → Bool := fun s => xlAt lq [] s && recOk (RowW.records Challenge.rw_nz0355_01.row.toRowW) s
noncomputable def Eg (w : World) (os : OsState) : Option SharedT := xJ af w 11 (some (.ref 6)) 4200 (s0 w.params os) (topStub af)
noncomputable abbrev E8 : Type := Seen × (Option Str × List (Str × Value)) × Bool × Bool × (List (Option FnShape) × Bool) × List (Option PlainShape) × List (Option (PlainShape × Bool)) × (List (Option FnShape) × Bool) × List (Option (List (Option FnShape) × Bool) × Option (PlainShape × Bool))
noncomputable def nbQ (h : Heap) : Bool := h.isNs mainGlobals && (h.nsKeys mainGlobals).all fun k => startupNames.any (Fast.sEq k) || (Fast.tw18344453789297297638 af).any (Fast.sEq k)
theorem yE {k : Str} (l : List Str) : l.contains k = l.any (Fast.sEq k) := by
 induction l with
 | nil => rfl
 | cons a r ih =>
  rw [List.contains_cons, List.any_cons, ih]
  congr 1
  rw [Bool.eq_iff_iff, Fast.sEq_iff, beq_iff_eq]
theorem E4 : namesBound af = nbQ := by
 funext h
 unfold namesBound nbQ
 rw [← Fast.te18344453789297297638]
 congr 2
 funext k
 rw [yE, yE]
noncomputable def chk {α : Type} (Yt : SharedT → α) (w : World) (s : SharedT) : Bool × (E8 × α) :=
 (staticsOk (importedModules af.main.body) (boot_heap w.params) s.abs.heap && nbQ s.abs.heap && gensDone s.abs && laidKept (boot_heap w.params) s.abs.heap,
 PySem.W.Fast.tw4187177175401517315 lq ll (importedModules af.main.body) xt true s.abs, Yt s)
noncomputable abbrev Chk {α : Type} (Yt : SharedT → α) (Ya : World → α) (b : Bool) : Prop :=
 ∀ (w : World) (os : OsState), (Eg (w.withFollow "special-get-raises" b) os).map (chk Yt (w.withFollow "special-get-raises" b)) = some (true, openGood lq ll, Ya (w.withFollow "special-get-raises" b))
theorem lft {α : Type} {Yf : Shared → α} {Yt : SharedT → α} {Ya : World → α} (hy : ∀ w s, Yt s = Ya w → Yf s.abs = Ya w) (h0 : Chk Yt Ya false) (h1 : Chk Yt Ya true) : LeftO af lq ll xt Yf Ya 4200 := by
 have key : ∀ (b : Bool), Chk Yt Ya b → ∀ (w : World) (os : OsState), ∃ s₁, topRun treeTable af (w.withFollow "special-get-raises" b) 11 (some (.ref 6)) 4200 ⟨boot_heap (w.withFollow "special-get-raises" b).params, Array.mk [], boot_drawn, boot_toks, os⟩ (topStub af) = some s₁ ∧
   (staticsOk (importedModules af.main.body) (boot_heap (w.withFollow "special-get-raises" b).params) s₁.heap && namesBound af s₁.heap && gensDone s₁ && laidKept (boot_heap (w.withFollow "special-get-raises" b).params) s₁.heap) = true ∧
   openSeen lq ll (importedModules af.main.body) xt true s₁ = openGood lq ll ∧ Yf s₁ = Ya (w.withFollow "special-get-raises" b) := by
  intro b h w os
  obtain ⟨s, hs, e⟩ := Option.map_eq_some_iff.mp (h w os)
  have r := j6 hs
  rw [zX] at r
  unfold chk at e
  rw [← PySem.W.Fast.te4187177175401517315, ← E4] at e
  obtain ⟨e1, e2⟩ := Prod.mk.inj e
  obtain ⟨e2, e3⟩ := Prod.mk.inj e2
  exact ⟨_, r, e1, e2, hy _ _ e3⟩
 exact vH CN A7 (fun w os => byRow2 "special-get-raises" (P := fun w => ∃ s₁, topRun treeTable af w 11 (some (.ref 6)) 4200 ⟨boot_heap w.params, Array.mk [], boot_drawn, boot_toks, os⟩ (topStub af) = some s₁ ∧
   (staticsOk (importedModules af.main.body) (boot_heap w.params) s₁.heap && namesBound af s₁.heap && gensDone s₁ && laidKept (boot_heap w.params) s₁.heap) = true ∧
   openSeen lq ll (importedModules af.main.body) xt true s₁ = openGood lq ll ∧ Yf s₁ = Ya w) (fun w => key false h0 w os) (fun w => key true h1 w os) w)
theorem Cq : OpenLaw.wellSaid Challenge.rw_nz0355_01 = true := by
 rw [PySem.W.Fast.te9446332074065402090]; kernel_rfl
end
section
noncomputable def hW : List String := ["bytearray.__contains__", "bytearray.__mod__", "bytearray.__rmod__", "_struct.pack_into.held", "bytearray.find.held"] ++ Builtin.Bytes.decodersThatHold
noncomputable def okC : Code → Bool
 | .builtin id _ => !hW.contains id
 | _ => true
noncomputable def GS (l : List (Code × Pos)) : Prop := ∀ x ∈ l, okC x.1 = true
noncomputable def wpG {α : Type} (M : Model) (A : Around) (t : Sem α) (Q : α → Shared → Prop) (E : Value → Shared → Prop) (s : Shared) : Prop :=
 ∀ Γ p, Γ.In A → okC Γ.code = true → GS Γ.below → Sem.wp M Γ t (fun a _ s' => Q a s') (fun e _ s' => E e s') p s
theorem wpG.of {α : Type} {M : Model} {A : Around} {E : Value → Shared → Prop} {s : Shared} {t : Sem α} {Q : α → Shared → Prop} (h : wpAny M A t Q E s) : wpG M A t Q E s := fun Γ p i _ _ => h Γ p i
theorem wpG.mono {α : Type} {M : Model} {A : Around} {E : Value → Shared → Prop} {s : Shared} {t : Sem α} {Q Q' : α → Shared → Prop} {E' : Value → Shared → Prop} (h : wpG M A t Q E s) (hQ : ∀ a s, Q a s → Q' a s) (hE : ∀ e s, E e s → E' e s) : wpG M A t Q' E' s :=
 fun Γ p a b c => Sem.wp_mono M Γ t (fun a _ s => hQ a s) (fun e _ s => hE e s) p s (h Γ p a b c)
theorem ac {α β : Type} {M : Model} {A : Around} {E : Value → Shared → Prop} {s : Shared} {m : Sem α} {f : α → Sem β} {Q : β → Shared → Prop} (h : wpG M A m (fun a s' => wpG M A (f a) Q E s') E s) : wpG M A (m >>= f) Q E s := fun Γ p a b c => by
 rw [Sem.wp_bind']
 exact Sem.wp_mono M Γ m (fun x p' s' h' => h' Γ p' a b c) (fun _ _ _ h' => h') p s (h Γ p a b c)
inductive Bm (prog : Program) (w : World) (t : Sem Fin) (s : Shared) (R : Result → Shared → Prop) : Prop
 | mk (n : Nat) (r : Result) (s' s'' : Shared) (_ : runN (denote table) prog w n s ⟨t, .builtin "claim.caller" {}, default, []⟩ = .halted (outcomeOf r) s')
  (_ : schedN (denote table) prog w n (.single s ⟨t, .builtin "claim.caller" {}, default, []⟩) = .halted (outcomeOf r) s') (_ : s'.forget = s''.forget) (_ : R r s'')
theorem zN {prog : Program} {w : World} {t : Sem Fin} {s : Shared} {R : Result → Shared → Prop} (hreg : s.asleep)
  (h : wpG (model prog w) callerA t (fun fin s' => ∃ f, fin = .done f ∧ R (.ok f) s' ∧ leftWithCleanup s'.gens = false) (fun e s' => R (.error e) s' ∧ leftWithCleanup s'.gens = false) s) :
  Bm prog w t s R := by
 have h' : Sem.wp (model prog w) ⟨.builtin "claim.caller" {}, none, none, [], none⟩ t (Sem.finPost (model prog w) ⟨.builtin "claim.caller" {}, none, none, [], none⟩ fun r s' => R r s' ∧ leftWithCleanup s'.gens = false)
   (fun e _ s' => R (.error e) s' ∧ leftWithCleanup s'.gens = false) default s :=
  Sem.wp_mono _ _ t (fun fin p' s' ⟨f, e, q⟩ => by subst e; exact q) (fun _ _ _ q => q) default s (h _ default caller_in (by decide) (fun x m => by cases m))
 obtain ⟨n, r, s₁, sz2, a, b, c, d⟩ := wp_halts_full (M := model prog w) (R := R) hreg h'
 exact ⟨n, r, sz2, s₁, b, a, c, d⟩
abbrev bP : OpenRow := Challenge.rw_nz0355_01.row
noncomputable abbrev pU (YP : World → Heap → Prop) (d : DefRec) (kwd : List (Str × Expr)) : Prop :=
 ∀ (w : World) (sz0 s₁ : Shared) (mg mb : Str → Option Value), Ground lq ll [] (XL lq []) w sz0 mg mb s₁.heap → YP w s₁.heap → ∀ (a : Addr) (o : Obj) (pm cd doc dV kV : Value), s₁.heap.get? a = some o →
  o.data = .func { docDef d.name d.params d.body d.scope pm cd doc with defaults := dV, kwdefaults := kV } → s₁.heap.CodeRec cd d.name → Dflts mg s₁.heap d.params kwd dV kV → mg d.name = some (.ref a) → s₁.gens = #[] →
  ∀ (args : List WData) (vals : List Value) (as : List Addr), bP.claim.pre args = true → WData.layableAll args = true → ReadsAllW [] (classAt sz0.heap) s₁.heap vals args as → WellAll w.params s₁.heap vals args → (∀ a ∈ as, (a == sysModules) = false) →
   wpG (model af w) callerA (PySem.call (.ref a) vals) (fun v s' => GoodWG bP.claim (classAt sz0.heap) (ExcName.means sz0.heap) args s₁ (.ok (.ret v)) s')
    (fun e s' => GoodWG bP.claim (classAt sz0.heap) (ExcName.means sz0.heap) args s₁ (.error e) s') s₁
theorem hide {G : Prop} (k : ∀ P : Prop, (G → P) → P) : G := k G id
inductive RC (s s₁ : Shared) (args : List WData) (vs : List Value) (r : Result) (s' : Shared) : Prop
 | mk (_ : bP.claim.Ends s args vs s₁ r s') (_ : s'.os = s.os) (_ : bP.writes = true → namesKept af bP.keeps s.heap s'.heap ∧ ∀ x ∈ bP.records, ∀ a, classAt s.heap x.1 = some a → recordClass s'.heap a x.1 (x.2.map (·.1)) = true)
theorem A8 {YP : World → Heap → Prop} {d : DefRec} {kwd : List (Str × Expr)} (hdef : defOf lq bP.name = some (d, kwd)) (walk : pU YP d kwd) (hsame : bP.toRowW.same = none) (hi : ∀ a b, bP.claim.ident a b = true) (hwi : bP.claim.within = [])
  (hYk : ∀ w h h', YP w h → (∀ b o, h.get? b = some o → h'.get? b = some o) → YP w h') {w : World} {s : Shared} (G : Ground lq ll [] (XL lq []) w s (s.heap.nsMap mainGlobals) (s.heap.nsMap builtinsNs) s.heap) (y : YP w s.heap) (hz : s.asleep) (hgens : (s.gens.size == 0) = true)
  {free : Addr → Prop} {gens : Prop} : bP.claim.CallFrom (callStub bP.name) w free gens (fun h' => bP.writes = true → namesKept af bP.keeps s.heap h' ∧ ∀ x ∈ bP.claim.records, ∀ a, classAt s.heap x.1 = some a → recordClass h' a x.1 (x.2.map (·.1)) = true) s := by
 intro args hpre hlay ord hord
 have hgens : s.gens = #[] := Array.eq_empty_of_size_eq_zero (beq_iff_eq.mp hgens)
 refine hide fun P back => ?_
 obtain ⟨⟨vs, s₁⟩, hl⟩ := Option.isSome_iff_exists.mp (layAllW_isSome (P := w.params) (ord := ord) G.has args bP.args s (pre_splitW hpre).1)
 have keeps := layAllW_keeps _ _ _ hl
 have rest := layAllW_rest _ _ _ hl
 obtain ⟨as, hrd, hin, hold⟩ := reads_layAllW hord _ _ _ hl hlay s₁.heap (fun _ _ e => e)
 have L : Laid [] w s s₁ args vs as := ⟨⟨ord, hord, hl⟩, hrd, hin, hold, keeps, rest.1.trans hgens, rest.2.2.1⟩
 have G1 := G.keeps XL.keeps keeps
 obtain ⟨a, o, pm, cd, doc, dV, kV, h1, h2, h3, h4, h5⟩ := G1.fn hdef
 have W := walk w s s₁ _ _ G1 (hYk _ _ _ y keeps) a o pm cd doc dV kV h2 h3 h4 h5 (defOf_name hdef ▸ h1) L.gens args vs as hpre hlay L.reads L.well (L.low G.low)
 have go : wpG (model af w) callerA (do match ← nsGet mainNs bP.name with | some f => do ret (← PySem.call f vs) | none => unsupported "claim.caller:no-such-global")
   (fun fin s' => ∃ f, fin = .done f ∧ RC s s₁ args vs (.ok f) s' ∧ leftWithCleanup s'.gens = false)
   (fun e s' => RC s s₁ args vs (.error e) s' ∧ leftWithCleanup s'.gens = false) s₁ := by
  refine ac (.of (wpAny_nsGet G1.T.g ?_))
  rw [h1]
  refine ac (W.mono (fun v s' g => ?_) fun e s' g => ?_)
  ·obtain ⟨z1, z2, z3⟩ := g.laid (c := bP.claim) hsame hwi hi L
   exact .of (wpAny_pure ⟨_, rfl, ⟨z1, z2, fun q => by cases q⟩, leftWithCleanup_false_of_bare z3⟩)
  ·obtain ⟨z1, z2, z3⟩ := g.laid (c := bP.claim) hsame hwi hi L
   exact ⟨⟨z1, z2, fun q => by cases q⟩, leftWithCleanup_false_of_bare z3⟩
 obtain ⟨k, r, s', s'', hrun, hsched, hfo, hcase, hos, hkp⟩ := zN (R := RC s s₁ args vs) (Shared.asleep_of_life rest.2.2.2 hz) go
 obtain ⟨eh, _, _, eo, _⟩ := Shared.forget_eq hfo
 have hcase := hcase.congr eh
 rw [← eo] at hos
 have hlife : s'.heap.life = s.heap.life := (runN_life _ _ _ hrun).trans rest.2.2.2
 refine back ⟨vs, s₁, hl, k, _, s', hsched, ?_, (fun _ i x hx => by rw [hgens] at hx; simp at hx), (by rw [eh]; exact hkp), by rw [hlife], Shared.rest_eq hos⟩
 rcases hcase with ⟨v, rfl, d1, d2, d3, d4, d5⟩ | ⟨e, ob, cls, rfl, d1, d2, d3, d4, d5⟩
 ·exact .inl ⟨v, rfl, d1, d2, d3, fun b o y _ => d4 b o y, d5⟩
 ·exact .inr ⟨e, ob, cls, rfl, d1, d2, d3, d4, fun b o y _ => d5 b o y⟩
theorem zH {α : Type} {Yf : Shared → α} {Ya : World → α} {YP : World → Heap → Prop} {d : DefRec} {kwd : List (Str × Expr)}
  (left : LeftO af lq ll xt Yf Ya 4200) (hY : ∀ w s, Yf s = Ya w → YP w s.heap) (hYk : ∀ w h h', YP w h → (∀ b o, h.get? b = some o → h'.get? b = some o) → YP w h')
  (hdef : defOf lq bP.name = some (d, kwd)) (hp : af.theDef bP.name = some (d.params, d.body, d.scope)) (hk : kwWritten? d.params.kwonlyargs d.params.kw_defaults = some kwd)
  (k1 : bP.wellSaid = true) (ok : (chainsOk lq && opensWell af && (frees bP.toRowW && bP.within.isEmpty)) = true) (hb : af.bare) (hw : bP.toRowW.promised)
  (walk : pU YP d kwd) : bP.Holds := by
 obtain ⟨ok, k5⟩ := Bool.and_eq_true_iff.mp ok
 obtain ⟨hch, o1⟩ := Bool.and_eq_true_iff.mp ok
 obtain ⟨k5, k6⟩ := Bool.and_eq_true_iff.mp k5
 obtain ⟨hsame, hu, ha, hap, hm⟩ := frees_parts k5
 have hi := ident_freeW hu ha hap
 have hwi : bP.claim.within = [] := List.isEmpty_iff.mp k6
 have mk : ∀ (s : Shared), xt s = true → XL lq [] (s.heap.nsMap mainGlobals) s.heap ∧ RecFacts [] s.heap := fun s e => ⟨xl_of s (Bool.and_eq_true_iff.mp e).1, recFacts_of (Bool.and_eq_true_iff.mp e).2⟩
 refine ⟨k1, hw, ⟨hb, o1, rfl⟩, hw.witness, fun w => ⟨(left.behind (XP := fun mg h => XL lq [] mg h ∧ RecFacts [] h) mk hch w).1, fun s' hs' => ?_⟩⟩
 obtain ⟨sz0, hf, hg0, s, hT, hz, hgens, hg, G', y⟩ := (left.behind (XP := fun mg h => XL lq [] mg h ∧ RecFacts [] h) mk hch w).2 s' hs'
 have RF := G'.X.2
 have G0 : Ground lq ll [] (XL lq []) w s (s.heap.nsMap mainGlobals) (s.heap.nsMap builtinsNs) s.heap := ⟨G'.T, G'.B, G'.D, G'.TE, G'.TD, G'.W, G'.X.1, G'.cls, G'.has, G'.apart, G'.once, G'.K⟩
 have G : Ground lq ll [] (XL lq []) w s (s.heap.nsMap mainGlobals) (s.heap.nsMap builtinsNs) s.heap := RF.ground G0
 refine ⟨sz0, hf, hg0, s, hT, fun n hn => ?_, RF.1, RF.2.1, A8 hdef walk hsame hi hwi hYk G (hY w s y) hz hgens⟩
 ·obtain rfl : n = bP.name := by split at hn <;> simp_all
  exact pinned_of_view hg G0 hdef hp hk
end
section
noncomputable def jW : List Stmt → Nat → Stmt
 | [], _ => .Pass default
 | s :: _, 0 => s
 | _ :: r, n + 1 => jW r n
noncomputable def noA : Arguments := ⟨[], [], none, [], [], none, []⟩
noncomputable def pts (s : Stmt) : Arguments × List Stmt × Scope := smC (noA, [], ⟨.module, [], false, false, []⟩) (s := s) (fdef := fun a b s => (a, b, s)) (cdef := fun b s => (noA, b, s))
noncomputable def zo (i : Nat) : Nat → Stmt
 | 0 => jW af.main.body i
 | j + 1 => jW (pts (jW af.main.body i)).2.1 j
noncomputable def fP (i j : Nat) : Arguments := (pts (zo i j)).1
noncomputable def fB (i j : Nat) : List Stmt := (pts (zo i j)).2.1
noncomputable def fS (i j : Nat) : Scope := (pts (zo i j)).2.2
noncomputable def fO (a : Addr) (n q : Str) (i j : Nat) (m : Str) (t c : Nat) : Addr × Obj := (a, { cls := .type "function", data := .func { name := n, qualname := q, params := fP i j, body := .stmts (fB i j), scope := fS i j, globals := 3, closure := [], defaults := .none, kwdefaults := .none, pyModule := .str m t, code := .ref c } })
noncomputable def fN (a : Addr) (n q : Str) (i j : Nat) (m : Str) (t : Nat) : Addr × Obj := fO a n q i j m t (a - 1)
noncomputable def cO (a : Addr) (n q : Str) (t : Nat) (l g f : Int) (r : Nat) (u v w : Value) (x : Nat) (y : Int) (z : Nat) : Addr × Obj := (a, { cls := .type "code", data := .fields #[.str n t, .str q (t + 1), .str "/claim/cut.py" (t + 2), .int l 0, .int g 0, .int 0 0, .int 0 0, .int f 0, .ref r, .bool true, .int 181 0, .ref (r + 1), u, v, w, .ref x, .int y 0, .int l 0, .str "/claim/cut.py" z] })
noncomputable def cP (a : Addr) (n q : Str) (t : Nat) (l g f : Int) (y : Nat) : Addr × Obj := cO a n q t l g f (a - 5) .none (.ref (a - 3)) (.ref (a - 2)) (a - 1) y (y + 1)
noncomputable def cN (a : Addr) (n q : Str) (t : Nat) (l g f : Int) (y : Nat) : Addr × Obj := cO a n q t l g f (a - 3) .none .none .none (a - 1) y (y + 1)
noncomputable def dE (P : Params) (s : Str) (t : Nat) (v : Value) : DictEntry := { hash := PyData.keyHash P s, key := .str s t, val := v }
noncomputable def tO (a : Addr) (l : Array Value) : Addr × Obj := (a, { cls := .type "tuple", data := .seq l })
noncomputable abbrev mR (s : Str) (t : Nat) (v : Value) : Str × Nat × Value := (s, t, v)
noncomputable def mL : List (Str × Nat × Value) := [mR "__name__" 165 (.str "law_nz0355_01" 925), mR "__doc__" 166 (.none), mR "__package__" 167 (.none), mR "__loader__" 168 (.builtin "__main__.__loader__#opaque"), mR "__spec__" 169 (.none), mR "__annotations__" 170 (.ref 6), mR "__builtins__" 171 (.ref 4), mR "__file__" 173 (.str "/claim/cut.py" 172), mR "__cached__" 174 (.none), mR "_wall" 193 (.ref 21), mR "INTERNAL_ERROR" 197 (.int 1 196), mR "FRAME_ENCODING_ERROR" 199 (.int 7 198), mR "PROTOCOL_VIOLATION" 201 (.int 10 200), mR "QuicError" 234 (.ref 38), mR "Short" 263 (.ref 58), mR "PADDING" 265 (.int 0 264), mR "PING" 267 (.int 1 266), mR "ACK" 269 (.int 2 268), mR "ACK_ECN" 271 (.int 3 270), mR "RESET_STREAM" 273 (.int 4 272), mR "STOP_SENDING" 275 (.int 5 274), mR "CRYPTO" 277 (.int 6 276), mR "NEW_TOKEN" 279 (.int 7 278), mR "STREAM" 281 (.int 8 280), mR "MAX_DATA" 283 (.int 16 282), mR "MAX_STREAM_DATA" 285 (.int 17 284), mR "MAX_STREAMS_BIDI" 287 (.int 18 286), mR "MAX_STREAMS_UNI" 289 (.int 19 288), mR "DATA_BLOCKED" 291 (.int 20 290), mR "STREAM_DATA_BLOCKED" 293 (.int 21 292), mR "STREAMS_BLOCKED_BIDI" 295 (.int 22 294), mR "STREAMS_BLOCKED_UNI" 297 (.int 23 296), mR "NEW_CONNECTION_ID" 299 (.int 24 298), mR "RETIRE_CONNECTION_ID" 301 (.int 25 300), mR "PATH_CHALLENGE" 303 (.int 26 302), mR "PATH_RESPONSE" 305 (.int 27 304), mR "CLOSE" 307 (.int 28 306), mR "CLOSE_APPLICATION" 309 (.int 29 308), mR "HANDSHAKE_DONE" 311 (.int 30 310), mR "BIT_FIN" 313 (.int 1 312), mR "BIT_LENGTH" 315 (.int 2 314), mR "BIT_OFFSET" 317 (.int 4 316), mR "GREATEST" 323 (.int 4611686018427387903 322), mR "MOST_STREAMS" 327 (.int 1152921504606846976 326), mR "CID_SIZE" 329 (.int 20 328), mR "TOKEN_SIZE" 331 (.int 16 330), mR "CHALLENGE_SIZE" 333 (.int 8 332), mR "VARINT_SIZES" 340 (.ref 62), mR "put_whole" 350 (.ref 69), mR "get_whole" 361 (.ref 76), mR "varint_size" 369 (.ref 83), mR "put_varint" 378 (.ref 90), mR "get_varint" 387 (.ref 97), mR "Reader" 458 (.ref 149), mR "PLAIN_FRAMES" 488 (.ref 154), mR "COUNT_FRAMES" 497 (.ref 164), mR "refuse_frame" 505 (.ref 175), mR "read_type" 514 (.ref 182), mR "read_counted" 521 (.ref 189), mR "read_ranges" 535 (.ref 196), mR "read_ack" 541 (.ref 201), mR "read_stream" 553 (.ref 208), mR "read_crypto" 563 (.ref 215), mR "read_new_cid" 575 (.ref 222), mR "read_close" 585 (.ref 229), mR "read_padding" 593 (.ref 236), mR "read_octets_frame" 603 (.ref 243), mR "read_body" 609 (.ref 248), mR "read_frame" 617 (.ref 255), mR "read_frames" 626 (.ref 262), mR "PLACES" 689 (.ref 263), mR "LETTERS" 702 (.ref 265), mR "NOT_ELICITING" 706 (.ref 266), mR "PROBING" 711 (.ref 267), mR "SERVER_ALONE" 714 (.ref 268), mR "may_stand" 722 (.ref 275), mR "is_eliciting" 729 (.ref 282), mR "counts_in_flight" 736 (.ref 289), mR "is_probing" 743 (.ref 296), mR "any_eliciting" 749 (.ref 301), mR "any_in_flight" 755 (.ref 306), mR "are_probing" 761 (.ref 311), mR "check_place" 770 (.ref 318), mR "check_sender" 779 (.ref 325), mR "check_frames" 789 (.ref 332), mR "without_kinds" 795 (.ref 337), mR "NUMBER_FRAMES" 816 (.ref 338), mR "put_numbers" 822 (.ref 343), mR "put_counted" 829 (.ref 350), mR "ack_numbers" 842 (.ref 357), mR "put_ack" 856 (.ref 364), mR "put_stream" 871 (.ref 371), mR "put_new_cid" 883 (.ref 378), mR "put_close" 894 (.ref 385), mR "put_octets_frame" 902 (.ref 392), mR "put_frame" 911 (.ref 399), mR "put_frames" 917 (.ref 404), mR "frame_size" 924 (.ref 411), mR "_law_kinds" 940 (.ref 412), mR "_law_places" 946 (.ref 419), mR "_law_take" 955 (.ref 426), mR "_law_number" 962 (.ref 433), mR "_law_some" 969 (.ref 440), mR "_law_frame" 979 (.ref 447), mR "_law_varint" 985 (.ref 452), mR "_law_counted" 993 (.ref 459), mR "_law_parts" 1008 (.ref 466), mR "_law_written" 1021 (.ref 473), mR "_law_may_be" 1030 (.ref 480), mR "_law_judged" 1040 (.ref 487), mR "_law_packet_right" 1046 (.ref 492), mR "law" 1052 (.ref 497)]
noncomputable def mEn (P : Params) (x : Str × Nat × Value) : DictEntry := dE P x.1 x.2.1 x.2.2
noncomputable def tp.heap_1 (P : Params) : Frag := [
 (2, { cls := .none, data := .dict #[dE P "type.__subclasses__.Exception.0" 231 (.int 38 0), dE P "type.__subclasses__.Exception.n" 232 (.int 2 0), dE P "type.__subclasses__.Exception.1" 260 (.int 58 0)] 3 }),
 (3, { cls := .type "dict", data := .dict (mL.map (mEn P)).toArray 112 }),
 cP 20 "_wall" "_wall" 187 1 1 3 191,
 fN 21 "_wall" "_wall" 0 0 "__main__" 164,
 tO 22 #[.type "Exception"],
 cP 34 "__init__" "QuicError.__init__" 214 10 4 3 221,
 fN 35 "__init__" "QuicError.__init__" 5 1 "quic.errors" 194,
 tO 36 #[.str "code" 224, .str "frame_type" 225, .str "text" 226],
 (37, { cls := .type "dict", data := .dict #[dE P "__module__" 209 (.str "quic.errors" 194), dE P "__firstlineno__" 213 (.int 8 212), dE P "__init__" 223 (.ref 35), dE P "__static_attributes__" 227 (.ref 36), dE P "__weakref__" 229 (.ref 39), dE P "__doc__" 230 .none] 3 }),
 (38, { cls := .type "type", data := .cls { name := "QuicError", bases := [.type "Exception"], mro := [.ref 38, .type "Exception", .type "BaseException", .type "object"], ns := 37, qualname := "QuicError" }, slots := #[some (.ref 22), none, some (.str "QuicError" 202), some (.str "QuicError" 210), some (.builtin "Exception.__new__"), some (.bool true)] }),
 (39, { cls := .type "getset_descriptor", data := .fields #[.str "__weakref__" 228, .ref 38, .builtin "ExceptionGroup.__weakref__", .none] }),
 tO 42 #[.type "Exception"],
 cP 54 "__init__" "Short.__init__" 247 17 2 3 252,
 fN 55 "__init__" "Short.__init__" 6 1 "quic.errors" 194,
 tO 56 #[.str "text" 255],
 (57, { cls := .type "dict", data := .dict #[dE P "__module__" 242 (.str "quic.errors" 194), dE P "__firstlineno__" 246 (.int 15 245), dE P "__init__" 254 (.ref 55), dE P "__static_attributes__" 256 (.ref 56), dE P "__weakref__" 258 (.ref 59), dE P "__doc__" 259 .none] 3 }),
 (58, { cls := .type "type", data := .cls { name := "Short", bases := [.type "Exception"], mro := [.ref 58, .type "Exception", .type "BaseException", .type "object"], ns := 57, qualname := "Short" }, slots := #[some (.ref 42), none, some (.str "Short" 235), some (.str "Short" 243), some (.builtin "Exception.__new__"), some (.bool true)] }),
 (59, { cls := .type "getset_descriptor", data := .fields #[.str "__weakref__" 257, .ref 58, .builtin "ExceptionGroup.__weakref__", .none] }),
 tO 62 #[.int 1 336, .int 2 337, .int 4 338, .int 8 339],
 cP 68 "put_whole" "put_whole" 341 54 2 3 348,
 fN 69 "put_whole" "put_whole" 41 0 "quic.varint" 334,
 cP 75 "get_whole" "get_whole" 351 62 3 3 359,
 fN 76 "get_whole" "get_whole" 42 0 "quic.varint" 334,
 cP 82 "varint_size" "varint_size" 362 69 1 3 367,
 fN 83 "varint_size" "varint_size" 43 0 "quic.varint" 334,
 cP 89 "put_varint" "put_varint" 370 74 2 3 376,
 fN 90 "put_varint" "put_varint" 44 0 "quic.varint" 334,
 cP 96 "get_varint" "get_varint" 379 81 2 3 385,
 fN 97 "get_varint" "get_varint" 45 0 "quic.varint" 334,
 cP 110 "__init__" "Reader.__init__" 402 89 2 3 407,
 fN 111 "__init__" "Reader.__init__" 47 1 "quic.octets" 388,
 cP 117 "left" "Reader.left" 410 93 1 3 414,
 fN 118 "left" "Reader.left" 47 2 "quic.octets" 388,
 cP 124 "take" "Reader.take" 417 96 2 3 422,
 fN 125 "take" "Reader.take" 47 3 "quic.octets" 388,
 cP 131 "rest" "Reader.rest" 425 102 1 3 429,
 fN 132 "rest" "Reader.rest" 47 4 "quic.octets" 388,
 cP 138 "whole" "Reader.whole" 432 105 2 3 438,
 fN 139 "whole" "Reader.whole" 47 5 "quic.octets" 388,
 cP 145 "varint" "Reader.varint" 441 110 1 3 446,
 fN 146 "varint" "Reader.varint" 47 6 "quic.octets" 388,
 tO 147 #[.str "at" 449, .str "data" 450],
 (148, { cls := .type "dict", data := .dict #[dE P "__module__" 397 (.str "quic.octets" 388), dE P "__firstlineno__" 401 (.int 87 400), dE P "__init__" 409 (.ref 111), dE P "left" 416 (.ref 118), dE P "take" 424 (.ref 125), dE P "rest" 431 (.ref 132), dE P "whole" 440 (.ref 139), dE P "varint" 448 (.ref 146), dE P "__static_attributes__" 451 (.ref 147), dE P "__dict__" 453 (.ref 150), dE P "__weakref__" 455 (.ref 151), dE P "__doc__" 456 .none] 4 }),
 (149, { cls := .type "type", data := .cls { name := "Reader", bases := [.type "object"], mro := [.ref 149, .type "object"], ns := 148, qualname := "Reader" }, slots := #[none, none, some (.str "Reader" 390), some (.str "Reader" 398), some (.builtin "object.__new__"), some (.bool true)] }),
 (150, { cls := .type "getset_descriptor", data := .fields #[.str "__dict__" 452, .ref 149, .builtin "function.__dict__", .builtin "function.__dict__#set"] }),
 (151, { cls := .type "getset_descriptor", data := .fields #[.str "__weakref__" 454, .ref 149, .builtin "ExceptionGroup.__weakref__", .none] }),
 (154, { cls := .type "dict", data := .dict #[{ hash := 1, key := .int 1 266, val := .ref 155 }, { hash := 4, key := .int 4 272, val := .ref 156 }, { hash := 5, key := .int 5 274, val := .ref 157 }, { hash := 16, key := .int 16 282, val := .ref 158 }, { hash := 17, key := .int 17 284, val := .ref 159 }, { hash := 20, key := .int 20 290, val := .ref 160 }, { hash := 21, key := .int 21 292, val := .ref 161 }, { hash := 25, key := .int 25 300, val := .ref 162 }, { hash := 30, key := .int 30 310, val := .ref 163 }] 9 }),
 tO 155 #[.str "ping" 461, .int 0 462],
 tO 156 #[.str "reset_stream" 463, .int 3 464],
 tO 157 #[.str "stop_sending" 465, .int 2 466],
 tO 158 #[.str "max_data" 467, .int 1 468],
 tO 159 #[.str "max_stream_data" 469, .int 2 470],
 tO 160 #[.str "data_blocked" 471, .int 1 472],
 tO 161 #[.str "stream_data_blocked" 473, .int 2 474],
 tO 162 #[.str "retire_connection_id" 475, .int 1 476],
 tO 163 #[.str "handshake_done" 477, .int 0 478],
 (164, { cls := .type "dict", data := .dict #[{ hash := 18, key := .int 18 286, val := .ref 165 }, { hash := 19, key := .int 19 288, val := .ref 166 }, { hash := 22, key := .int 22 294, val := .ref 167 }, { hash := 23, key := .int 23 296, val := .ref 168 }] 4 }),
 tO 165 #[.str "max_streams" 489, .bool false],
 tO 166 #[.str "max_streams" 490, .bool true],
 tO 167 #[.str "streams_blocked" 491, .bool false],
 tO 168 #[.str "streams_blocked" 492, .bool true],
 cP 174 "refuse_frame" "refuse_frame" 498 116 2 3 503,
 fN 175 "refuse_frame" "refuse_frame" 51 0 "quic.framesin" 459,
 cP 181 "read_type" "read_type" 506 118 1 3 512,
 fN 182 "read_type" "read_type" 52 0 "quic.framesin" 459,
 cP 188 "read_counted" "read_counted" 515 124 1 3 519,
 fN 189 "read_counted" "read_counted" 53 0 "quic.framesin" 459,
 cP 195 "read_ranges" "read_ranges" 522 126 2 3 533,
 fN 196 "read_ranges" "read_ranges" 54 0 "quic.framesin" 459,
 cN 200 "read_ack" "read_ack" 536 139 2 3 539,
 fN 201 "read_ack" "read_ack" 55 0 "quic.framesin" 459,
 cP 207 "read_stream" "read_stream" 542 145 2 3 551,
 fN 208 "read_stream" "read_stream" 56 0 "quic.framesin" 459,
 cP 214 "read_crypto" "read_crypto" 554 153 2 3 561,
 fN 215 "read_crypto" "read_crypto" 57 0 "quic.framesin" 459,
 cP 221 "read_new_cid" "read_new_cid" 564 159 2 3 573,
 fN 222 "read_new_cid" "read_new_cid" 58 0 "quic.framesin" 459,
 cP 228 "read_close" "read_close" 576 168 2 3 583,
 fN 229 "read_close" "read_close" 59 0 "quic.framesin" 459,
 cP 235 "read_padding" "read_padding" 586 172 1 3 591,
 fN 236 "read_padding" "read_padding" 60 0 "quic.framesin" 459,
 cP 242 "read_octets_frame" "read_octets_frame" 594 178 2 3 601,
 fN 243 "read_octets_frame" "read_octets_frame" 61 0 "quic.framesin" 459,
 cN 247 "read_body" "read_body" 604 195 2 3 607,
 fN 248 "read_body" "read_body" 62 0 "quic.framesin" 459,
 cP 254 "read_frame" "read_frame" 610 210 1 3 615,
 fN 255 "read_frame" "read_frame" 63 0 "quic.framesin" 459,
 cP 261 "read_frames" "read_frames" 618 217 1 3 624,
 fN 262 "read_frames" "read_frames" 64 0 "quic.framesin" 459,
 (263, { cls := .type "dict", data := .dict #[dE P "padding" 629 (.str "IH01" 630), dE P "ping" 632 (.str "IH01" 633), dE P "ack" 635 (.str "IH1" 636), dE P "reset_stream" 638 (.str "01" 639), dE P "stop_sending" 641 (.str "01" 642), dE P "crypto" 644 (.str "IH1" 645), dE P "new_token" 647 (.str "1" 648), dE P "stream" 650 (.str "01" 651), dE P "max_data" 653 (.str "01" 654), dE P "max_stream_data" 656 (.str "01" 657), dE P "max_streams" 659 (.str "01" 660), dE P "data_blocked" 662 (.str "01" 663), dE P "stream_data_blocked" 665 (.str "01" 666), dE P "streams_blocked" 668 (.str "01" 669), dE P "new_connection_id" 671 (.str "01" 672), dE P "retire_connection_id" 674 (.str "1" 675), dE P "path_challenge" 677 (.str "01" 678), dE P "path_response" 680 (.str "1" 681), dE P "close" 682 (.str "IH01" 683), dE P "handshake_done" 684 (.str "1" 685)] 20 }),
 (265, { cls := .type "dict", data := .dict #[dE P "initial" 690 (.str "I" 691), dE P "handshake" 692 (.str "H" 693), dE P "zero" 694 (.str "0" 695), dE P "short" 696 (.str "1" 697)] 4 }),
 tO 266 #[.str "ack" 703, .str "padding" 704, .str "close" 705],
 tO 267 #[.str "path_challenge" 707, .str "path_response" 708, .str "new_connection_id" 709, .str "padding" 710],
 tO 268 #[.str "new_token" 712, .str "handshake_done" 713],
 cP 274 "may_stand" "may_stand" 715 230 2 3 720,
 fN 275 "may_stand" "may_stand" 71 0 "quic.framerules" 627,
 cP 281 "is_eliciting" "is_eliciting" 723 234 1 3 727,
 fN 282 "is_eliciting" "is_eliciting" 72 0 "quic.framerules" 627,
 cP 288 "counts_in_flight" "counts_in_flight" 730 236 1 3 734,
 fN 289 "counts_in_flight" "counts_in_flight" 73 0 "quic.framerules" 627,
 cP 295 "is_probing" "is_probing" 737 238 1 3 741,
 fN 296 "is_probing" "is_probing" 74 0 "quic.framerules" 627,
 cN 300 "any_eliciting" "any_eliciting" 744 240 1 3 747,
 fN 301 "any_eliciting" "any_eliciting" 75 0 "quic.framerules" 627,
 cN 305 "any_in_flight" "any_in_flight" 750 242 1 3 753,
 fN 306 "any_in_flight" "any_in_flight" 76 0 "quic.framerules" 627,
 cN 310 "are_probing" "are_probing" 756 244 1 3 759,
 fN 311 "are_probing" "are_probing" 77 0 "quic.framerules" 627,
 cP 317 "check_place" "check_place" 762 246 3 3 768,
 fN 318 "check_place" "check_place" 78 0 "quic.framerules" 627,
 cP 324 "check_sender" "check_sender" 771 249 3 3 777,
 fN 325 "check_sender" "check_sender" 79 0 "quic.framerules" 627,
 cP 331 "check_frames" "check_frames" 780 252 3 3 787,
 fN 332 "check_frames" "check_frames" 80 0 "quic.framerules" 627,
 cN 336 "without_kinds" "without_kinds" 790 256 2 3 793,
 fN 337 "without_kinds" "without_kinds" 81 0 "quic.framerules" 627,
 (338, { cls := .type "dict", data := .dict #[dE P "ping" 798 (.int 1 266), dE P "reset_stream" 799 (.int 4 272), dE P "stop_sending" 800 (.int 5 274), dE P "max_data" 801 (.int 16 282), dE P "max_stream_data" 802 (.int 17 284), dE P "data_blocked" 803 (.int 20 290), dE P "stream_data_blocked" 804 (.int 21 292), dE P "retire_connection_id" 805 (.int 25 300), dE P "handshake_done" 806 (.int 30 310)] 9 }),
 cN 342 "put_numbers" "put_numbers" 817 260 1 3 820,
 fN 343 "put_numbers" "put_numbers" 84 0 "quic.framesout" 796,
 cP 349 "put_counted" "put_counted" 823 262 1 3 827,
 fN 350 "put_counted" "put_counted" 85 0 "quic.framesout" 796,
 cP 356 "ack_numbers" "ack_numbers" 830 264 1 3 840,
 fN 357 "ack_numbers" "ack_numbers" 86 0 "quic.framesout" 796,
 cP 363 "put_ack" "put_ack" 843 271 1 3 854,
 fN 364 "put_ack" "put_ack" 87 0 "quic.framesout" 796,
 cP 370 "put_stream" "put_stream" 857 276 2 3 869,
 fN 371 "put_stream" "put_stream" 88 0 "quic.framesout" 796,
 cP 377 "put_new_cid" "put_new_cid" 872 281 1 3 881,
 fN 378 "put_new_cid" "put_new_cid" 89 0 "quic.framesout" 796,
 cP 384 "put_close" "put_close" 884 284 1 3 892,
 fN 385 "put_close" "put_close" 90 0 "quic.framesout" 796,
 cP 391 "put_octets_frame" "put_octets_frame" 895 289 1 3 900,
 fN 392 "put_octets_frame" "put_octets_frame" 91 0 "quic.framesout" 796,
 cP 398 "put_frame" "put_frame" 903 302 1 3 909,
 fN 399 "put_frame" "put_frame" 92 0 "quic.framesout" 796,
 cN 403 "put_frames" "put_frames" 912 320 1 3 915,
 fN 404 "put_frames" "put_frames" 93 0 "quic.framesout" 796,
 cP 410 "frame_size" "frame_size" 918 322 1 3 922,
 fN 411 "frame_size" "frame_size" 94 0 "quic.framesout" 796,
 tO 412 #[.str "ping" 927, .str "ack" 928, .str "crypto" 929, .str "stream" 930, .str "max_data" 931, .str "max_streams" 932, .str "new_connection_id" 933, .str "path_response" 934, .str "close" 935, .str "handshake_done" 936, .str "retire_connection_id" 937, .str "path_challenge" 938, .str "new_token" 939],
 cP 418 "_law_places" "_law_places" 941 326 0 3 944,
 fN 419 "_law_places" "_law_places" 97 0 "law_nz0355_01" 925,
 cP 425 "_law_take" "_law_take" 947 328 2 3 953,
 fN 426 "_law_take" "_law_take" 98 0 "law_nz0355_01" 925,
 cP 432 "_law_number" "_law_number" 956 336 1 3 960,
 fN 433 "_law_number" "_law_number" 99 0 "law_nz0355_01" 925,
 cP 439 "_law_some" "_law_some" 963 338 1 3 967,
 fN 440 "_law_some" "_law_some" 100 0 "law_nz0355_01" 925,
 cP 446 "_law_frame" "_law_frame" 970 340 1 3 977,
 fN 447 "_law_frame" "_law_frame" 101 0 "law_nz0355_01" 925,
 cN 451 "_law_varint" "_law_varint" 980 361 2 3 983,
 fN 452 "_law_varint" "_law_varint" 102 0 "law_nz0355_01" 925,
 cP 458 "_law_counted" "_law_counted" 986 368 2 3 991,
 fN 459 "_law_counted" "_law_counted" 103 0 "law_nz0355_01" 925,
 cP 465 "_law_parts" "_law_parts" 994 370 1 3 1006,
 fN 466 "_law_parts" "_law_parts" 104 0 "law_nz0355_01" 925,
 cP 472 "_law_written" "_law_written" 1009 391 2 3 1019,
 fN 473 "_law_written" "_law_written" 105 0 "law_nz0355_01" 925,
 cP 479 "_law_may_be" "_law_may_be" 1022 400 3 3 1028,
 fN 480 "_law_may_be" "_law_may_be" 106 0 "law_nz0355_01" 925,
 cP 486 "_law_judged" "_law_judged" 1031 406 3 3 1038,
 fN 487 "_law_judged" "_law_judged" 107 0 "law_nz0355_01" 925,
 cN 491 "_law_packet_right" "_law_packet_right" 1041 412 4 3 1044,
 fN 492 "_law_packet_right" "_law_packet_right" 108 0 "law_nz0355_01" 925,
 cN 496 "law" "law" 1047 428 1 3 1050,
 fN 497 "law" "law" 109 0 "law_nz0355_01" 925]
noncomputable def aK : List Addr := [2,3,20,21,22,34,35,36,37,38,39,42,54,55,56,57,58,59,62,68,69,75,76,82,83,89,90,96,97,110,111,117,118,124,125,131,132,138,139,145,146,147,148,149,150,151,154,155,156,157,158,159,160,161,162,163,164,165,166,167,168,174,175,181,182,188,189,195,196,200,201,207,208,214,215,221,222,228,229,235,236,242,243,247,248,254,255,261,262,263,265,266,267,268,274,275,281,282,288,289,295,296,300,301,305,306,310,311,317,318,324,325,331,332,336,337,338,342,343,349,350,356,357,363,364,370,371,377,378,384,385,391,392,398,399,403,404,410,411,412,418,419,425,426,432,433,439,440,446,447,451,452,458,459,465,466,472,473,479,480,486,487,491,492,496,497]
noncomputable def hk : Hook := kHook tp.heap_1 aK fun P => by kernel_rfl
noncomputable def xI (s : SharedT) (a : Nat) : Option Obj := Bool.casesOn (Nat.blt a s.n) none (Option.casesOn (s.tree.get a) none alive)
noncomputable def frB (b : FuncBody) : FuncBody := FuncBody.casesOn b (fun l => .stmts (List.casesOn l [] fun a r => a :: r)) (fun e => .expr e)
noncomputable def frF (f : FuncData) : FuncData := { f with params := Arguments.casesOn f.params Arguments.mk, body := frB f.body, scope := Scope.casesOn f.scope Scope.mk }
noncomputable def frD (d : Data) : Data := match d with
 | .func f => .func (frF f)
 | d => d
noncomputable def frO (o : Obj) : Obj := Obj.casesOn o fun c d x s => ⟨c, d, frD x, s⟩
theorem y6 (o : Obj) : frO o = o := by
 obtain ⟨c, d, x, s⟩ := o
 show Obj.mk c d (frD x) s = _
 congr 1
 unfold frD
 split
 ·rename_i f
  obtain ⟨a, b, p, bd, sc, g, cl, df, kd, dc, m, an, co, ct⟩ := f
  obtain ⟨p1, p2, p3, p4, p5, p6, p7⟩ := p
  obtain ⟨s1, s2, s3, s4, s5⟩ := sc
  cases bd with
  | stmts l => cases l <;> rfl
  | expr e => rfl
 ·rfl
theorem uS {s : SharedT} {a : Nat} {o : Obj} (h : (xI s a).map frO = some o) : s.abs.heap.get? a = some o := by
 obtain ⟨x, hx, rfl⟩ := Option.map_eq_some_iff.mp h
 rw [y6]
 unfold xI at hx
 cases hb : Nat.blt a s.n with
 | false => rw [hb] at hx; cases hx
 | true =>
  rw [hb] at hx
  cases hg : s.tree.get a with
  | none => rw [hg] at hx; cases hx
  | some y =>
   rw [hg] at hx
   exact (abs_get (Nat.blt_eq.mp hb) hg).trans hx
noncomputable def Dj (s : SharedT) : List (Option Obj) := aK.map fun a => (xI s a).map frO
theorem vj {s : SharedT} : ∀ (as : List Addr) (K : Frag), (as.map fun a => (xI s a).map frO) = K.map (fun p => some p.2) → as.map s.abs.heap.get? = K.map fun p => some p.2 := fun as => by
 induction as with
 | nil =>
  intro K e
  cases K with
  | nil => rfl
  | cons p r => cases e
 | cons a as ih =>
  intro K e
  cases K with
  | nil => cases e
  | cons p r =>
   obtain ⟨e1, e2⟩ := List.cons.inj e
   exact congr (congrArg List.cons (uS e1)) (ih r e2)
noncomputable def dL : DefRec × List (Str × Expr) := (defOf lq bP.name).get (by kernel_rfl)
theorem lf0 : Chk Dj hk.val false := fun w os => by kernel_rfl
theorem lf1 : Chk Dj hk.val true := fun w os => by kernel_rfl
theorem tbw : af.tablesWhole = true := by
 show TablesWhole.wProgram TablesWhole.holds af = true
 unfold TablesWhole.wProgram TablesWhole.holds
 rw [Fast.te6116379765354995101, Fast.te15985051520779696433]
 kernel_rfl
theorem hd (h : pU hk.says dL.1 dL.2) : Challenge.rw_nz0355_01.Holds :=
 holds_law Cq fun said => zH (d := dL.1) (kwd := dL.2) (lft (fun w s e => vj aK _ e) lf0 lf1) hk.of hk.keeps (by kernel_rfl) (by kernel_rfl) (by kernel_rfl) said (by decide +kernel) ⟨rfl, rfl, rfl, rfl, rfl, tbw⟩ (RowW.promised_of_found (by kernel_rfl)) h
end
open PySem.Spec
section
theorem eP {a i : Nat} (h : i < a) : a - i = a - (i + 1) + 1 := (Nat.succ_pred_eq_of_pos (Nat.sub_pos_of_lt h)).symm
theorem g8 {k n : Nat} (h : k + 1 ≤ n) : ∃ m, n = m + 1 := ⟨n - 1, (Nat.sub_add_cancel (Nat.le_trans (Nat.le_add_left 1 k) h)).symm⟩
theorem fu {k m n : Nat} (h : k + m + 1 ≤ n) : ∃ p, n = p + m + 1 := ⟨n - (m + 1), (Nat.sub_add_cancel (Nat.le_trans (Nat.le_add_left (m + 1) k) h)).symm⟩
theorem qb {d D x lim : Nat} (h : d + 1 ≤ D) (h2 : x + D < lim) : x + 1 + (D - 1) < lim := by rw [Nat.add_right_comm, Nat.add_assoc, Nat.sub_add_cancel (Nat.le_trans (Nat.le_add_left 1 d) h)]; exact h2
theorem D2 {d D x lim : Nat} (h : d ≤ D) (h2 : x + D < lim) : x + d < lim := Nat.lt_of_le_of_lt (Nat.add_le_add_left h x) h2
theorem Fe {a b x y z : Nat} (h1 : a ≤ x) (h2 : b ≤ y) (h : Nat.ble (x + y) z = true) : a + b ≤ z := Nat.le_trans (Nat.add_le_add h1 h2) (Nat.le_of_ble_eq_true h)
theorem FD {a : Int} (h0 : 0 ≤ a) (h1 : a < 3) : a = 0 ∨ a = 1 ∨ a = 2 := by lia
theorem jd {α : Type} {a x : α} {l : List α} (m : a ∈ x :: l) : x = a ∨ a ∈ l := (List.mem_cons.mp m).imp Eq.symm id
theorem kr {α : Type} {a x : α} (m : a ∈ [x]) : x = a := (List.mem_singleton.mp m).symm
theorem aw {α : Type} {b : α} {P : Prop} (h : none = some b) : P := by cases h
inductive Bi where
 | len | min | sum | isi
inductive Ty where
 | range | bytes | bytearray | tuple | list | int | enumerate
noncomputable def Bi.id : Bi → String
 | .len => "len"
 | .min => "min"
 | .sum => "sum"
 | .isi => "isinstance"
noncomputable def Ty.id : Ty → String
 | .range => "range"
 | .bytes => "bytes"
 | .bytearray => "bytearray"
 | .tuple => "tuple"
 | .list => "list"
 | .int => "int"
 | .enumerate => "enumerate"
inductive SV where
 | none
 | bool (b : Bool)
 | int (i : Int)
 | str (x : Str)
 | bytes (l : List UInt8)
 | tup (l : List SV)
 | lst (l : List SV)
 | dic (l : List (SV × SV))
 | rng (a b c : Int)
 | ref (a : Addr)
 | bi (b : Bi)
 | ty (t : Ty)
inductive AV where
 | v (x : SV)
 | c (n : Nat)
inductive aa where
 | lst (l : List SV)
 | inst (C : Addr) (j : Nat)
 | idict (fs : List (Str × SV))
 | vcell (v : AV)
 | vnone
 | barr (l : List UInt8)
noncomputable def asV (v : AV) (k : SV → Prop) : Prop := AV.casesOn v k fun _ => False
theorem bj {v : AV} {k : SV → Prop} (h : asV v k) : ∃ x, v = .v x ∧ k x := by
 induction v using AV.casesOn with
 | v x => exact ⟨x, rfl, h⟩
 | c _ => exact False.elim h
noncomputable def dz {α : Type} (o : Option α) (k : α → Prop) : Prop := Option.casesOn o False k
theorem aX {α : Type} {o : Option α} {k : α → Prop} (h : dz o k) : ∃ x, o = some x ∧ k x := by
 induction o using Option.casesOn with
 | none => exact False.elim h
 | some x => exact ⟨x, rfl, h⟩
noncomputable def as1 (as : List AV) (k : AV → Prop) : Prop := List.casesOn as False fun a r => List.casesOn r (k a) fun _ _ => False
theorem lh {as : List AV} {k : AV → Prop} (h : as1 as k) : ∃ a, as = [a] ∧ k a := by
 induction as using List.casesOn with
 | nil => exact False.elim h
 | cons a r => induction r using List.casesOn with
  | nil => exact ⟨a, rfl, h⟩
  | cons _ _ => exact False.elim h
noncomputable def t8 (d : SV) (k : List SV → Prop) : Prop := SV.casesOn (motive_1 := fun _ => Prop) d False (fun _ => False) (fun _ => False) (fun _ => False) (fun _ => False) (fun _ => False) k (fun _ => False) (fun _ _ _ => False) (fun _ => False) (fun _ => False) fun _ => False
theorem j9 {d : SV} {k : List SV → Prop} (h : t8 d k) : ∃ i, d = .lst i ∧ k i := by
 induction d using SV.casesOn <;> first | exact False.elim h | exact ⟨_, rfl, h⟩
noncomputable def as2 (as : List AV) (k : AV → AV → Prop) : Prop := List.casesOn as False fun a r => as1 r (k a)
theorem vn {as : List AV} {k : AV → AV → Prop} (h : as2 as k) : ∃ a b, as = [a, b] ∧ k a b := by
 induction as using List.casesOn with
 | nil => exact False.elim h
 | cons a r =>
  obtain ⟨b, rfl, h⟩ := lh (k := k a) h
  exact ⟨a, b, rfl, h⟩
noncomputable def eG (d : SV) (k : Int → Prop) : Prop := SV.casesOn (motive_1 := fun _ => Prop) d False (fun _ => False) k (fun _ => False) (fun _ => False) (fun _ => False) (fun _ => False) (fun _ => False) (fun _ _ _ => False) (fun _ => False) (fun _ => False) fun _ => False
theorem bD {d : SV} {k : Int → Prop} (h : eG d k) : ∃ i, d = .int i ∧ k i := by
 induction d using SV.casesOn <;> first | exact False.elim h | exact ⟨_, rfl, h⟩
noncomputable def yb (d : SV) (k : List SV → Prop) : Prop := SV.casesOn (motive_1 := fun _ => Prop) d False (fun _ => False) (fun _ => False) (fun _ => False) (fun _ => False) k (fun _ => False) (fun _ => False) (fun _ _ _ => False) (fun _ => False) (fun _ => False) fun _ => False
theorem rz {d : SV} {k : List SV → Prop} (h : yb d k) : ∃ i, d = .tup i ∧ k i := by
 induction d using SV.casesOn <;> first | exact False.elim h | exact ⟨_, rfl, h⟩
noncomputable def xZ (d : SV) (k : Int → Int → Int → Prop) : Prop := SV.casesOn (motive_1 := fun _ => Prop) d False (fun _ => False) (fun _ => False) (fun _ => False) (fun _ => False) (fun _ => False) (fun _ => False) (fun _ => False) k (fun _ => False) (fun _ => False) fun _ => False
theorem rG {d : SV} {k : Int → Int → Int → Prop} (h : xZ d k) : ∃ a b c, d = .rng a b c ∧ k a b c := by
 induction d using SV.casesOn <;> first | exact False.elim h | exact ⟨_, _, _, rfl, h⟩
noncomputable def pD (i : Int) (k : Nat → Prop) : Prop := Int.casesOn i k fun _ => False
theorem dM {i : Int} {k : Nat → Prop} (h : pD i k) : ∃ n, i = .ofNat n ∧ k n := by
 induction i using Int.casesOn <;> first | exact False.elim h | exact ⟨_, rfl, h⟩
noncomputable def z0 (o : Option aa) (k : List UInt8 → Prop) : Prop := dz o fun s => aa.casesOn s (fun _ => False) (fun _ _ => False) (fun _ => False) (fun _ => False) False k
theorem mX {o : Option aa} {k : List UInt8 → Prop} (h : z0 o k) : ∃ l, o = some (.barr l) ∧ k l := by
 obtain ⟨s, rfl, h⟩ := aX h
 induction s using aa.casesOn <;> first | exact False.elim h | exact ⟨_, rfl, h⟩
noncomputable def uR (o : aa) (k : List SV → Prop) : Prop := aa.casesOn o k (fun _ _ => False) (fun _ => False) (fun _ => False) False fun _ => False
theorem kt {o : aa} {k : List SV → Prop} (h : uR o k) : ∃ l, o = .lst l ∧ k l := by
 induction o using aa.casesOn <;> first | exact False.elim h | exact ⟨_, rfl, h⟩
noncomputable abbrev cB (vs : List Value) (n : Nat) : Obj := { cls := .type "tuple", data := .seq vs.toArray n }
inductive KR (w : World) : DictEntry → SV → Prop
 | str {x : Str} {t : Tok} {e : DictEntry} : e.key = .str x t → e.hash = PyData.keyHash w.params x → KR w e (.str x)
 | int {i : Int} {t : Tok} {e : DictEntry} : e.key = .int i t → e.hash = hashInt i → KR w e (.int i)
mutual
inductive VR (P : Addr → Obj → Prop) (w : World) : Value → SV → Prop
 | none : VR P w .none .none
 | bool (b : Bool) : VR P w (.bool b) (.bool b)
 | int (i : Int) (t : Tok) : VR P w (.int i t) (.int i)
 | str (x : Str) (t : Tok) : VR P w (.str x t) (.str x)
 | bytes (l : List UInt8) (t : Tok) : VR P w (.bytes ⟨l⟩ t) (.bytes l)
 | tup {a : Addr} {vs : List Value} {n : Nat} {l : List SV} : P a (cB vs n) → VRs P w vs l → VR P w (.ref a) (.tup l)
 | lst {a : Addr} {vs : List Value} {n : Nat} {l : List SV} : P a (listOf vs.toArray n) → VRs P w vs l → VR P w (.ref a) (.lst l)
 | dic {a : Addr} {es : List DictEntry} {n : Nat} {l : List (SV × SV)} : P a (dictOf es n) → (a == sysModules) = false → DRs P w es l → VR P w (.ref a) (.dic l)
 | rng {a : Addr} {i j k : Int} {t1 t2 t3 : Tok} : P a { cls := .type "range", data := .fields #[.int i t1, .int j t2, .int k t3] } → VR P w (.ref a) (.rng i j k)
 | ref (a : Addr) : VR P w (.ref a) (.ref a)
 | bi (b : Bi) : VR P w (.builtin b.id) (.bi b)
 | ty (t : Ty) : VR P w (.type t.id) (.ty t)
inductive VRs (P : Addr → Obj → Prop) (w : World) : List Value → List SV → Prop
 | nil : VRs P w [] []
 | cons {v : Value} {vs : List Value} {d : SV} {ds : List SV} : VR P w v d → VRs P w vs ds → VRs P w (v :: vs) (d :: ds)
inductive DRs (P : Addr → Obj → Prop) (w : World) : List DictEntry → List (SV × SV) → Prop
 | nil : DRs P w [] []
 | cons {e : DictEntry} {es : List DictEntry} {k d : SV} {ds : List (SV × SV)} : KR w e k → VR P w e.val d → DRs P w es ds → DRs P w (e :: es) ((k, d) :: ds)
end
theorem VR.mono {P P' : Addr → Obj → Prop} {w : World} (hp : ∀ a o, P a o → P' a o) {v : Value} {d : SV} (h : VR P w v d) : VR P' w v d :=
 VR.rec (motive_1 := fun v d _ => VR P' w v d) (motive_2 := fun vs ds _ => VRs P' w vs ds) (motive_3 := fun es ds _ => DRs P' w es ds) .none .bool .int .str .bytes (fun h _ r => .tup (hp _ _ h) r) (fun h _ r => .lst (hp _ _ h) r) (fun h c _ r => .dic (hp _ _ h) c r) (fun h => .rng (hp _ _ h)) .ref .bi .ty .nil (fun _ _ a b => .cons a b) .nil (fun k _ _ a b => .cons k a b) h
theorem VRs.mono {P P' : Addr → Obj → Prop} {w : World} (hp : ∀ a o, P a o → P' a o) {vs : List Value} {ds : List SV} (h : VRs P w vs ds) : VRs P' w vs ds :=
 VRs.rec (motive_1 := fun v d _ => VR P' w v d) (motive_2 := fun vs ds _ => VRs P' w vs ds) (motive_3 := fun es ds _ => DRs P' w es ds) .none .bool .int .str .bytes (fun h _ r => .tup (hp _ _ h) r) (fun h _ r => .lst (hp _ _ h) r) (fun h c _ r => .dic (hp _ _ h) c r) (fun h => .rng (hp _ _ h)) .ref .bi .ty .nil (fun _ _ a b => .cons a b) .nil (fun k _ _ a b => .cons k a b) h
inductive AR (P : Addr → Obj → Prop) (w : World) (ρ : List Addr) : Value → AV → Prop
 | v {v : Value} {d : SV} : VR P w v d → AR P w ρ v (.v d)
 | c {a : Addr} {n : Nat} : ρ[n]? = some a → AR P w ρ (.ref a) (.c n)
inductive ARs (P : Addr → Obj → Prop) (w : World) (ρ : List Addr) : List Value → List AV → Prop
 | nil : ARs P w ρ [] []
 | cons {v : Value} {vs : List Value} {d : AV} {ds : List AV} : AR P w ρ v d → ARs P w ρ vs ds → ARs P w ρ (v :: vs) (d :: ds)
section
variable {P : Addr → Obj → Prop} {w : World} {ρ : List Addr}
noncomputable def VRi (P : Addr → Obj → Prop) (w : World) (v : Value) : SV → Prop
 | .none => v = .none
 | .bool b => v = .bool b
 | .int i => ∃ t, v = .int i t
 | .str x => ∃ t, v = .str x t
 | .bytes l => ∃ t, v = .bytes ⟨l⟩ t
 | .tup l => ∃ a vs n, v = .ref a ∧ P a (cB vs n) ∧ VRs P w vs l
 | .lst l => ∃ a vs n, v = .ref a ∧ P a (listOf vs.toArray n) ∧ VRs P w vs l
 | .dic l => ∃ a es n, v = .ref a ∧ P a (dictOf es n) ∧ (a == sysModules) = false ∧ DRs P w es l
 | .rng i j k => ∃ a t1 t2 t3, v = .ref a ∧ P a { cls := .type "range", data := .fields #[.int i t1, .int j t2, .int k t3] }
 | .ref a => v = .ref a
 | .bi b => v = .builtin b.id
 | .ty t => v = .type t.id
theorem VR.i {v : Value} {d : SV} (h : VR P w v d) : VRi P w v d := by
 induction h using VR.casesOn with
 | none => exact rfl
 | bool => exact rfl
 | int _ t => exact ⟨t, rfl⟩
 | str _ t => exact ⟨t, rfl⟩
 | bytes _ t => exact ⟨t, rfl⟩
 | tup p r => exact ⟨_, _, _, rfl, p, r⟩
 | lst p r => exact ⟨_, _, _, rfl, p, r⟩
 | dic p c r => exact ⟨_, _, _, rfl, p, c, r⟩
 | rng p => exact ⟨_, _, _, _, rfl, p⟩
 | ref => exact rfl
 | bi => exact rfl
 | ty => exact rfl
noncomputable def Eu (P : Addr → Obj → Prop) (w : World) (vs : List Value) : List SV → Prop
 | [] => vs = []
 | d :: ds => ∃ v r, vs = v :: r ∧ VR P w v d ∧ VRs P w r ds
theorem VRs.i {vs : List Value} {ds : List SV} (h : VRs P w vs ds) : Eu P w vs ds := by
 induction h using VRs.casesOn with
 | nil => exact rfl
 | cons a r => exact ⟨_, _, rfl, a, r⟩
noncomputable def E3 (P : Addr → Obj → Prop) (w : World) (es : List DictEntry) : List (SV × SV) → Prop
 | [] => es = []
 | p :: ds => ∃ e r, es = e :: r ∧ KR w e p.1 ∧ VR P w e.val p.2 ∧ DRs P w r ds
theorem DRs.i {es : List DictEntry} {ds : List (SV × SV)} (h : DRs P w es ds) : E3 P w es ds := by
 induction h using DRs.casesOn with
 | nil => exact rfl
 | cons k a r => exact ⟨_, _, rfl, k, a, r⟩
noncomputable def ARi (P : Addr → Obj → Prop) (w : World) (ρ : List Addr) (v : Value) : AV → Prop
 | .v d => VR P w v d
 | .c n => ∃ a, v = .ref a ∧ ρ[n]? = some a
theorem AR.i {v : Value} {d : AV} (h : AR P w ρ v d) : ARi P w ρ v d := by
 induction h using AR.casesOn with
 | v h => exact h
 | c h => exact ⟨_, rfl, h⟩
theorem AR.inv {v : Value} {d : SV} (h : AR P w ρ v (.v d)) : VR P w v d := h.i
noncomputable def E6 (P : Addr → Obj → Prop) (w : World) (ρ : List Addr) (vs : List Value) : List AV → Prop
 | [] => vs = []
 | d :: ds => ∃ v r, vs = v :: r ∧ AR P w ρ v d ∧ ARs P w ρ r ds
theorem ARs.i {vs : List Value} {ds : List AV} (h : ARs P w ρ vs ds) : E6 P w ρ vs ds := by
 induction h using ARs.casesOn with
 | nil => exact rfl
 | cons a r => exact ⟨_, _, rfl, a, r⟩
end
theorem AR.mono {P P' : Addr → Obj → Prop} {w : World} {ρ ρ' : List Addr} (hp : ∀ a o, P a o → P' a o) (hr : ρ <+: ρ') {v : Value} {d : AV} (h : AR P w ρ v d) : AR P' w ρ' v d := by
 induction h using AR.casesOn with
 | v h => exact .v (h.mono hp)
 | c h => exact .c (by obtain ⟨t, rfl⟩ := hr; rw [List.getElem?_append_left (List.getElem?_eq_some_iff.mp h).1]; exact h)
theorem ARs.mono {P P' : Addr → Obj → Prop} {w : World} {ρ ρ' : List Addr} (hp : ∀ a o, P a o → P' a o) (hr : ρ <+: ρ') {v : List Value} {d : List AV} (h : ARs P w ρ v d) : ARs P' w ρ' v d := by
 induction h with
 | nil => exact .nil
 | cons h _ ih => exact .cons (h.mono hp hr) ih
theorem ARs.length {P : Addr → Obj → Prop} {w : World} {ρ : List Addr} {vs : List Value} {ds : List AV} (h : ARs P w ρ vs ds) : vs.length = ds.length := by
 induction h with
 | nil => rfl
 | cons _ _ ih => exact congrArg (· + 1) ih
theorem ARs.append {P : Addr → Obj → Prop} {w : World} {ρ : List Addr} {ws : List Value} {es : List AV} (k : ARs P w ρ ws es) {vs : List Value} {ds : List AV} (r : ARs P w ρ vs ds) : ARs P w ρ (vs ++ ws) (ds ++ es) := by
 induction r with
 | nil => exact k
 | cons h _ ih => exact .cons h ih
noncomputable def allV : List AV → Option (List SV)
 | [] => some []
 | .v x :: r => (allV r).map (x :: ·)
 | .c _ :: _ => none
theorem ARs.allV {P : Addr → Obj → Prop} {w : World} {ρ : List Addr} {vs : List Value} {as : List AV} (h : ARs P w ρ vs as) : ∀ {ds : List SV}, allV as = some ds → VRs P w vs ds := by
 induction h with
 | nil => intro ds e; obtain rfl := Option.some.inj e; exact .nil
 | cons h _ ih =>
  intro ds e
  rename_i v vs d as _
  induction d using AV.casesOn with
  | c i => exact aw e
  | v x =>
   change (Mine.allV as).map (x :: ·) = some ds at e
   generalize q : Mine.allV as = o at e ih
   induction o using Option.casesOn with
   | none => exact aw e
   | some l => obtain rfl := Option.some.inj e; exact .cons h.inv (ih rfl)
theorem VRs.toA {P : Addr → Obj → Prop} {w : World} {ρ : List Addr} : ∀ {ds : List SV} {vs : List Value}, VRs P w vs ds → ARs P w ρ vs (ds.map .v) := by
 intro ds
 induction ds with
 | nil => intro vs h; obtain rfl := h.i; exact .nil
 | cons d ds ih => intro vs h; obtain ⟨v, r, rfl, a, b⟩ := h.i; exact .cons (.v a) (ih b)
section
variable {P : Addr → Obj → Prop} {w : World} {v : Value} {d : SV} {vs ws : List Value} {ds es : List SV}
theorem VRs.length (h : VRs P w vs ds) : vs.length = ds.length := by
 induction ds generalizing vs with
 | nil => obtain rfl := h.i; rfl
 | cons d ds ih => obtain ⟨v, r, rfl, a, b⟩ := h.i; exact congrArg (· + 1) (ih b)
theorem VRs.append (h : VRs P w vs ds) (k : VRs P w ws es) : VRs P w (vs ++ ws) (ds ++ es) := by
 induction ds generalizing vs with
 | nil => obtain rfl := h.i; exact k
 | cons d ds ih => obtain ⟨v, r, rfl, a, b⟩ := h.i; exact .cons a (ih b)
theorem VRs.get (h : VRs P w vs ds) {k : Nat} {d : SV} (hk : ds[k]? = some d) : ∃ v, vs[k]? = some v ∧ VR P w v d := by
 induction ds generalizing vs k with
 | nil => exact aw hk
 | cons d' ds ih =>
  obtain ⟨v, r, rfl, a, b⟩ := h.i
  induction k using Nat.casesOn with
  | zero => obtain rfl := Option.some.inj hk; exact ⟨v, rfl, a⟩
  | succ k => exact ih b hk
theorem VRs.get' (h : VRs P w vs ds) {k : Nat} {v : Value} (hk : vs[k]? = some v) : ∃ d, ds[k]? = some d ∧ VR P w v d := by
 induction ds generalizing vs k with
 | nil => obtain rfl := h.i; exact aw hk
 | cons d' ds ih =>
  obtain ⟨v', r, rfl, a, b⟩ := h.i
  induction k using Nat.casesOn with
  | zero => obtain rfl := Option.some.inj hk; exact ⟨_, rfl, a⟩
  | succ k => exact ih b hk
theorem VRs.drop (h : VRs P w vs ds) : ∀ n, VRs P w (vs.drop n) (ds.drop n) := by
 intro n
 induction n generalizing vs ds with
 | zero => exact h
 | succ n ih => induction ds using List.casesOn with
  | nil => obtain rfl := h.i; exact .nil
  | cons d ds => obtain ⟨v, r, rfl, a, b⟩ := h.i; exact ih b
theorem VRs.take (h : VRs P w vs ds) : ∀ n, VRs P w (vs.take n) (ds.take n) := by
 intro n
 induction n generalizing vs ds with
 | zero => exact .nil
 | succ n ih => induction ds using List.casesOn with
  | nil => obtain rfl := h.i; exact .nil
  | cons d ds => obtain ⟨v, r, rfl, a, b⟩ := h.i; exact .cons a (ih b)
end
noncomputable def lk (x : Str) : List (Str × AV) → Option AV
 | [] => none
 | p :: r => match Fast.sEq x p.1 with
  | true => some p.2
  | false => lk x r
noncomputable def lkN (x : Str) : List (Str × Nat) → Option Nat
 | [] => none
 | p :: r => match Fast.sEq x p.1 with
  | true => some p.2
  | false => lkN x r
theorem cX (x : Str) : Fast.sEq x x = true := Fast.sEq_iff.mpr rfl
theorem cT {x y : Str} (h : x ≠ y) : Fast.sEq x y = false := by
 cases q : Fast.sEq x y with
 | false => rfl
 | true => exact absurd (Fast.sEq_iff.mp q) h
theorem lD (x y : Str) (v : AV) (r : List (Str × AV)) : lk x ((y, v) :: r) = if x = y then some v else lk x r := by
 show (match Fast.sEq x y with | true => some v | false => lk x r) = _
 by_cases h : x = y
 ·subst h; rw [cX, if_pos rfl]
 ·rw [cT h, if_neg h]
structure SS where
 loc : List (Str × AV)
 cel : List aa
noncomputable abbrev Pz (h : Heap) (ow : Addr → Prop) : Addr → Obj → Prop := fun a o => h.get? a = some o ∧ ¬ ow a
inductive ER (P : Addr → Obj → Prop) (w : World) : List DictEntry → List (Str × SV) → Prop
 | nil : ER P w [] []
 | cons {x : Str} {t : Tok} {v : Value} {sv : SV} {es : List DictEntry} {fs : List (Str × SV)} : VR P w v sv → ER P w es fs → ER P w (⟨PyData.keyHash w.params x, .str x t, v⟩ :: es) ((x, sv) :: fs)
inductive OR (P : Addr → Obj → Prop) (w : World) (ρ : List Addr) : Obj → aa → Prop
 | lst {vs : List Value} {n : Nat} {l : List SV} : VRs P w vs l → OR P w ρ (listOf vs.toArray n) (.lst l)
 | inst {C dx : Addr} {j : Nat} : ρ[j]? = some dx → OR P w ρ (instObj C dx) (.inst C j)
 | idict {es : List DictEntry} {n : Nat} {fs : List (Str × SV)} : ER P w es fs → OR P w ρ (dictOf es n) (.idict fs)
 | vcell {o : Obj} {v : Value} {sv : AV} : o.data = .cell (some v) → AR P w ρ v sv → OR P w ρ o (.vcell sv)
 | vnone {o : Obj} : o.data = .cell none → OR P w ρ o .vnone
 | barr {l : List UInt8} : OR P w ρ { cls := .type "bytearray", data := .bytearray ⟨l⟩ 0 } (.barr l)
section
variable {P : Addr → Obj → Prop} {w : World} {ρ : List Addr}
noncomputable def ORi (P : Addr → Obj → Prop) (w : World) (ρ : List Addr) (o : Obj) : aa → Prop
 | .lst l => ∃ vs n, o = listOf vs.toArray n ∧ VRs P w vs l
 | .inst C j => ∃ dx, o = instObj C dx ∧ ρ[j]? = some dx
 | .idict fs => ∃ es n, o = dictOf es n ∧ ER P w es fs
 | .vcell sv => ∃ v, o.data = .cell (some v) ∧ AR P w ρ v sv
 | .vnone => o.data = .cell none
 | .barr l => o = { cls := .type "bytearray", data := .bytearray ⟨l⟩ 0 }
theorem OR.i {o : Obj} {d : aa} (h : OR P w ρ o d) : ORi P w ρ o d := by
 induction h using OR.casesOn with
 | lst r => exact ⟨_, _, rfl, r⟩
 | inst r => exact ⟨_, rfl, r⟩
 | idict r => exact ⟨_, _, rfl, r⟩
 | vcell e r => exact ⟨_, e, r⟩
 | vnone e => exact e
 | barr => exact rfl
end
theorem ER.mono {P P' : Addr → Obj → Prop} {w : World} (hp : ∀ a o, P a o → P' a o) {es : List DictEntry} {fs : List (Str × SV)} (h : ER P w es fs) : ER P' w es fs := by
 induction h with
 | nil => exact .nil
 | cons v _ ih => exact .cons (v.mono hp) ih
theorem OR.mono {P P' : Addr → Obj → Prop} {ρ ρ' : List Addr} {w : World} (hp : ∀ a o, P a o → P' a o) (hr : ρ <+: ρ') {o : Obj} {so : aa} (h : OR P w ρ o so) : OR P' w ρ' o so := by
 induction h using OR.casesOn with
 | lst r => exact .lst (r.mono hp)
 | inst h => exact .inst (by obtain ⟨t, rfl⟩ := hr; rw [List.getElem?_append_left (List.getElem?_eq_some_iff.mp h).1]; exact h)
 | idict r => exact .idict (r.mono hp)
 | vcell h r => exact .vcell h (r.mono hp hr)
 | vnone h => exact .vnone h
 | barr => exact .barr
structure Fx where
 w : World
 dp : Nat
 un : Nat
 gd : Option (List Code)
 cn : Str
 cs : Scope
 L : Addr
 fa : Addr
 ccd : Value
 cl : List (Str × Addr)
 outer : List Env
 Az0 : Around
 base : Heap
 hz0 : Heap
 env : Env
 comp : Option (Str → Option Value)
 vid : List (Str × Nat)
 D : Nat
 U : Nat
noncomputable abbrev Fx.A (X : Fx) : Around := ktrTop X.dp X.un X.gd X.cn X.cs X.L X.fa X.ccd X.cl X.outer
structure Fx.Ok (X : Fx) : Prop where
 below : Below X.Az0 X.base X.outer X.hz0
 K : (tp.heap_1 X.w.params).In X.hz0
 T : ∃ mean mg mb, Top lq ll mean mg mb X.hz0
 ck : X.cs.kind = .function
 kind : X.env.scope.kind = .function
 glob : X.env.globals = mainGlobals
 bins : X.env.builtins = builtinsNs
 here : X.comp = none → X.env.locals = X.L
 there : ∀ m, X.comp = some m → X.env.locals ≠ X.L ∧ X.hz0.get? X.env.locals = none
 room : X.dp + X.D < recursionLimit
 units : X.un + X.U < cLine
inductive SRf (g : Heap) (L lc : Addr) (cp : Option (Str → Option Value)) (w : World) (ow : Addr → Prop) (ρ : List Addr) (h : Heap) (loc : List (Str × AV)) : Prop
 | mk (mf ml : Str → Option Value) (F : Fr g L h mf) (n : h.Ns lc ml) (c1 : cp = none → ml = mf) (c2 : ∀ m, cp = some m → mf = m) (l : ∀ x sv, lk x loc = some sv → ∃ v, ml x = some v ∧ AR (Pz h ow) w ρ v sv)
structure SR (X : Fx) (ow : Addr → Prop) (ρ : List Addr) (h : Heap) (σ : SS) : Prop where
 fr : SRf X.hz0 X.L X.env.locals X.comp X.w ow ρ h σ.loc
 len : ρ.length = σ.cel.length
 cel : ∀ (i : Nat) (a : Addr) (o : aa), ρ[i]? = some a → σ.cel[i]? = some o → ∃ ob, h.get? a = some ob ∧ OR (Pz h ow) X.w ρ ob o
 nd : ρ.Nodup
 off : ∀ a ∈ ρ, ow a ∧ X.hz0.get? a = none ∧ a ≠ X.L ∧ a ≠ X.env.locals
 owL : ow X.L
 owl : ow X.env.locals
 low : ∀ a, ow a → ∃ o, h.get? a = some o
 var : ∀ (x : Str) (i : Nat), lkN x X.vid = some i → ∃ c, X.env.cells.lookup x = some c ∧ ρ[i]? = some c
 kf : ∀ (a : Addr) (o : Obj), (tp.heap_1 X.w.params).lookup a = some o → Pz h ow a o
structure Ex (X : Fx) (ow : Addr → Prop) (ρ : List Addr) (h : Heap) (ow' : Addr → Prop) (ρ' : List Addr) (h' : Heap) : Prop where
 own : ∀ b, ow b → ow' b
 new : ∀ b, ow' b → ow b ∨ h.get? b = none
 pre : ρ <+: ρ'
 fresh : ∀ b ∈ ρ', b ∈ ρ ∨ h.get? b = none
 keep : ∀ b o, h.get? b = some o → b ∉ ρ → b ≠ X.env.locals → b ≠ X.L → h'.get? b = some o
 live : ∀ b o, h.get? b = some o → ∃ o', h'.get? b = some o'
theorem ao {h : Heap} {b : Addr} {o : Obj} {P : Prop} (e : h.get? b = some o) (n : h.get? b = none) : P := by rw [n] at e; cases e
section
variable {X : Fx} {ow ow' ow'' : Addr → Prop} {ρ ρ' ρ'' : List Addr} {h h' h'' : Heap} {σ : SS}
theorem Ex.refl : Ex X ow ρ h ow ρ h := ⟨fun _ x => x, fun _ x => .inl x, List.prefix_refl _, fun _ x => .inl x, fun _ _ e _ _ _ => e, fun _ o e => ⟨o, e⟩⟩
theorem Ex.gone (a : Ex X ow ρ h ow' ρ' h') {b : Addr} (n : h'.get? b = none) : h.get? b = none := by
 cases e : h.get? b with
 | none => rfl
 | some o => obtain ⟨o', e'⟩ := a.live b o e; exact ao e' n
theorem Ex.trans (a : Ex X ow ρ h ow' ρ' h') (b : Ex X ow' ρ' h' ow'' ρ'' h'') : Ex X ow ρ h ow'' ρ'' h'' where
 own := fun x y => b.own x (a.own x y)
 new := fun x y => (b.new x y).elim (fun z => a.new x z) fun z => .inr (a.gone z)
 pre := a.pre.trans b.pre
 fresh := fun x y => (b.fresh x y).elim (fun z => a.fresh x z) fun z => .inr (a.gone z)
 keep := fun x o e n1 n2 n3 => b.keep x o (a.keep x o e n1 n2 n3) (fun q => (a.fresh x q).elim n1 fun z => ao e z) n2 n3
 live := fun x o e => let ⟨o', e'⟩ := a.live x o e; b.live x o' e'
theorem Ex.pz (a : Ex X ow ρ h ow' ρ' h') (off : ∀ a ∈ ρ, ow a) (owl : ow X.env.locals) (owL : ow X.L) : ∀ b o, Pz h ow b o → Pz h' ow' b o := fun b o e =>
 ⟨a.keep b o e.1 (fun q => e.2 (off b q)) (fun q => e.2 (q ▸ owl)) (fun q => e.2 (q ▸ owL)), fun q => (a.new b q).elim e.2 fun z => ao e.1 z⟩
theorem SR.pz (S : SR X ow ρ h σ) (a : Ex X ow ρ h ow' ρ' h') : ∀ b o, Pz h ow b o → Pz h' ow' b o := a.pz (fun b hb => (S.off b hb).1) S.owl S.owL
theorem SR.vr (S : SR X ow ρ h σ) (a : Ex X ow ρ h ow' ρ' h') {v : Value} {d : SV} (r : VR (Pz h ow) X.w v d) : VR (Pz h' ow') X.w v d := r.mono (S.pz a)
theorem SR.vrs (S : SR X ow ρ h σ) (a : Ex X ow ρ h ow' ρ' h') {v : List Value} {d : List SV} (r : VRs (Pz h ow) X.w v d) : VRs (Pz h' ow') X.w v d := r.mono (S.pz a)
theorem SR.ar (S : SR X ow ρ h σ) (a : Ex X ow ρ h ow' ρ' h') {v : Value} {d : AV} (r : AR (Pz h ow) X.w ρ v d) : AR (Pz h' ow') X.w ρ' v d := r.mono (S.pz a) a.pre
theorem SR.ars (S : SR X ow ρ h σ) (a : Ex X ow ρ h ow' ρ' h') {v : List Value} {d : List AV} (r : ARs (Pz h ow) X.w ρ v d) : ARs (Pz h' ow') X.w ρ' v d := r.mono (S.pz a) a.pre
theorem SR.grow (S : SR X ow ρ h σ) (up : ∀ b x, h.get? b = some x → h'.get? b = some x) : SR X ow ρ h' σ := by
 have hp : ∀ b x, Pz h ow b x → Pz h' ow b x := fun b x e => ⟨up b x e.1, e.2⟩
 obtain ⟨mf, ml, F, n, c1, c2, l⟩ := S.fr
 exact {
     fr := ⟨mf, ml, ⟨by obtain ⟨o', es, ep, e, r⟩ := F.ns; exact ⟨o', es, ep, up _ _ e, r⟩, fun b o e => up b o (F.keep b o e), F.above⟩, by obtain ⟨o', es, ep, e, r⟩ := n; exact ⟨o', es, ep, up _ _ e, r⟩, c1, c2, fun x sv e => let ⟨v, e1, e2⟩ := l x sv e; ⟨v, e1, e2.mono hp (List.prefix_refl _)⟩⟩
     len := S.len
     cel := fun i a so e1 e2 => let ⟨ob, e3, e4⟩ := S.cel i a so e1 e2; ⟨ob, up _ _ e3, e4.mono hp (List.prefix_refl _)⟩
     nd := S.nd, off := S.off, owL := S.owL, owl := S.owl
     low := fun a q => let ⟨o, e⟩ := S.low a q; ⟨o, up a o e⟩
     var := S.var
     kf := fun a x e => hp a x (S.kf a x e) }
theorem Ex.grow (up : ∀ b x, h.get? b = some x → h'.get? b = some x) : Ex X ow ρ h ow ρ h' where
 own := fun _ x => x
 new := fun _ x => .inl x
 pre := List.prefix_refl _
 fresh := fun _ x => .inl x
 keep := fun b o e _ _ _ => up b o e
 live := fun b o e => ⟨o, up b o e⟩
theorem iG (o : Obj) : ∀ b x, h.get? b = some x → (h.push o).get? b = some x := fun b x e => Heap.get?_push_of_some _ e
theorem SR.push (S : SR X ow ρ h σ) (o : Obj) : SR X ow ρ (h.push o) σ := S.grow (iG o)
theorem Ex.push (o : Obj) : Ex X ow ρ h ow ρ (h.push o) := .grow (iG o)
theorem aA (h : Heap) : h.get? h.objs.size = none := Heap.get?_none_of_le (Nat.le_refl _)
theorem SR.fresh (S : SR X ow ρ h σ) (o : Obj) (hf : o.isFreed = false) : Pz (h.push o) ow h.objs.size o := ⟨Heap.get?_push_size _ hf, fun q => let ⟨_, e⟩ := S.low _ q; ao e (aA h)⟩
end
noncomputable def aL {α β : Type} (X : Fx) (ow : Addr → Prop) (ρ : List Addr) (s : Shared) (R : (Addr → Prop) → List Addr → Heap → α → β → Prop) (t : Sem α) (K : β → SS → Prop) : Prop :=
 ∀ Q E, (∀ a b σ' ow' ρ' h' tk', Ex X ow ρ s.heap ow' ρ' h' → SR X ow' ρ' h' σ' → R ow' ρ' h' a b → K b σ' → Q a { s with heap := h', toks := tk' }) → wpAny (model af X.w) X.A t Q E s
noncomputable abbrev RV (X : Fx) : (Addr → Prop) → List Addr → Heap → Value → AV → Prop := fun ow ρ h v d => AR (Pz h ow) X.w ρ v d
noncomputable abbrev RVs (X : Fx) : (Addr → Prop) → List Addr → Heap → List Value → List AV → Prop := fun ow ρ h v d => ARs (Pz h ow) X.w ρ v d
noncomputable abbrev RB : (Addr → Prop) → List Addr → Heap → Bool → Bool → Prop := fun _ _ _ v d => v = d
noncomputable abbrev RU : (Addr → Prop) → List Addr → Heap → Unit → Unit → Prop := fun _ _ _ _ _ => True
inductive SF where
 | next | brk | cont
 | ret (v : AV)
inductive RF (X : Fx) (ow : Addr → Prop) (ρ : List Addr) (h : Heap) : Flow → SF → Prop
 | next : RF X ow ρ h .next .next
 | brk : RF X ow ρ h .brk .brk
 | cont : RF X ow ρ h .cont .cont
 | ret {v : Value} {d : AV} : AR (Pz h ow) X.w ρ v d → RF X ow ρ h (.ret v) (.ret d)
noncomputable def JE (X : Fx) (e : Expr) (σ : SS) (K : AV → SS → Prop) : Prop := ∀ ow ρ s, SR X ow ρ s.heap σ → aL X ow ρ s (RV X) (eval e X.env) K
noncomputable def JT (X : Fx) (e : Expr) (σ : SS) (K : Bool → SS → Prop) : Prop := ∀ ow ρ s, SR X ow ρ s.heap σ → aL X ow ρ s RB (isTrue e X.env (eval e X.env)) K
noncomputable def JL (X : Fx) (pos : Pos) (es : List Expr) (σ : SS) (K : List AV → SS → Prop) : Prop := ∀ ow ρ s, SR X ow ρ s.heap σ → aL X ow ρ s (RVs X) (spliced (backTo pos (starEach es X.env))) K
noncomputable def JS (X : Fx) (st : Stmt) (σ : SS) (K : SF → SS → Prop) : Prop := ∀ ow ρ s, SR X ow ρ s.heap σ → aL X ow ρ s (RF X) (exec st X.env) K
noncomputable def JB (X : Fx) (st : List Stmt) (σ : SS) (K : SF → SS → Prop) : Prop := ∀ ow ρ s, SR X ow ρ s.heap σ → aL X ow ρ s (RF X) (execs st X.env) K
end
section
section
variable {X : Fx} {σ : SS} {K : AV → SS → Prop}
noncomputable def J2 (X : Fx) (f : Value → Value → Sem Value) (a b : AV) (σ : SS) (K : AV → SS → Prop) : Prop :=
 ∀ ow ρ s va vb, SR X ow ρ s.heap σ → AR (Pz s.heap ow) X.w ρ va a → AR (Pz s.heap ow) X.w ρ vb b → aL X ow ρ s (RV X) (f va vb) K
noncomputable def J1 (X : Fx) (f : Value → Sem Value) (a : AV) (σ : SS) (K : AV → SS → Prop) : Prop :=
 ∀ ow ρ s va, SR X ow ρ s.heap σ → AR (Pz s.heap ow) X.w ρ va a → aL X ow ρ s (RV X) (f va) K
noncomputable def JU (X : Fx) (f : Value → Sem Unit) (a : AV) (σ : SS) (K : SS → Prop) : Prop :=
 ∀ ow ρ s va, SR X ow ρ s.heap σ → AR (Pz s.heap ow) X.w ρ va a → aL X ow ρ s RU (f va) (fun _ => K)
noncomputable def JTr (X : Fx) (a : AV) (σ : SS) (K : Bool → SS → Prop) : Prop :=
 ∀ ow ρ s va, SR X ow ρ s.heap σ → AR (Pz s.heap ow) X.w ρ va a → aL X ow ρ s RB (truthy va) K
theorem aL.mono {α β : Type} {ow : Addr → Prop} {ρ : List Addr} {s : Shared} {R : (Addr → Prop) → List Addr → Heap → α → β → Prop} {t : Sem α} {K K' : β → SS → Prop} (h : aL X ow ρ s R t K) (k : ∀ b σ, K b σ → K' b σ) : aL X ow ρ s R t K' :=
 fun Q E q => h Q E fun a b σ' ow' ρ' h' tk' e S r kk => q a b σ' ow' ρ' h' tk' e S r (k _ _ kk)
theorem JE.mono {e : Expr} {K' : AV → SS → Prop} (h : JE X e σ K) (k : ∀ b σ, K b σ → K' b σ) : JE X e σ K' := fun ow ρ s S => (h ow ρ s S).mono k
theorem cm (O : X.Ok) {x : Str} {pos : Pos} {sv : AV} (hx : X.env.kindOf x = some .local) (hd : (x == ("__debug__" : Str)) = false) (h : lk x σ.loc = some sv) (k : K sv σ) : JE X (.Name x pos) σ K := by
 intro ow ρ s S Q E q
 obtain ⟨mf, ml, F, n, c1, c2, l⟩ := S.fr
 obtain ⟨v, hv, r⟩ := l x sv h
 exact wpAny_Name (wpAny_loadName_local O.kind hx n hv (q v sv σ ow ρ s.heap s.toks .refl S r k)) hd
theorem qy (O : X.Ok) {x : Str} {pos : Pos} {sv : AV} {i : Nat} (hx : X.env.kindOf x = some .cell ∨ X.env.kindOf x = some .free) (hd : (x == ("__debug__" : Str)) = false) (hn : (x == ("__classdict__" : Str)) = false)
  (hi : lkN x X.vid = some i) (h : σ.cel[i]? = some (.vcell sv)) (k : K sv σ) : JE X (.Name x pos) σ K := by
 intro ow ρ s S Q E q
 obtain ⟨c, hc, hr⟩ := S.var x i hi
 obtain ⟨ob, ho, r⟩ := S.cel i c _ hr h
 cases r with
 | vcell hd' r =>
  have hv : s.heap.IsCell c (some _) := ⟨ob, ho, hd'⟩
  rcases hx with hx | hx
  ·exact wpAny_Name (wpAny_loadName_cell O.kind hx hc hv (q _ sv σ ow ρ s.heap s.toks .refl S r k)) hd
  ·exact wpAny_Name (wpAny_loadName_free O.kind hx hc hv (q _ sv σ ow ρ s.heap s.toks .refl S r k) hn) hd
noncomputable def KV (w : World) (v : Value) (sv : SV) : Prop := ∀ (P : Addr → Obj → Prop), (∀ a o, (tp.heap_1 w.params).lookup a = some o → P a o) → VR P w v sv
theorem l6 (O : X.Ok) {x : Str} {pos : Pos} {v : Value} {sv : SV} (hx : X.env.kindOf x = some .globalImplicit) (hd : (x == ("__debug__" : Str)) = false)
  (e : nsIn (tp.heap_1 X.w.params) mainGlobals x = some (some v)) (r : KV X.w v sv) (k : K (.v sv) σ) : JE X (.Name x pos) σ K := by
 intro ow ρ s S Q E q
 obtain ⟨mf, ml, F, n, c1, c2, l⟩ := S.fr
 obtain ⟨mean, mg, mb, T⟩ := O.T
 exact Name_function_global O.kind hx (loadGlobal_global (by rw [O.glob]; exact T.g.keeps F.keep) (mg_of O.K T.g e) (q v (.v sv) σ ow ρ s.heap s.toks .refl S (.v (r _ S.kf)) k)) hd
theorem xm (O : X.Ok) {x : Str} {pos : Pos} {v : Value} {sv : SV} (hx : X.env.kindOf x = some .globalImplicit) (hd : (x == ("__debug__" : Str)) = false) (hn : x ≠ "__name__")
  (e : nsIn (tp.heap_1 X.w.params) mainGlobals x = some none) (hv : bootBuiltins x = some v) (r : KV X.w v sv) (k : K (.v sv) σ) : JE X (.Name x pos) σ K := by
 intro ow ρ s S Q E q
 obtain ⟨mf, ml, F, n, c1, c2, l⟩ := S.fr
 obtain ⟨mean, mg, mb, T⟩ := O.T
 exact Name_function_global O.kind hx (loadGlobal_builtin (by rw [O.glob]; exact T.g.keeps F.keep) (mg_none_of O.K T.g e) (by rw [O.bins]; exact T.b.keeps F.keep) ((T.builtins x hn).trans hv) (q v (.v sv) σ ow ρ s.heap s.toks .refl S (.v (r _ S.kf)) k)) hd
theorem uC {i : Int} {k : Nat} {pos : Pos} (h : K (.v (.int i)) σ) : JE X (.Constant (.int i) k pos) σ K := fun ow ρ s S Q E q =>
 wpAny_Constant_int (q _ _ σ ow ρ s.heap (s.toks + 1) .refl S (.v (.int i _)) h)
theorem cj {l r : Expr} {op : Operator} {pos : Pos} (h : JE X l σ fun a σ1 => JE X r σ1 fun b σ2 => J2 X (binaryOp op) a b σ2 K) : JE X (.BinOp l op r pos) σ K := by
 intro ow ρ s S Q E q
 refine wpAny_BinOp (h ow ρ s S _ _ fun a sa σ1 ow1 ρ1 hz1 tk1 ez1 S1 rz1 kz1 => kz1 ow1 ρ1 _ S1 _ _ fun b sb σ2 ow2 ρ2 hz2 tk2 ez2 S2 rz2 kz2 => ?_)
 exact kz2 ow2 ρ2 _ a b S2 (S1.ar ez2 rz1) rz2 _ _ fun v sv σ3 ow3 ρ3 hz3 tk3 ez3 S3 rz3 kz3 => q v sv σ3 ow3 ρ3 hz3 tk3 ((ez1.trans ez2).trans ez3) S3 rz3 kz3
theorem pr {l r : Expr} {op : CmpOp} {pos : Pos} (hm : behindInMarks op r = false) (h : JE X l σ fun a σ1 => JE X r σ1 fun b σ2 => J2 X (compareOp op) a b σ2 K) : JE X (.Compare l [op] [r] pos) σ K := by
 intro ow ρ s S Q E q
 refine wpAny_Compare1 (h ow ρ s S _ _ fun a sa σ1 ow1 ρ1 hz1 tk1 ez1 S1 rz1 kz1 => kz1 ow1 ρ1 _ S1 _ _ fun b sb σ2 ow2 ρ2 hz2 tk2 ez2 S2 rz2 kz2 => ?_) hm
 exact kz2 ow2 ρ2 _ a b S2 (S1.ar ez2 rz1) rz2 _ _ fun v sv σ3 ow3 ρ3 hz3 tk3 ez3 S3 rz3 kz3 => q v sv σ3 ow3 ρ3 hz3 tk3 ((ez1.trans ez2).trans ez3) S3 rz3 kz3
theorem ou {l r : Expr} {op : CmpOp} {pos : Pos} {K : Bool → SS → Prop} (hm : behindInMarks op r = false) (h : JE X l σ fun a σ1 => JE X r σ1 fun b σ2 => J2 X (compareOp op) a b σ2 fun c σ3 => JTr X c σ3 K) : JT X (.Compare l [op] [r] pos) σ K := by
 intro ow ρ s S Q E q
 refine wpAny_isTrue_Compare1 (h ow ρ s S _ _ fun a sa σ1 ow1 ρ1 hz1 tk1 ez1 S1 rz1 kz1 => kz1 ow1 ρ1 _ S1 _ _ fun b sb σ2 ow2 ρ2 hz2 tk2 ez2 S2 rz2 kz2 => ?_) hm
 exact kz2 ow2 ρ2 _ a b S2 (S1.ar ez2 rz1) rz2 _ _ fun v sv σ3 ow3 ρ3 hz3 tk3 ez3 S3 rz3 kz3 => kz3 ow3 ρ3 _ v S3 rz3 _ _ fun c sc σ4 ow4 ρ4 hz4 tk4 ez4 S4 rz4 kz4 => q c sc σ4 ow4 ρ4 hz4 tk4 (((ez1.trans ez2).trans ez3).trans ez4) S4 rz4 kz4
theorem jr {x : Expr} {op : UnaryOp} {pos : Pos} (h : JE X x σ fun a σ1 => J1 X (unaryOp op) a σ1 K) : JE X (.UnaryOp op x pos) σ K := by
 intro ow ρ s S Q E q
 refine UnaryOp_ (h ow ρ s S _ _ fun a sa σ1 ow1 ρ1 hz1 tk1 ez1 S1 rz1 kz1 => ?_)
 exact kz1 ow1 ρ1 _ a S1 rz1 _ _ fun v sv σ3 ow3 ρ3 hz3 tk3 ez3 S3 rz3 kz3 => q v sv σ3 ow3 ρ3 hz3 tk3 (ez1.trans ez3) S3 rz3 kz3
noncomputable def Br (b : Bool) (P Q : Prop) : Prop := match b with
 | true => P
 | false => Q
theorem Br.intro {b : Bool} {P Q : Prop} (h1 : b = true → P) (h2 : b = false → Q) : Br b P Q := by induction b using Bool.casesOn; exact h2 rfl; exact h1 rfl
theorem sF {t a b : Expr} {pos : Pos} (h : JT X t σ fun c σ1 => Br c (JE X a σ1 K) (JE X b σ1 K)) : JE X (.IfExp t a b pos) σ K := by
 intro ow ρ s S Q E q
 refine IfExp_ (h ow ρ s S _ _ fun c sc σ1 ow1 ρ1 hz1 tk1 ez1 S1 rz1 kz1 => ?_)
 obtain rfl : c = sc := rz1
 induction c using Bool.casesOn with
 | true => exact kz1 ow1 ρ1 _ S1 _ _ fun v sv σ3 ow3 ρ3 hz3 tk3 ez3 S3 rz3 kz3 => q v sv σ3 ow3 ρ3 hz3 tk3 (ez1.trans ez3) S3 rz3 kz3
 | false => exact kz1 ow1 ρ1 _ S1 _ _ fun v sv σ3 ow3 ρ3 hz3 tk3 ez3 S3 rz3 kz3 => q v sv σ3 ow3 ρ3 hz3 tk3 (ez1.trans ez3) S3 rz3 kz3
theorem uu {e : Expr} {K : Bool → SS → Prop} (h : JE X e σ fun a σ1 => JTr X a σ1 K)
  (hp : isTrue e X.env (eval e X.env) = (do let v ← eval e X.env; standAt (Expr.pos e); holding [v] (truthy v))) : JT X e σ K := by
 intro ow ρ s S Q E q
 refine isTrue_plain (h ow ρ s S _ _ fun a sa σ1 ow1 ρ1 hz1 tk1 ez1 S1 rz1 kz1 => ?_) hp
 exact kz1 ow1 ρ1 _ a S1 rz1 _ _ fun v sv σ3 ow3 ρ3 hz3 tk3 ez3 S3 rz3 kz3 => q v sv σ3 ow3 ρ3 hz3 tk3 (ez1.trans ez3) S3 rz3 kz3
theorem m6 {b : Bool} {K : Bool → SS → Prop} (h : K b σ) : JTr X (.v (.bool b)) σ K := fun ow ρ s va S r Q E q => by
 have r := r.inv; replace r := r.i; obtain rfl := r; exact wpAny_truthy_bool (q b b σ ow ρ s.heap s.toks .refl S rfl h)
theorem dB {pos : Pos} {K : List AV → SS → Prop} (h : K [] σ) : JL X pos [] σ K := fun ow ρ s S Q E q => wpAny_items_nil (q [] [] σ ow ρ s.heap s.toks .refl S .nil h)
theorem aH {pos : Pos} {e : Expr} {es : List Expr} {K : List AV → SS → Prop} (hs : starEach (e :: es) X.env = (false, eval e X.env) :: starEach es X.env)
  (h : JE X e σ fun a σ1 => JL X pos es σ1 fun as σ2 => K (a :: as) σ2) : JL X pos (e :: es) σ K := by
 intro ow ρ s S Q E q
 refine spliced_more (h ow ρ s S _ _ fun a sa σ1 ow1 ρ1 hz1 tk1 ez1 S1 rz1 kz1 => ?_) hs
 exact kz1 ow1 ρ1 _ S1 _ _ fun v sv σ3 ow3 ρ3 hz3 tk3 ez3 S3 rz3 kz3 => q (a :: v) (sa :: sv) σ3 ow3 ρ3 hz3 tk3 (ez1.trans ez3) S3 (.cons (S1.ar ez3 rz1) rz3) kz3
noncomputable def Gd (b : Bool) (P : Prop) : Prop := match b with
 | true => P
 | false => False
theorem Gd.out {b : Bool} {P : Prop} (h : Gd b P) : b = true ∧ P := by induction b using Bool.casesOn; exact h.elim; exact ⟨rfl, h⟩
noncomputable def jt (as : List AV) (K : List SV → Prop) : Prop := match allV as with
 | some l => Gd (Nat.ble l.length 1000) (K l)
 | none => False
theorem jt.out {as : List AV} {K : List SV → Prop} (h : jt as K) : ∃ l, allV as = some l ∧ l.length ≤ 1000 ∧ K l := by
 unfold jt at h
 split at h
 ·exact ⟨_, by assumption, Nat.le_of_ble_eq_true h.out.1, h.out.2⟩
 ·exact h.elim
theorem l4 {ow : Addr → Prop} {ρ : List Addr} {s : Shared} {vs : List Value} {l : List SV} (S : SR X ow ρ s.heap σ) (r : VRs (Pz s.heap ow) X.w vs l) (hz : l.length ≤ sizeLine) (k : K (.v (.tup l)) σ) : aL X ow ρ s (RV X) (newTuple vs) K := by
 intro Q E q
 have hz' : sizeOk (.seq vs.toArray 0) := by show vs.toArray.size ≤ sizeLine; rw [List.size_toArray, r.length]; exact hz
 refine wpAny_newObj_type ?_ hz'
 exact q _ _ σ ow ρ _ s.toks (.push _) (S.push _) (.v (.tup (S.fresh (cB vs 0) rfl) (S.vrs (.push _) r))) k
theorem nA {ow : Addr → Prop} {ρ : List Addr} {s : Shared} {vs : List Value} {l : List SV} (S : SR X ow ρ s.heap σ) (r : VRs (Pz s.heap ow) X.w vs l) (hz : l.length ≤ sizeLine) (k : K (.v (.lst l)) σ) : aL X ow ρ s (RV X) (newList vs) K := by
 intro Q E q
 have hz' : sizeOk (.seq vs.toArray 0) := by show vs.toArray.size ≤ sizeLine; rw [List.size_toArray, r.length]; exact hz
 refine wpAny_newObj_type ?_ hz'
 exact q _ _ σ ow ρ _ s.toks (.push _) (S.push _) (.v (.lst (S.fresh (listOf vs.toArray 0) rfl) (S.vrs (.push _) r))) k
theorem tB {es : List Expr} {k : Nat} {pos : Pos} (h : JL X pos es σ fun l σ1 => jt l fun l => K (.v (.tup l)) σ1) : JE X (.Tuple es k pos) σ K := by
 intro ow ρ s S Q E q
 refine Tuple_ (h ow ρ s S _ _ fun a sa σ1 ow1 ρ1 hz1 tk1 ez1 S1 rz1 kz1 => ?_)
 obtain ⟨l, el, g, kz1⟩ := kz1.out
 exact l4 (s := { s with heap := hz1, toks := tk1 }) S1 (rz1.allV el) (Nat.le_trans g (by decide)) kz1 _ _ fun v sv σ3 ow3 ρ3 hz3 tk3 ez3 S3 rz3 kz3 => q v sv σ3 ow3 ρ3 hz3 tk3 (ez1.trans ez3) S3 rz3 kz3
theorem xT {es : List Expr} {pos : Pos} (h : JL X pos es σ fun l σ1 => jt l fun l => K (.v (.lst l)) σ1) : JE X (.List es pos) σ K := by
 intro ow ρ s S Q E q
 refine List_ (h ow ρ s S _ _ fun a sa σ1 ow1 ρ1 hz1 tk1 ez1 S1 rz1 kz1 => ?_)
 obtain ⟨l, el, g, kz1⟩ := kz1.out
 exact nA (s := { s with heap := hz1, toks := tk1 }) S1 (rz1.allV el) (Nat.le_trans g (by decide)) kz1 _ _ fun v sv σ3 ow3 ρ3 hz3 tk3 ez3 S3 rz3 kz3 => q v sv σ3 ow3 ρ3 hz3 tk3 (ez1.trans ez3) S3 rz3 kz3
theorem SR.cellPush {ow : Addr → Prop} {ρ : List Addr} {h : Heap} {o : Obj} {so : aa} (S : SR X ow ρ h σ) (hf : o.isFreed = false) (ho : OR (Pz h ow) X.w ρ o so) :
  SR X (fun b => ow b ∨ b = h.objs.size) (ρ ++ [h.objs.size]) (h.push o) ⟨σ.loc, σ.cel ++ [so]⟩ ∧ Ex X ow ρ h (fun b => ow b ∨ b = h.objs.size) (ρ ++ [h.objs.size]) (h.push o) := by
 have up := iG (h := h) o
 have nz := aA h
 have hp : ∀ b x, Pz h ow b x → Pz (h.push o) (fun b => ow b ∨ b = h.objs.size) b x := fun b x e => ⟨up b x e.1, fun q => q.elim e.2 fun (q : b = h.objs.size) => ao (q ▸ e.1) nz⟩
 have pf : ρ <+: ρ ++ [h.objs.size] := List.prefix_append _ _
 have nr : h.objs.size ∉ ρ := fun q => let ⟨_, e⟩ := S.low _ (S.off _ q).1; ao e nz
 obtain ⟨mf, ml, F, n, c1, c2, l⟩ := S.fr
 have nl : h.objs.size ≠ X.env.locals := fun q => let ⟨_, e⟩ := S.low _ S.owl; ao (q ▸ e) nz
 have nL : h.objs.size ≠ X.L := fun q => let ⟨_, e⟩ := S.low _ S.owL; ao (q ▸ e) nz
 refine ⟨⟨⟨mf, ml, F.push o, by obtain ⟨o', es, ep, e, r⟩ := n; exact ⟨o', es, ep, up _ _ e, r⟩, c1, c2, fun x sv e => let ⟨v, e1, e2⟩ := l x sv e; ⟨v, e1, e2.mono hp pf⟩⟩,
  by rw [List.length_append, List.length_append, S.len]; rfl, fun i a so' e1 e2 => ?_, ?_, fun a ha => ?_, .inl S.owL, .inl S.owl, fun a q => ?_, fun x i e => ?_, fun a x e => hp a x (S.kf a x e)⟩,
  ⟨fun b q => .inl q, fun b q => q.imp id fun (q : b = h.objs.size) => q ▸ nz, pf, fun b q => ?_, fun b x e _ _ _ => up b x e, fun b x e => ⟨x, up b x e⟩⟩⟩
 ·by_cases hi : i < ρ.length
  ·rw [List.getElem?_append_left hi] at e1
   rw [List.getElem?_append_left (S.len ▸ hi)] at e2
   obtain ⟨ob, e3, e4⟩ := S.cel i a so' e1 e2
   exact ⟨ob, up _ _ e3, e4.mono hp pf⟩
  ·rw [List.getElem?_append_right (Nat.le_of_not_lt hi)] at e1
   rw [List.getElem?_append_right (S.len ▸ Nat.le_of_not_lt hi), ← S.len] at e2
   cases hj : i - ρ.length with
   | zero => rw [hj] at e1 e2; cases e1; cases e2; exact ⟨o, Heap.get?_push_size _ hf, ho.mono hp pf⟩
   | succ j => rw [hj] at e1; cases e1
 ·rw [List.nodup_append]
  exact ⟨S.nd, by simp, fun a ha b hb e => nr (by rw [List.mem_singleton] at hb; rw [← hb, ← e]; exact ha)⟩
 ·rcases List.mem_append.mp ha with ha | ha
  ·exact ⟨.inl (S.off a ha).1, (S.off a ha).2⟩
  ·obtain rfl := List.mem_singleton.mp ha
   exact ⟨.inr rfl, next_is_new F, nL, nl⟩
 ·rcases q with q | q
  ·obtain ⟨x, e⟩ := S.low a q; exact ⟨x, up a x e⟩
  ·exact ⟨o, by rw [q]; exact Heap.get?_push_size _ hf⟩
 ·obtain ⟨c, e1, e2⟩ := S.var x i e
  exact ⟨c, e1, by rw [List.getElem?_append_left (List.getElem?_eq_some_iff.mp e2).1]; exact e2⟩
 ·rcases List.mem_append.mp q with q | q
  ·exact .inl q
  ·exact .inr (by rw [List.mem_singleton.mp q]; exact nz)
theorem nt {ow : Addr → Prop} {ρ : List Addr} {s : Shared} {vs : List Value} {l : List SV} (S : SR X ow ρ s.heap σ) (r : VRs (Pz s.heap ow) X.w vs l) (hz : l.length ≤ sizeLine) (k : K (.c σ.cel.length) ⟨σ.loc, σ.cel ++ [.lst l]⟩) : aL X ow ρ s (RV X) (newList vs) K := by
 intro Q E q
 have hz' : sizeOk (.seq vs.toArray 0) := by show vs.toArray.size ≤ sizeLine; rw [List.size_toArray, r.length]; exact hz
 refine wpAny_newObj_type ?_ hz'
 obtain ⟨S', e⟩ := S.cellPush (o := listOf vs.toArray 0) rfl (.lst r)
 exact q _ _ _ _ _ _ s.toks e S' (.c (by rw [← S.len, List.getElem?_append_right (Nat.le_refl _), Nat.sub_self]; rfl)) k
theorem mH {es : List Expr} {pos : Pos} (h : JL X pos es σ fun l σ1 => jt l fun l => K (.c σ1.cel.length) ⟨σ1.loc, σ1.cel ++ [.lst l]⟩) : JE X (.List es pos) σ K := by
 intro ow ρ s S Q E q
 refine List_ (h ow ρ s S _ _ fun a sa σ1 ow1 ρ1 hz1 tk1 ez1 S1 rz1 kz1 => ?_)
 obtain ⟨l, el, g, kz1⟩ := kz1.out
 exact nt (s := { s with heap := hz1, toks := tk1 }) S1 (rz1.allV el) (Nat.le_trans g (by decide)) kz1 _ _ fun v sv σ3 ow3 ρ3 hz3 tk3 ez3 S3 rz3 kz3 => q v sv σ3 ow3 ρ3 hz3 tk3 (ez1.trans ez3) S3 rz3 kz3
end
end
section
section
variable {X : Fx} {σ : SS}
theorem pfx (ρ : List Addr) : ρ <+: ρ := List.prefix_refl _
theorem bE {a : Addr} {h h' : Heap} (hs : Heap.SameBut a h h') {b : Addr} {o : Obj} (hb : b ≠ a) (e : h.get? b = some o) : h'.get? b = some o := (hs.2 b hb).trans e
theorem SR.store (O : X.Ok) {ow : Addr → Prop} {ρ : List Addr} {h h' : Heap} {x : Str} {v : Value} {sv : AV} (S : SR X ow ρ h σ) (r : AR (Pz h ow) X.w ρ v sv)
  (hs : Heap.SameBut X.env.locals h h') (hn : ∀ ml, h.Ns X.env.locals ml → h'.Ns X.env.locals (fun y => if y = x then some v else ml y)) : SR X ow ρ h' ⟨(x, sv) :: σ.loc, σ.cel⟩ ∧ Ex X ow ρ h ow ρ h' := by
 obtain ⟨mf, ml, F, n, c1, c2, l⟩ := S.fr
 have n' := hn ml n
 have hp : ∀ b o, Pz h ow b o → Pz h' ow b o := fun b o e => ⟨bE hs (fun q => e.2 (q ▸ S.owl)) e.1, e.2⟩
 have live : ∀ b o, h.get? b = some o → ∃ o', h'.get? b = some o' := fun b o e => by
  by_cases hb : b = X.env.locals
  ·subst hb; obtain ⟨o', _, _, e', _⟩ := n'; exact ⟨o', e'⟩
  ·exact ⟨o, bE hs hb e⟩
 refine ⟨⟨?_, S.len, fun i a so e1 e2 => ?_, S.nd, S.off, S.owL, S.owl, fun a q => let ⟨o, e⟩ := S.low a q; live a o e, S.var, fun a x e => hp a x (S.kf a x e)⟩, fun _ q => q, fun _ q => .inl q, pfx ρ, fun _ q => .inl q, fun b o e _ n2 _ => bE hs n2 e, live⟩
 ·have ln : ∀ y sv', lk y ((x, sv) :: σ.loc) = some sv' → ∃ v', (fun y => if y = x then some v else ml y) y = some v' ∧ AR (Pz h' ow) X.w ρ v' sv' := fun y sv' e => by
   rw [lD] at e
   by_cases hy : y = x
   ·rw [if_pos hy] at e; cases e; exact ⟨v, if_pos hy, r.mono hp (pfx ρ)⟩
   ·rw [if_neg hy] at e
    obtain ⟨v', e1, e2⟩ := l y sv' e
    exact ⟨v', (if_neg hy).trans e1, e2.mono hp (pfx ρ)⟩
  cases hc : X.comp with
  | none =>
   have hl := O.here hc
   obtain rfl := c1 hc
   exact ⟨_, _, by rw [← hl] at F ⊢; exact F.set n' hs, n', fun _ => rfl, fun m q => (by cases q), ln⟩
  | some mm =>
   obtain ⟨t1, t2⟩ := O.there mm hc
   refine ⟨mf, _, ⟨F.ns.sameBut hs (Ne.symm t1), fun b o e => bE hs (fun q => ao (q ▸ e) t2) (F.keep b o e), F.above⟩, n', fun q => (by cases q), fun m q => c2 m (hc.trans q), ln⟩
 ·obtain ⟨ob, e3, e4⟩ := S.cel i a so e1 e2
  exact ⟨ob, bE hs (S.off a (List.mem_of_getElem? e1)).2.2.2 e3, e4.mono hp (pfx ρ)⟩
theorem qP (O : X.Ok) {ow : Addr → Prop} {ρ : List Addr} {s : Shared} {x : Str} {v : Value} {sv : AV} {K : SS → Prop} (hx : X.env.kindOf x = some .local) (S : SR X ow ρ s.heap σ) (r : AR (Pz s.heap ow) X.w ρ v sv) (k : K ⟨(x, sv) :: σ.loc, σ.cel⟩) :
  aL X ow ρ s RU (storeName X.env x v) (fun _ => K) := by
 intro Q E q
 obtain ⟨mf, ml, F, n, c1, c2, l⟩ := S.fr
 have hp : (X.env.scope.kind == .class || (X.env.scope.kind == .module && X.env.locals != X.env.globals)) = false := by rw [O.kind]; rfl
 refine wpAny_storeName_local hx n (fun h' hn hs => ?_) hp
 obtain ⟨S', e⟩ := S.store O r hs (x := x) (h' := h') fun ml' n' => by
  have : ml' = ml := funext fun y => by
   obtain ⟨o, es, ep, e1, e2, _, e3⟩ := n; obtain ⟨o', es', ep', f1, f2, _, f3⟩ := n'
   rw [e1] at f1; cases f1; rw [e2] at f2; cases f2; rw [← e3 y, ← f3 y]
  rw [this]; exact hn
 exact q () () _ ow ρ h' _ e S' trivial k
theorem SR.setCell {ow : Addr → Prop} {ρ : List Addr} {h h' : Heap} {i : Nat} {a : Addr} {ob : Obj} {so : aa} (S : SR X ow ρ h σ) (hi : ρ[i]? = some a) (hs : Heap.SameBut a h h') (e : h'.get? a = some ob) (ho : OR (Pz h ow) X.w ρ ob so) :
  SR X ow ρ h' ⟨σ.loc, σ.cel.set i so⟩ ∧ Ex X ow ρ h ow ρ h' := by
 obtain ⟨mf, ml, F, n, c1, c2, l⟩ := S.fr
 have ha := S.off a (List.mem_of_getElem? hi)
 have hp : ∀ b o, Pz h ow b o → Pz h' ow b o := fun b o e => ⟨bE hs (fun q => e.2 (q ▸ ha.1)) e.1, e.2⟩
 have live : ∀ b o, h.get? b = some o → ∃ o', h'.get? b = some o' := fun b o e' => by
  by_cases hb : b = a
  ·subst hb; exact ⟨ob, e⟩
  ·exact ⟨o, bE hs hb e'⟩
 refine ⟨⟨⟨mf, ml, ⟨F.ns.sameBut hs (Ne.symm ha.2.2.1), fun b o e' => bE hs (fun q => ao (q ▸ e') ha.2.1) (F.keep b o e'), F.above⟩, n.sameBut hs (Ne.symm ha.2.2.2), c1, c2, fun x sv e' => let ⟨v, e1, e2⟩ := l x sv e'; ⟨v, e1, e2.mono hp (pfx ρ)⟩⟩,
  by rw [List.length_set]; exact S.len, fun j b so' e1 e2 => ?_, S.nd, S.off, S.owL, S.owl, fun a q => let ⟨o, e⟩ := S.low a q; live a o e, S.var, fun a x e => hp a x (S.kf a x e)⟩, fun _ q => q, fun _ q => .inl q, pfx ρ, fun _ q => .inl q, fun b o e' n1 _ _ => bE hs (fun q => n1 (q ▸ List.mem_of_getElem? hi)) e', live⟩
 by_cases hj : i = j
 ·subst hj
  rw [hi] at e1; cases e1
  have hl : i < σ.cel.length := by rw [← S.len]; exact (List.getElem?_eq_some_iff.mp hi).1
  rw [List.getElem?_set_self hl] at e2; cases e2
  exact ⟨ob, e, ho.mono hp (pfx ρ)⟩
 ·rw [List.getElem?_set_ne hj] at e2
  obtain ⟨ob', e3, e4⟩ := S.cel j b so' e1 e2
  refine ⟨ob', bE hs (fun q => hj ?_) e3, e4.mono hp (pfx ρ)⟩
  subst q
  obtain ⟨l1, g1⟩ := List.getElem?_eq_some_iff.mp hi
  obtain ⟨l2, g2⟩ := List.getElem?_eq_some_iff.mp e1
  exact (List.getElem_inj S.nd).mp (g1.trans g2.symm)
noncomputable def fZ (X : Fx) (x : Str) (v : AV) (σ : SS) (K : SS → Prop) : Prop := JU X (storeName X.env x) v σ K
noncomputable def JA (X : Fx) (t : Expr) (v : AV) (σ : SS) (K : SS → Prop) : Prop := JU X (assign t X.env) v σ K
theorem bS (O : X.Ok) {x : Str} {sv : AV} {K : SS → Prop} (hx : X.env.kindOf x = some .local) (k : K ⟨(x, sv) :: σ.loc, σ.cel⟩) : fZ X x sv σ K := fun ow ρ s va S r => qP O hx S r k
theorem dU {x : Str} {pos : Pos} {sv : AV} {K : SS → Prop} (h : fZ X x sv σ K) : JA X (.Name x pos) sv σ K := fun ow ρ s va S r Q E q => wpAny_assign_Name (h ow ρ s va S r Q E q)
theorem jY (O : X.Ok) {ow : Addr → Prop} {ρ : List Addr} {s : Shared} {x : Str} {v : Value} {sv : AV} {so : aa} {i : Nat} {K : SS → Prop} (hx : X.env.kindOf x = some .cell) (hi : lkN x X.vid = some i) (hc : σ.cel[i]? = some so) (hso : so = .vnone ∨ ∃ v, so = .vcell v)
  (S : SR X ow ρ s.heap σ) (r : AR (Pz s.heap ow) X.w ρ v sv) (k : K ⟨σ.loc, σ.cel.set i (.vcell sv)⟩) : aL X ow ρ s RU (storeName X.env x v) (fun _ => K) := by
 intro Q E q
 obtain ⟨c, hcl, hr⟩ := S.var x i hi
 obtain ⟨ob, ho, ro⟩ := S.cel i c _ hr hc
 have hd : ∃ vz0, ob.data = .cell vz0 := by
  rcases hso with rfl | ⟨v, rfl⟩
  ·cases ro with | vnone h => exact ⟨_, h⟩
  ·cases ro with | vcell h _ => exact ⟨_, h⟩
 obtain ⟨vz0, hd⟩ := hd
 refine wpAny_storeName_cell O.kind hx hcl ⟨ob, ho, hd⟩ fun h' hv hs => ?_
 obtain ⟨ob', ho', hd'⟩ := hv
 obtain ⟨S', e⟩ := S.setCell hr hs ho' (.vcell hd' r)
 exact q () () _ ow ρ h' s.toks e S' trivial k
theorem iq (O : X.Ok) {x : Str} {sv : AV} {so : aa} {i : Nat} {K : SS → Prop} (hx : X.env.kindOf x = some .cell) (hi : lkN x X.vid = some i) (hc : σ.cel[i]? = some so) (hso : so = .vnone ∨ ∃ v, so = .vcell v) (k : K ⟨σ.loc, σ.cel.set i (.vcell sv)⟩) :
  fZ X x sv σ K := fun ow ρ s va S r => jY O hx hi hc hso S r k
noncomputable def JAs (X : Fx) (ts : List Expr) (vs : List AV) (σ : SS) (K : SS → Prop) : Prop :=
 ∀ ow ρ s vas, SR X ow ρ s.heap σ → ARs (Pz s.heap ow) X.w ρ vas vs → aL X ow ρ s RU (assignInOrder ((assignEach ts X.env).map (·.2)) vas) (fun _ => K)
theorem we {K : SS → Prop} (k : K σ) : JAs X [] [] σ K := fun ow ρ s vas S r Q E q => PyProof.Rows.assignInOrder_nil (q () () σ ow ρ s.heap s.toks .refl S trivial k)
theorem ta {t : Expr} {ts : List Expr} {v : AV} {vs : List AV} {K : SS → Prop} (he : assignEach (t :: ts) X.env = (false, assign t X.env) :: assignEach ts X.env) (h : JA X t v σ fun σ1 => JAs X ts vs σ1 K) : JAs X (t :: ts) (v :: vs) σ K := by
 intro ow ρ s vas S r Q E q
 replace r := r.i; obtain ⟨_, _, rfl, r, rs⟩ := r
 rw [he]
 refine PyProof.Rows.assignInOrder_cons (h ow ρ s _ S r _ _ fun _ _ σ1 ow1 ρ1 hz1 tk1 ez1 S1 _ kz1 => ?_)
 exact kz1 ow1 ρ1 _ _ S1 (S.ars ez1 rs) _ _ fun _ _ σ2 ow2 ρ2 hz2 tk2 ez2 S2 _ kz2 => q () () σ2 ow2 ρ2 hz2 tk2 (ez1.trans ez2) S2 trivial kz2
theorem oa {h h' : Heap} (x : Heap.ExtBut h.objs.size h h') : ∀ b o, h.get? b = some o → h'.get? b = some o := fun b o e => x b o (fun q => ao (q ▸ e) (aA h)) e
theorem ia (X : Fx) : X.A.handled = none := rfl
theorem f8 {ow : Addr → Prop} {ρ : List Addr} {s : Shared} {a : Addr} {o : Obj} {vs : List Value} {m : Nat} {l : List AV} {n : Nat} {K : List AV → SS → Prop} (S : SR X ow ρ s.heap σ) (hg : s.heap.get? a = some o) (hc : o.cls = .type "tuple") (hd : o.data = .seq vs.toArray m) (r : ARs (Pz s.heap ow) X.w ρ vs l) (hn : n = l.length) (k : K l σ) : aL X ow ρ s (RVs X) (unpackItems (.ref a) n none) K := by
 intro Q E q
 have ht : IsTup s.heap a vs.toArray := ⟨o, hg, hc, m, hd⟩
 have hz : n = vs.toArray.size := by rw [List.size_toArray, r.length]; exact hn
 rw [hz]
 refine unpackItems_tuple (ia X) ht fun h' hx => ?_
 exact q _ l σ ow ρ h' s.toks (.grow (oa hx)) (S.grow (oa hx)) (S.ars (.grow (oa hx)) r) k
theorem oG {ow : Addr → Prop} {ρ : List Addr} {s : Shared} {v : Value} {l : List SV} {n : Nat} {K : List AV → SS → Prop} (S : SR X ow ρ s.heap σ) (r : AR (Pz s.heap ow) X.w ρ v (.v (.tup l))) (hn : n = l.length) (k : K (l.map .v) σ) : aL X ow ρ s (RVs X) (unpackItems v n none) K := by
 have r := r.inv
 replace r := r.i; obtain ⟨_, _, _, rfl, hp, r⟩ := r
 exact f8 S hp.1 rfl rfl r.toA (by rw [List.length_map]; exact hn) k
theorem m7 {v : Value} {ts : List (Bool × (Value → Sem Unit))} (hf : ts.findIdx? (·.1) = none) : unpack v ts = (do let xs ← holding [v] (unpackItems v ts.length none); assignInOrder (ts.map (·.2)) xs) := by
 unfold unpack; rw [hf]
theorem ud {ts : List Expr} {k : Nat} {pos : Pos} {l : List SV} {K : SS → Prop} (hl : (assignEach ts X.env).length = l.length) (hf : (assignEach ts X.env).findIdx? (·.1) = none)
  (he : ∀ v, assign (.Tuple ts k pos) X.env v = (do standAt pos; unpack v (assignEach ts X.env)) ∨ assign (.Tuple ts k pos) X.env v = unpack v (assignEach ts X.env)) (h : JAs X ts (l.map .v) σ K) : JA X (.Tuple ts k pos) (.v (.tup l)) σ K := by
 intro ow ρ s va S r Q E q
 have key : wpAny (model af X.w) X.A (unpack va (assignEach ts X.env)) Q E s := by
  rw [m7 hf]
  refine wpAny_bind (wpAny_holding (oG S r hl (K := fun x σ1 => x = l.map .v ∧ JAs X ts (l.map .v) σ1 K) ⟨rfl, h⟩ _ _ fun a b σ1 ow1 ρ1 hz1 tk1 ez1 S1 rz1 kz1 => ?_))
  obtain ⟨rfl, kz1⟩ := kz1
  exact kz1 ow1 ρ1 _ _ S1 rz1 _ _ fun _ _ σ2 ow2 ρ2 hz2 tk2 ez2 S2 _ kz2 => q () () σ2 ow2 ρ2 hz2 tk2 (ez1.trans ez2) S2 trivial kz2
 rcases he va with e | e <;> rw [e]
 ·exact wpAny_bind (wpAny_standAt key)
 ·exact key
theorem i7 {K : SF → SS → Prop} (k : K .next σ) : JB X [] σ K := fun ow ρ s S Q E q => wpAny_execs_nil (q _ .next σ ow ρ s.heap s.toks .refl S .next k)
theorem fq {st : Stmt} {rest : List Stmt} {K : SF → SS → Prop} (h : JS X st σ fun f σ1 => match f with | .next => JB X rest σ1 K | f => K f σ1) : JB X (st :: rest) σ K := by
 intro ow ρ s S Q E q
 refine wpAny_execs_cons (h ow ρ s S _ _ fun a sa σ1 ow1 ρ1 hz1 tk1 ez1 S1 rz1 kz1 => ?_)
 induction rz1 using RF.casesOn with
 | next => exact kz1 ow1 ρ1 _ S1 _ _ fun a sa σ2 ow2 ρ2 hz2 tk2 ez2 S2 rz2 kz2 => q a sa σ2 ow2 ρ2 hz2 tk2 (ez1.trans ez2) S2 rz2 kz2
 | brk => exact q _ _ σ1 ow1 ρ1 hz1 tk1 ez1 S1 .brk kz1
 | cont => exact q _ _ σ1 ow1 ρ1 hz1 tk1 ez1 S1 .cont kz1
 | ret r => exact q _ _ σ1 ow1 ρ1 hz1 tk1 ez1 S1 (.ret r) kz1
theorem BW {t : Expr} {a b : List Stmt} {pos : Pos} {K : SF → SS → Prop} (h : JT X t σ fun c σ1 => Br c (JB X a σ1 K) (JB X b σ1 K)) : JS X (.If t a b pos) σ K := by
 intro ow ρ s S Q E q
 refine wpAny_If (h ow ρ s S _ _ fun c sc σ1 ow1 ρ1 hz1 tk1 ez1 S1 rz1 kz1 => ?_)
 obtain rfl : c = sc := rz1
 induction c using Bool.casesOn with
 | true => exact kz1 ow1 ρ1 _ S1 _ _ fun a sa σ2 ow2 ρ2 hz2 tk2 ez2 S2 rz2 kz2 => q a sa σ2 ow2 ρ2 hz2 tk2 (ez1.trans ez2) S2 rz2 kz2
 | false => exact kz1 ow1 ρ1 _ S1 _ _ fun a sa σ2 ow2 ρ2 hz2 tk2 ez2 S2 rz2 kz2 => q a sa σ2 ow2 ρ2 hz2 tk2 (ez1.trans ez2) S2 rz2 kz2
theorem rL {e : Expr} {pos : Pos} {K : SF → SS → Prop} (h : JE X e σ fun v σ1 => K (.ret v) σ1) : JS X (.Return (some e) pos) σ K := by
 intro ow ρ s S Q E q
 exact wpAny_Return_some (h ow ρ s S _ _ fun a sa σ1 ow1 ρ1 hz1 tk1 ez1 S1 rz1 kz1 => q _ _ σ1 ow1 ρ1 hz1 tk1 ez1 S1 (.ret rz1) kz1)
theorem jL {x : Str} {px pos : Pos} {value : Expr} {K : SF → SS → Prop} (hs : swapsWith value (some (.Name x px)) pos.line X.env = pure false) (h : JE X value σ fun v σ1 => fZ X x v σ1 fun σ2 => K .next σ2) : JS X (.Assign [.Name x px] value pos) σ K := by
 intro ow ρ s S Q E q
 refine wpAny_Assign_Name (h ow ρ s S _ _ fun a sa σ1 ow1 ρ1 hz1 tk1 ez1 S1 rz1 kz1 => ?_) hs
 exact kz1 ow1 ρ1 { s with heap := hz1, toks := tk1 } a S1 rz1 _ _ fun _ _ σ2 ow2 ρ2 hz2 tk2 ez2 S2 _ kz2 => q .next .next σ2 ow2 ρ2 hz2 tk2 (ez1.trans ez2) S2 .next kz2
theorem jh {ts : List Expr} {k : Nat} {tpos pos : Pos} {value : Expr} {K : SF → SS → Prop} (h1 : swapsWithSole [.Tuple ts k tpos] value pos.line X.env = pure false) (h2 : swappedStores [.Tuple ts k tpos] value X.env = pure none)
  (h : JE X value σ fun v σ1 => JA X (.Tuple ts k tpos) v σ1 fun σ2 => K .next σ2) : JS X (.Assign [.Tuple ts k tpos] value pos) σ K := by
 intro ow ρ s S Q E q
 refine Assign_Tuple (h ow ρ s S _ _ fun a sa σ1 ow1 ρ1 hz1 tk1 ez1 S1 rz1 kz1 => ?_) h1 h2
 exact kz1 ow1 ρ1 { s with heap := hz1, toks := tk1 } a S1 rz1 _ _ fun _ _ σ2 ow2 ρ2 hz2 tk2 ez2 S2 _ kz2 => q .next .next σ2 ow2 ρ2 hz2 tk2 (ez1.trans ez2) S2 .next kz2
noncomputable def JNs (X : Fx) (ns : List Str) (vs : List AV) (σ : SS) (K : SS → Prop) : Prop :=
 ∀ ow ρ s vas, SR X ow ρ s.heap σ → ARs (Pz s.heap ow) X.w ρ vas vs → aL X ow ρ s RU (assignInOrder (ns.map fun n => bindName X.env n) vas) (fun _ => K)
theorem wI {K : SS → Prop} (k : K σ) : JNs X [] [] σ K := fun ow ρ s vas S r Q E q => PyProof.Rows.assignInOrder_nil (q () () σ ow ρ s.heap s.toks .refl S trivial k)
theorem sX {x : Str} {ns : List Str} {v : AV} {vs : List AV} {K : SS → Prop} (h : fZ X x v σ fun σ1 => JNs X ns vs σ1 K) : JNs X (x :: ns) (v :: vs) σ K := by
 intro ow ρ s vas S r Q E q
 replace r := r.i; obtain ⟨_, _, rfl, r, rs⟩ := r
 refine PyProof.Rows.assignInOrder_cons (wpAny_bindName (h ow ρ s _ S r _ _ fun _ _ σ1 ow1 ρ1 hz1 tk1 ez1 S1 _ kz1 => ?_))
 exact kz1 ow1 ρ1 { s with heap := hz1, toks := tk1 } _ S1 (S.ars ez1 rs) _ _ fun _ _ σ2 ow2 ρ2 hz2 tk2 ez2 S2 _ kz2 => q () () σ2 ow2 ρ2 hz2 tk2 (ez1.trans ez2) S2 trivial kz2
theorem ARs.reverse {P : Addr → Obj → Prop} {w : World} {ρ : List Addr} {vs : List Value} {l : List AV} (h : ARs P w ρ vs l) : ARs P w ρ vs.reverse l.reverse := by
 induction vs generalizing l with
 | nil => cases h; exact .nil
 | cons v vs ih => cases h with | cons h r => rw [List.reverse_cons, List.reverse_cons]; exact ARs.append (.cons h .nil) (ih r)
theorem jG {ts vs : List Expr} {k j : Nat} {tpos vpos pos : Pos} {ns : List Str} {K : SF → SS → Prop} (h1 : swapsWithSole [.Tuple ts k tpos] (.Tuple vs j vpos) pos.line X.env = pure false) (h2 : swappedStores [.Tuple ts k tpos] (.Tuple vs j vpos) X.env = pure (some ns))
  (h : JL X vpos vs σ fun l σ1 => Gd (Nat.beq ns.length l.length && Nat.ble l.length 1000) (JNs X ns.reverse l.reverse σ1 fun σ2 => K .next σ2)) : JS X (.Assign [.Tuple ts k tpos] (.Tuple vs j vpos) pos) σ K := by
 intro ow ρ s S Q E q
 refine Assign_Tuple_swapped (Tuple_ (h ow ρ s S _ _ fun a sa σ1 ow1 ρ1 hz1 tk1 ez1 S1 rz1 kz1 => ?_)) h1 h2
 obtain ⟨g, kz1⟩ := kz1.out
 obtain ⟨g1, g2⟩ := Bool.and_eq_true_iff.mp g
 have hz' : sizeOk (.seq a.toArray 0) := by show a.toArray.size ≤ sizeLine; rw [List.size_toArray, rz1.length]; exact Nat.le_trans (Nat.le_of_ble_eq_true g2) (by decide)
 refine wpAny_newObj_type ?_ hz'
 have S1' := S1.push (cB a 0)
 refine f8 (s := { s with heap := hz1.push (cB a 0), toks := tk1 }) S1' (Heap.get?_push_size _ rfl) rfl rfl (S1.ars (.push _) rz1) (Nat.eq_of_beq_eq_true g1) (K := fun x σ2 => x = sa ∧ JNs X ns.reverse sa.reverse σ2 fun σ2 => K .next σ2) ⟨rfl, kz1⟩ _ _ fun b c σ2 ow2 ρ2 hz2 tk2 ez2 S2 rz2 kz2 => ?_
 obtain ⟨rfl, kz2⟩ := kz2
 exact kz2 ow2 ρ2 { s with heap := hz2, toks := tk2 } _ S2 rz2.reverse _ _ fun _ _ σ3 ow3 ρ3 hz3 tk3 ez3 S3 _ kz3 => q .next .next σ3 ow3 ρ3 hz3 tk3 (((ez1.trans (.push _)).trans ez2).trans ez3) S3 .next kz3
theorem kY {e : Expr} {pos : Pos} {K : SF → SS → Prop} (hi : interactive X.env = false) (hs : swapsWith e none pos.line X.env = pure false)
  (h : JE X e σ fun v σ1 => match v with | .v .none => K .next σ1 | _ => False) : JS X (.Expr e pos) σ K := by
 intro ow ρ s S Q E q
 refine wpAny_Expr (h ow ρ s S _ _ fun a sa σ1 ow1 ρ1 hz1 tk1 ez1 S1 rz1 kz1 => ?_) hi hs
 induction rz1 using AR.casesOn with
 | c _ => exact kz1.elim
 | v r => induction r using VR.casesOn with
  | none => exact q .next .next σ1 ow1 ρ1 hz1 tk1 ez1 S1 .next kz1
  | _ => exact kz1.elim
end
end
section
noncomputable abbrev Spec := List AV → List aa → (SV → List aa → Prop) → Prop
structure cC (P : Addr → Obj → Prop) (w : World) (ρ : List Addr) (h : Heap) (cel : List aa) : Prop where
 len : ρ.length = cel.length
 at' : ∀ (i : Nat) (a : Addr) (o : aa), ρ[i]? = some a → cel[i]? = some o → ∃ ob, h.get? a = some ob ∧ OR P w ρ ob o
noncomputable def aj (w : World) (f : Addr) (D U : Nat) (sp : Spec) : Prop :=
 ∀ (X : Fx), X.Ok → X.w = w → X.dp + D < recursionLimit → X.un + U < cLine → ∀ (ow : Addr → Prop) (ρ : List Addr) (σ : SS) (s : Shared), SR X ow ρ s.heap σ →
 ∀ (ρ' : List Addr) (cel : List aa) (vs : List Value) (as : List AV) (K : SV → List aa → Prop), ρ'.Nodup → (∀ a ∈ ρ', a ∈ ρ) → cC (Pz s.heap ow) w ρ' s.heap cel → ARs (Pz s.heap ow) w ρ' vs as → sp as cel K →
 ∀ (Q E : Value → Shared → Prop), (∀ v r cel' h' tk', (∀ b o, s.heap.get? b = some o → b ∉ ρ' → h'.get? b = some o) → (∀ b o, s.heap.get? b = some o → ∃ o', h'.get? b = some o') → cC (Pz h' ow) w ρ' h' cel' → VR (Pz h' ow) w v r → K r cel' → Q v { s with heap := h', toks := tk' }) →
 wpAny (model af w) X.A (call (.ref f) vs) Q E s
noncomputable def pM (names : List (Str × NameKind)) : List (Str × AV) → List Str → List AV → List (Str × AV)
 | acc, n :: ns, a :: as => pM names (match names.lookup n with | some .local => (n, a) :: acc | _ => acc) ns as
 | acc, _, _ => acc
noncomputable def kT (names : List (Str × NameKind)) : List (Str × AV) → List Str → List AV → List (Str × AV)
 | acc, n :: ns, a :: as => kT names (match names.lookup n with | some .local => acc | _ => (n, a) :: acc) ns as
 | acc, _, _ => acc
noncomputable def cF (cap : List (Str × AV)) : List (Str × Addr) → List aa
 | [] => []
 | (n, _) :: r => (match lk n cap with | some a => .vcell a | none => .vnone) :: cF cap r
noncomputable def gk (k : Nat) : List (Str × Addr) → List (Str × Nat)
 | [] => []
 | (n, _) :: r => (n, k) :: gk (k + 1) r
noncomputable def uE (P : Addr → Obj → Prop) (w : World) (ρ : List Addr) (m : Str → Option Value) (acc : List (Str × AV)) : Prop := ∀ x av, lk x acc = some av → ∃ v, m x = some v ∧ AR P w ρ v av
noncomputable def vm (P : Addr → Obj → Prop) (w : World) (ρ : List Addr) (m : Str → Option Value) (acc : List (Str × AV)) : Prop := ∀ x, match lk x acc with
 | some av => ∃ v, m x = some v ∧ AR P w ρ v av
 | none => m x = none
section
variable {P : Addr → Obj → Prop} {w : World} {ρ : List Addr}
theorem kg {α : Type} (a b : α) : ∀ {o : Option NameKind}, (match o with | some .local => a | _ => b) = b ∨ o = some .local := fun {o} => by
 induction o using Option.casesOn with
 | none => exact .inl rfl
 | some k => induction k using NameKind.casesOn <;> first | exact .inl rfl | exact .inr rfl
theorem uE.go {sc : Scope} {env : Env} (he : env.scope = sc) {ns : List Str} {vs : List Value} {as : List AV} {m : Str → Option Value} {acc : List (Str × AV)} : ARs P w ρ vs as → uE P w ρ m acc → uE P w ρ (bindL env.kindOf (ns.zip vs) m) (pM sc.names acc ns as) := by
 induction ns generalizing vs as m acc with
 | nil => intro _ h; induction as using List.casesOn <;> exact h
 | cons n ns ih =>
  intro rs h
  induction as using List.casesOn with
  | nil => obtain rfl := rs.i; exact h
  | cons d as =>
   obtain ⟨v, vs', rfl, r, rs'⟩ := rs.i
   have hk : env.kindOf n = sc.names.lookup n := by unfold Env.kindOf; rw [he]
   refine ih (m := if env.kindOf n = some .local then fun y => if y = n then some v else m y else m) (acc := match sc.names.lookup n with | some .local => (n, d) :: acc | _ => acc) rs' fun x av e => ?_
   by_cases hn : sc.names.lookup n = some .local
   ·rw [hn] at e
    rw [if_pos (hk.trans hn)]
    replace e : lk x ((n, d) :: acc) = some av := e
    rw [lD] at e
    by_cases hx : x = n
    ·rw [if_pos hx] at e; cases e; exact ⟨v, if_pos hx, r⟩
    ·rw [if_neg hx] at e; obtain ⟨v', e1, e2⟩ := h x av e; exact ⟨v', (if_neg hx).trans e1, e2⟩
   ·rw [if_neg (fun q => hn (hk.symm.trans q))]
    exact h x av ((congrArg (lk x) ((kg _ _).resolve_right hn)).symm.trans e)
theorem vm.go {sc : Scope} {env : Env} (he : env.scope = sc) {ns : List Str} {vs : List Value} {as : List AV} {m : Str → Option Value} {acc : List (Str × AV)} : ARs P w ρ vs as → vm P w ρ m acc → vm P w ρ (bindC env.kindOf (ns.zip vs) m) (kT sc.names acc ns as) := by
 induction ns generalizing vs as m acc with
 | nil => intro _ h; induction as using List.casesOn <;> exact h
 | cons n ns ih =>
  intro rs h
  induction as using List.casesOn with
  | nil => obtain rfl := rs.i; exact h
  | cons d as =>
   obtain ⟨v, vs', rfl, r, rs'⟩ := rs.i
   have hk : env.kindOf n = sc.names.lookup n := by unfold Env.kindOf; rw [he]
   refine ih (m := if env.kindOf n = some .local then m else fun y => if y = n then some v else m y) (acc := match sc.names.lookup n with | some .local => acc | _ => (n, d) :: acc) rs' fun x => ?_
   by_cases hn : sc.names.lookup n = some .local
   ·rw [hn, if_pos (hk.trans hn)]; exact h x
   ·rw [if_neg (fun q => hn (hk.symm.trans q)), (kg acc ((n, d) :: acc)).resolve_right hn, lD]
    by_cases hx : x = n
    ·rw [if_pos hx]; exact ⟨v, if_pos hx, r⟩
    ·rw [if_neg hx]
     have := h x
     simp only [if_neg hx]
     exact this
end
theorem eV (cap : List (Str × AV)) : ∀ cs : List (Str × Addr), (cF cap cs).length = cs.length
 | [] => rfl
 | _ :: r => by rw [cF, List.length_cons, List.length_cons, eV cap r]
theorem eT (cap : List (Str × AV)) (cs : List (Str × Addr)) : cF cap cs = (cs.map (·.1)).map fun n => (match lk n cap with | some a => .vcell a | none => .vnone) := by
 induction cs with
 | nil => rfl
 | cons p r ih =>
  obtain ⟨n, a⟩ := p
  exact congrArg (_ :: ·) ih
theorem mv (cap : List (Str × AV)) {cs : List (Str × Addr)} {i : Nat} {a : Addr} {o : aa} (e1 : (cs.map (·.2))[i]? = some a) (e2 : (cF cap cs)[i]? = some o) : ∃ n, (n, a) ∈ cs ∧ o = (match lk n cap with | some a => .vcell a | none => .vnone) := by
 rw [List.getElem?_map] at e1
 obtain ⟨p, h1, rfl⟩ := Option.map_eq_some_iff.mp e1
 rw [eT, List.getElem?_map, List.getElem?_map, h1] at e2
 exact ⟨p.1, List.mem_of_getElem? h1, (Option.some.inj e2).symm⟩
theorem jP (cap : List (Str × AV)) {cs ds : List (Str × Addr)} (h : cs.map (·.1) = ds.map (·.1)) : cF cap cs = cF cap ds := by
 rw [eT, eT, h]
theorem nq {k : Nat} {cs ds : List (Str × Addr)} (h : cs.map (·.1) = ds.map (·.1)) : gk k cs = gk k ds := by
 induction cs generalizing k ds with
 | nil =>
  rcases ds with _ | ⟨p, r⟩
  ·rfl
  ·exact absurd h (by simp)
 | cons p r ih =>
  rcases ds with _ | ⟨p', r'⟩
  ·exact absurd h (by simp)
  ·obtain ⟨n, a⟩ := p
   obtain ⟨n', a'⟩ := p'
   obtain ⟨h1, h2⟩ := List.cons.inj h
   obtain rfl : n = n' := h1
   exact congrArg (_ :: ·) (ih h2)
theorem mJ (x y : Str) (v : Nat) (r : List (Str × Nat)) : lkN x ((y, v) :: r) = if x = y then some v else lkN x r := by
 show (match Fast.sEq x y with | true => some v | false => lkN x r) = _
 by_cases h : x = y
 ·subst h; rw [cX, if_pos rfl]
 ·rw [cT h, if_neg h]
theorem qR {x : Str} : ∀ {cs : List (Str × Addr)} {k i : Nat}, lkN x (gk k cs) = some i → ∃ c, cs.lookup x = some c ∧ k ≤ i ∧ (cs.map (·.2))[i - k]? = some c := by
 intro its0
 induction its0 with
 | nil =>
  intro k i e
  cases e
 | cons pz0 r ih =>
  intro k i e
  obtain ⟨n, c⟩ := pz0
  rw [gk, mJ] at e
  by_cases h : x = n
  ·rw [if_pos h] at e; cases e
   exact ⟨c, by rw [List.lookup_cons, h, beq_self_eq_true], Nat.le_refl _, by rw [Nat.sub_self]; rfl⟩
  ·rw [if_neg h] at e
   obtain ⟨c', e1, e2, e3⟩ := ih e
   refine ⟨c', by rw [List.lookup_cons, beq_eq_false_iff_ne.mpr h]; exact e1, Nat.le_of_succ_le e2, ?_⟩
   rw [eP e2]; exact e3
noncomputable def okO (n : Nat) : aa → Bool
 | .inst _ j => Nat.blt j n
 | .vcell (.c j) => Nat.blt j n
 | _ => true
noncomputable def frz (n : Nat) (cel : List aa) (v : AV) (K : SV → List aa → Prop) : Prop := Gd (Nat.ble n cel.length && (cel.take n).all (okO n)) (match v with
 | .v x => K x (cel.take n)
 | .c i => match cel[i]? with
  | some (.lst l) => Gd (Nat.ble n i) (K (.lst l) (cel.take n))
  | _ => False)
noncomputable def oS (n : Nat) (K : SV → List aa → Prop) : SF → SS → Prop := fun f σ => match f with
 | .next => frz n σ.cel (.v .none) K
 | .ret v => frz n σ.cel v K
 | _ => False
structure Cx where
 names : List (Str × NameKind)
 vid : List (Str × Nat)
structure Agr (X : Fx) (C : Cx) : Prop where
 names : X.env.scope.names = C.names
 vid : X.vid = C.vid
 comp : X.comp = none
inductive gZ (w : World) (f : Addr) (qual : Str) (params : Arguments) (body : List Stmt) (scope : Scope) : Prop
 | mk (name doc pm an cdv ct oc od osl : _) (_ : (tp.heap_1 w.params).lookup f = some ⟨oc, od, .func (fnOf name qual params body scope .none .none doc pm an cdv ct), osl⟩) (_ : codeIn (tp.heap_1 w.params) cdv qual = true)
theorem OR.down {P P' : Addr → Obj → Prop} {w : World} {ρ ρ' : List Addr} {ob : Obj} {o : aa} (hp : ∀ a o, P a o → P' a o) (hr : ρ <+: ρ') (h : OR P w ρ' ob o) (ok : okO ρ.length o = true) : OR P' w ρ ob o := by
 have key : ∀ {j : Nat} {a : Addr}, ρ'[j]? = some a → Nat.blt j ρ.length = true → ρ[j]? = some a := fun {j a} e l => by
  obtain ⟨t, rfl⟩ := hr
  rw [List.getElem?_append_left (Nat.le_of_ble_eq_true l)] at e; exact e
 induction h using OR.casesOn with
 | lst r => exact .lst (r.mono hp)
 | inst h => exact .inst (key h ok)
 | idict r => exact .idict (r.mono hp)
 | vcell h r => induction r using AR.casesOn with
  | v r => exact .vcell h (.v (r.mono hp))
  | c e => exact .vcell h (.c (key e ok))
 | vnone h => exact .vnone h
 | barr => exact .barr
theorem frz.out {P P' : Addr → Obj → Prop} {w : World} {ρ ρ' : List Addr} {h : Heap} {cel : List aa} {v : Value} {av : AV} {K : SV → List aa → Prop} (k : frz ρ.length cel av K) (hr : ρ <+: ρ') (hp : ∀ a o, P a o → P' a o) (C : cC P w ρ' h cel)
  (hz : ∀ (a : Addr) (i : Nat) (ob : Obj), ρ'[i]? = some a → ρ.length ≤ i → h.get? a = some ob → P' a ob) (r : AR P w ρ' v av) : ∃ d cel', VR P' w v d ∧ cC P' w ρ h cel' ∧ K d cel' := by
 obtain ⟨g, k⟩ := Gd.out k
 obtain ⟨g1, g2⟩ := Bool.and_eq_true_iff.mp g
 have g1 := Nat.le_of_ble_eq_true g1
 have C' : cC P' w ρ h (cel.take ρ.length) := ⟨by rw [List.length_take, Nat.min_eq_left g1], fun i a o e1 e2 => by
  have hi := (List.getElem?_eq_some_iff.mp e1).1
  have e3 : ρ'[i]? = some a := by obtain ⟨t, rfl⟩ := hr; rw [List.getElem?_append_left hi]; exact e1
  have m := List.mem_of_getElem? e2
  rw [List.getElem?_take_of_lt hi] at e2
  obtain ⟨ob, e4, e5⟩ := C.at' i a o e3 e2
  exact ⟨ob, e4, e5.down hp hr (List.all_eq_true.mp g2 o m)⟩⟩
 induction r using AR.casesOn with
 | v r => exact ⟨_, _, r.mono hp, C', k⟩
 | c e =>
  dsimp only at k
  split at k
  ·rename_i l q
   obtain ⟨g3, k⟩ := k.out
   obtain ⟨ob, e4, e5⟩ := C.at' _ _ _ e q
   replace e5 := e5.i; obtain ⟨_, _, rfl, rr⟩ := e5
   exact ⟨_, _, .lst (hz _ _ _ e (Nat.le_of_ble_eq_true g3) e4) (rr.mono hp), C', k⟩
  ·exact k.elim
theorem iI {X : Fx} {ow : Addr → Prop} {ρ : List Addr} {h : Heap} {σ : SS} (S : SR X ow ρ h σ) : ∀ {ρ' : List Addr}, (∀ a ∈ ρ', a ∈ ρ) → ∃ news, News X.hz0 X.L h news ∧ news.map (·.1) = ρ' := by
 intro its0
 induction its0 with
 | nil =>
  intro _
  exact ⟨[], News.nil, rfl⟩
 | cons a r ih =>
  intro hs
  obtain ⟨news, N, e⟩ := ih fun b hb => hs b (.tail _ hb)
  obtain ⟨o1, n1, n2, n3⟩ := S.off a (hs a (.head _))
  obtain ⟨o, eo⟩ := S.low a o1
  refine ⟨(a, o) :: news, fun p hp => ?_, by rw [List.map_cons, e]⟩
  rcases List.mem_cons.mp hp with rfl | hp
  ·exact ⟨eo, n2, n1⟩
  ·exact N p hp
end
section
noncomputable abbrev c8 (sc : Scope) : List (Str × Addr) := cellsFrom 0 sc.names []
noncomputable abbrev aR (sc : Scope) (ns : List Str) (as : List AV) (cel : List aa) : SS := ⟨pM sc.names [] ns as, cel ++ cF (kT sc.names [] ns as) (c8 sc)⟩
noncomputable abbrev gU (sc : Scope) (n : Nat) : Cx := ⟨sc.names, gk n (c8 sc)⟩
noncomputable def hO : List Str → Bool
 | [] => true
 | x :: r => !(r.any fun y => Fast.sEq x y) && hO r
theorem gJ : ∀ {l : List Str}, hO l = true → l.Nodup
 | [], _ => List.nodup_nil
 | x :: r, h => by
  obtain ⟨h1, h2⟩ := Bool.and_eq_true_iff.mp h
  refine List.nodup_cons.mpr ⟨fun m => ?_, gJ h2⟩
  have : (r.any fun y => Fast.sEq x y) = true := List.any_eq_true.mpr ⟨x, m, cX x⟩
  rw [this] at h1; cases h1
noncomputable def tu (sc : Scope) (ns : List Str) : Bool := ns.all fun n => match sc.names.lookup n with
 | some .local => true
 | some .cell => ((c8 sc).lookup n).isSome
 | _ => false
theorem dg {n : Str} : ∀ {cs ds : List (Str × Addr)}, cs.map (·.1) = ds.map (·.1) → (cs.lookup n).isSome = true → (ds.lookup n).isSome = true
 | [], [], _, h => h
 | (x, _) :: r, (x', _) :: r', e, h => by
  rw [List.map_cons, List.map_cons] at e
  obtain ⟨h1, h2⟩ := List.cons.inj e
  obtain rfl : x = x' := h1
  rw [List.lookup_cons] at h ⊢
  split
  ·rfl
  ·rename_i q; rw [q] at h; exact dg h2 h
theorem AR.none_loc {P : Addr → Obj → Prop} {w : World} {ρ : List Addr} {m : Str → Option Value} : uE P w ρ m [] := fun x av e => by cases e
structure Ent (w : World) (D U : Nat) (sc : Scope) (ns : List Str) (as : List AV) (cel : List aa) (ow : Addr → Prop) (h : Heap) (ρ' ρh : List Addr) (A : Around) (outer : List Env) (base : Heap) (X' : Fx) (ca : List Addr) (hz1 : Heap) : Prop where
 ok : X'.Ok
 w : X'.w = w
 D : X'.D = D
 U : X'.U = U
 ag : Agr X' (gU sc cel.length)
 outer : X'.outer = outer
 base : X'.base = base
 hz0 : X'.hz0 = hideAll h ρh
 L : X'.L = h.objs.size
 comp : X'.comp = none
 A : X'.A = A.deeper X'.env
 fr : X'.env.frame = some X'.L
 me : X'.env = envX X'.cn X'.cs X'.L X'.fa X'.ccd X'.cl
 keep : ∀ b o, h.get? b = some o → hz1.get? b = some o
 big : ∀ a ∈ ca, h.objs.size < a
 S : SR X' (fun b => ow b ∨ b = h.objs.size ∨ b ∈ ca) (ρ' ++ ca) hz1 (aR sc ns as cel)
noncomputable abbrev Mk (w : World) (A : Around) (f : Addr) (fd : FuncData) (vs : List Value) (P : Env → Shared → Prop) (E : Value → Shared → Prop) (s : Shared) : Prop :=
 wpAny (model af w) A.in1 (bindArgs fd ⟨vs, []⟩) (fun binds s₁ => wpAny (model af w) A.in1 (newFunctionEnv fd.scope fd.globals fd.closure binds (fd.qualname ++ ".<locals>.") (some f) fd.code none fd.builtins) (fun env sz2 => sz2.heap.NoLimit ∧ P env sz2) E s₁) E s
noncomputable abbrev Cg (s : Shared) (f : Addr) (o : Obj) (fd : FuncData) (body : List Stmt) : Prop := s.heap.get? f = some o ∧ o.data = .func fd ∧ fd.scope.isCoroutine = false ∧ fd.scope.isGenerator = false ∧ fd.body = .stmts body ∧ s.heap.CodeRec fd.code fd.qualname
noncomputable abbrev Bnd (params : Arguments) (ns : List Str) : Prop := ∀ (fd : FuncData) (vs : List Value), fd.params = params → fd.defaults = .none → fd.kwdefaults = .none → vs.length = ns.length → bindArgs fd ⟨vs, []⟩ = pure (ns.zip vs)
noncomputable abbrev dq (sc : Scope) (ns : List Str) : Prop := (hO ((c8 sc).map (·.1)) && tu sc ns && (sc.kind == .function && !sc.isCoroutine && !sc.isGenerator)) = true
theorem kJ {w : World} {f : Addr} {D U : Nat} {qual : Str} {params : Arguments} {body : List Stmt} {sc : Scope} {ns : List Str} (hf : gZ w f qual params body sc) (hb : Bnd params ns) (hc : dq sc ns)
  {A : Around} {dp un : Nat} {gd : Option (List Code)} {outer : List Env} {base : Heap} (hA : ∀ L cdv cs, A.deeper (envX qual sc L f cdv cs) = ktrTop (dp + 1) (un + 3) gd qual sc L f cdv cs outer)
  (hdp : dp + (D + 1) < recursionLimit) (hun : un + (U + 3) < cLine) (ow : Addr → Prop) (s : Shared)
  (ρ' ρh : List Addr) (cel : List aa) (vs : List Value) (as : List AV) (BG : Below A base outer (hideAll s.heap ρh)) (hT : ∃ mean mg mb, Top lq ll mean mg mb (hideAll s.heap ρh)) (kf : ∀ a o, (tp.heap_1 w.params).lookup a = some o → Pz s.heap ow a o)
  (inc : ∀ a ∈ ρ', a ∈ ρh) (hid : ∀ a ∈ ρh, ow a) (low : ∀ a, ow a → ∃ o, s.heap.get? a = some o) (nd : ρ'.Nodup) (C : cC (Pz s.heap ow) w ρ' s.heap cel) (R : ARs (Pz s.heap ow) w ρ' vs as) (hlen : as.length = ns.length) :
  ∃ o fd, Cg s f o fd body ∧ ∀ (P : Env → Shared → Prop) (E : Value → Shared → Prop), (∀ X' ca hz1 tk, Ent w D U sc ns as cel ow s.heap ρ' ρh A outer base X' ca hz1 → P X'.env { s with heap := hz1, toks := tk }) → Mk w A f fd vs P E s := by
 refine hide fun Gz0 bk0 => ?_
 obtain ⟨hn, hfl⟩ := Bool.and_eq_true_iff.mp hc
 obtain ⟨hn, hk⟩ := Bool.and_eq_true_iff.mp hn
 have sub : ∀ a ∈ ρ', ow a := fun a m => hid a (inc a m)
 obtain ⟨name, doc, pm, an, cdv, ct, oc, od, osl, ho, hcd⟩ := hf
 obtain ⟨hfl, hfg⟩ := Bool.and_eq_true_iff.mp hfl
 obtain ⟨hfk, hfc⟩ := Bool.and_eq_true_iff.mp hfl
 have hfk : sc.kind = .function := beq_iff_eq.mp hfk
 have hfc : sc.isCoroutine = false := by simpa using hfc
 have hfg : sc.isGenerator = false := by simpa using hfg
 obtain ⟨mean, mg, mb, T⟩ := hT
 refine bk0 ?_; clear bk0 Gz0
 have hlen' : vs.length = ns.length := R.length.trans hlen
 have hnames : ∀ b, (cellsFrom b sc.names []).map (·.1) = (c8 sc).map (·.1) := fun b => cellsFrom_names sc.names b 0 [] [] rfl
 refine ⟨_, fnOf name qual params body sc .none .none doc pm an cdv ct, ⟨(kf _ _ ho).1, rfl, hfc, hfg, rfl, codeRec_of (fun b o e => (kf b o e).1) hcd⟩, fun P E h => ?_⟩
 unfold Mk
 rw [hb _ vs rfl rfl rfl hlen']
 refine wpAny_pure (wpAny_newFunctionEnv_cells hfk (fun x hx => ?_) fun env' he s' x => ?_)
 ·have hx' := List.all_eq_true.mp hk x.1 (List.of_mem_zip hx).1
  split at hx'
  ·rename_i e; exact .inl e
  ·rename_i e; exact .inr ⟨e, dg (hnames _).symm hx'⟩
  ·cases hx'
 subst he
 refine ⟨T.nolimit.keeps fun b o e => x.toInCall.keep b o (of_hideAll _ e), ?_⟩
 obtain ⟨hz1, tk, rfl, _⟩ := x.done
 have keep1 := x.toInCall.keep
 have Lz : s.heap.objs.size ≤ s.heap.objs.size := Nat.le_refl _
 generalize hcs : cellsFrom (s.heap.objs.size + 1) sc.names [] = cs at x
 have hcn : cs.map (·.1) = (c8 sc).map (·.1) := hcs ▸ hnames _
 have hnd : (cs.map (·.1)).Nodup := hcn ▸ gJ hn
 have csCell : ∀ n c, (n, c) ∈ cs → hz1.IsCell c (bindC (newEnv sc s.heap.objs.size mainGlobals cs (qual ++ ".<locals>.") (some f) cdv none builtinsNs).kindOf (ns.zip vs) (fun _ => none) n) ∧ s.heap.objs.size < c := fun n c m => ⟨x.cell n c (lookup_of_mem_nodup hnd m), x.above n c m⟩
 have newAt : ∀ b, s.heap.objs.size ≤ b → s.heap.get? b = none := fun b hb => Heap.get?_none_of_le hb
 have oldAt : ∀ b o, s.heap.get? b = some o → b < s.heap.objs.size := fun b o e => Heap.lt_size e
 have alive : ∀ a ∈ ρ', ∃ o, s.heap.get? a = some o := fun a ha => low a (sub a ha)
 generalize hca : cs.map (·.2) = ca
 have caIn : ∀ a ∈ ca, ∃ n, (n, a) ∈ cs := fun a ha => by rw [← hca] at ha; obtain ⟨p, hp, rfl⟩ := List.mem_map.mp ha; exact ⟨p.1, hp⟩
 have caBig : ∀ a ∈ ca, s.heap.objs.size < a := fun a ha => let ⟨n, m⟩ := caIn a ha; (csCell n a m).2
 generalize hX : ({ w := w, dp := dp + 1, un := un + 3, gd := gd, cn := qual, cs := sc, L := s.heap.objs.size, fa := f, ccd := cdv, cl := cs, outer := outer, Az0 := A, base := base, hz0 := hideAll s.heap ρh, env := envX qual sc s.heap.objs.size f cdv cs, comp := none, vid := gk cel.length (c8 sc), D := D, U := U } : Fx) = X'
 have O' : X'.Ok := by
  subst hX
  exact { below := BG, K := fun b o e => hideAll_get _ (kf b o e).1 (fun m => (kf b o e).2 (hid b m)), T := ⟨mean, mg, mb, T⟩, ck := hfk, kind := hfk, glob := rfl, bins := rfl, here := (fun _ => rfl), there := fun m e => (by cases e), room := (by dsimp only; lia), units := (by dsimp only; lia) }
 let ow1 : Addr → Prop := fun b => ow b ∨ b = s.heap.objs.size ∨ b ∈ ca
 have pz1 : ∀ b o, Pz s.heap ow b o → Pz hz1 ow1 b o := fun b o e => ⟨keep1 b o e.1, fun q => q.elim e.2 fun q => q.elim (fun q => Nat.lt_irrefl _ (q ▸ oldAt b o e.1)) fun q => Nat.lt_irrefl _ (Nat.lt_trans (oldAt b o e.1) (caBig b q))⟩
 have prf : ρ' <+: ρ' ++ ca := List.prefix_append _ _
 have caLen : ca.length = (cF (kT sc.names [] ns as) (c8 sc)).length := by rw [← hca, List.length_map, eV, ← List.length_map (f := (·.1)) (as := cs), hcn, List.length_map]
 have Cap := vm.go (P := Pz hz1 ow1) (w := w) (ρ := ρ' ++ ca) (env := newEnv sc s.heap.objs.size mainGlobals cs (qual ++ ".<locals>.") (some f) cdv none builtinsNs) (sc := sc) rfl (ns := ns) (R.mono pz1 prf) (m := fun _ => none) (acc := []) (fun x => rfl)
 have Loc := uE.go (P := Pz hz1 ow1) (w := w) (ρ := ρ' ++ ca) (env := newEnv sc s.heap.objs.size mainGlobals cs (qual ++ ".<locals>.") (some f) cdv none builtinsNs) (sc := sc) rfl (ns := ns) (R.mono pz1 prf) (m := fun _ => none) (acc := []) AR.none_loc
 have S' : SR X' ow1 (ρ' ++ ca) hz1 (aR sc ns as cel) := by
  subst hX
  refine { fr := ⟨_, _, ⟨x.toInCall.ns, fun b o e => keep1 b o (of_hideAll _ e), Nat.le_of_eq (hideAll_size _ _)⟩, x.toInCall.ns, fun _ => rfl, fun m e => (by cases e), Loc⟩, len := by rw [List.length_append, List.length_append, C.len, caLen], cel := fun i a o e1 e2 => ?_, nd := ?_, off := fun a ha => ?_, owL := .inr (.inl rfl), owl := .inr (.inl rfl), low := fun a q => ?_, var := fun y i e => ?_, kf := fun b o e => pz1 b o (kf b o e) }
  ·by_cases hi : i < ρ'.length
   ·rw [List.getElem?_append_left hi] at e1
    rw [List.getElem?_append_left (C.len ▸ hi)] at e2
    obtain ⟨ob, e3, e4⟩ := C.at' i a o e1 e2
    exact ⟨ob, keep1 _ _ e3, e4.mono pz1 prf⟩
   ·rw [List.getElem?_append_right (Nat.le_of_not_lt hi)] at e1
    rw [List.getElem?_append_right (C.len ▸ Nat.le_of_not_lt hi), ← C.len, ← jP _ hcn] at e2
    rw [← hca] at e1
    obtain ⟨n, m, rfl⟩ := mv _ e1 e2
    obtain ⟨ob, e3, e4⟩ := (csCell n a m).1
    have := Cap n
    refine ⟨ob, e3, ?_⟩
    split
    ·rename_i av q
     rw [q] at this
     obtain ⟨v, e5, e6⟩ := this
     rw [e5] at e4
     exact .vcell e4 e6
    ·rename_i q
     rw [q] at this
     rw [this] at e4
     exact .vnone e4
  ·rw [List.nodup_append]
   refine ⟨nd, ?_, fun a ha b hb e => ?_⟩
   ·rw [← hca]
    exact List.pairwise_map.mpr x.apart
   ·obtain ⟨o, eo⟩ := alive a ha
    exact Nat.lt_irrefl _ (Nat.lt_trans (oldAt a o eo) (e ▸ caBig b hb))
  ·rcases List.mem_append.mp ha with ha | ha
   ·obtain ⟨o, eo⟩ := alive a ha
    exact ⟨.inl (sub a ha), hideAll_none _ (inc a ha), Nat.ne_of_lt (oldAt a o eo), Nat.ne_of_lt (oldAt a o eo)⟩
   ·have hb := caBig a ha
    refine ⟨.inr (.inr ha), ?_, Nat.ne_of_gt hb, Nat.ne_of_gt hb⟩
    cases e : (hideAll s.heap ρh).get? a with
    | none => rfl
    | some o => have := of_hideAll _ e; rw [newAt a (Nat.le_of_lt hb)] at this; cases this
  ·rcases q with q | q | q
   ·obtain ⟨o, e⟩ := low a q; exact ⟨o, keep1 _ _ e⟩
   ·obtain ⟨o, _, _, e, _⟩ := x.toInCall.ns; exact ⟨o, by rw [q]; exact e⟩
   ·obtain ⟨n, m⟩ := caIn a q
    obtain ⟨o, e, _⟩ := (csCell n a m).1
    exact ⟨o, e⟩
  ·dsimp only at e ⊢
   rw [← nq hcn] at e
   obtain ⟨c, e1, e2, e3⟩ := qR e
   exact ⟨c, e1, by rw [List.getElem?_append_right (by rw [C.len]; exact e2), C.len, ← hca]; exact e3⟩
 have key : X'.A = A.deeper (envX qual sc s.heap.objs.size f cdv cs) ∧ X'.env = envX qual sc s.heap.objs.size f cdv cs := by subst hX; exact ⟨(hA _ _ _).symm, rfl⟩
 have run := h X' ca hz1 tk ⟨O', by subst hX; rfl, by subst hX; rfl, by subst hX; rfl, by subst hX; exact ⟨rfl, rfl, rfl⟩, by subst hX; rfl, by subst hX; rfl, by subst hX; rfl, by subst hX; rfl, by subst hX; rfl, key.1.trans (congrArg _ key.2.symm), by subst hX; rfl, by subst hX; rfl, keep1, caBig, S'⟩
 rw [key.2] at run
 exact run
theorem l7 {w : World} {f : Addr} {D U : Nat} {qual : Str} {params : Arguments} {body : List Stmt} {sc : Scope} {ns : List Str} (hf : gZ w f qual params body sc) (hb : Bnd params ns) (hc : dq sc ns)
  (X : Fx) (O : X.Ok) (hw : X.w = w) (hdp : X.dp + (D + 1) < recursionLimit) (hun : X.un + (U + 3) < cLine) (ow : Addr → Prop) (ρ : List Addr) (σ : SS) (s : Shared) (S : SR X ow ρ s.heap σ)
  (ρ' : List Addr) (cel : List aa) (vs : List Value) (as : List AV) (nd : ρ'.Nodup) (sub : ∀ a ∈ ρ', a ∈ ρ) (C : cC (Pz s.heap ow) w ρ' s.heap cel) (R : ARs (Pz s.heap ow) w ρ' vs as) (hlen : as.length = ns.length) {ρh : List Addr} {news : List (Addr × Obj)} (N : News X.hz0 X.L s.heap news) (hnews : news.map (·.1) = ρh) (inc : ∀ a ∈ ρ', a ∈ ρh) (hid : ∀ a ∈ ρh, ow a) :
  ∃ o fd, Cg s f o fd body ∧ ∀ (P : Env → Shared → Prop) (E : Value → Shared → Prop), (∀ X' ca hz1 tk, Ent w D U sc ns as cel ow s.heap ρ' ρh X.A (envX X.cn X.cs X.L X.fa X.ccd X.cl :: X.outer) X.base X' ca hz1 → P X'.env { s with heap := hz1, toks := tk }) → Mk w X.A f fd vs P E s := by
 subst hw
 refine hide fun Gz0 bk0 => ?_
 obtain ⟨mf, ml, F, nz0, c1, c2, lz0⟩ := S.fr
 obtain ⟨mean, mg, mb, T⟩ := O.T
 obtain ⟨FG, BG, st, _⟩ := groundX (A := X.A) (R := fun _ _ => True) O.below F N rfl rfl O.ck
 refine bk0 ?_; clear bk0 Gz0
 rw [hnews] at FG BG st
 exact kJ hf hb hc (fun _ _ _ => rfl) hdp hun ow s ρ' ρh cel vs as BG ⟨mean, mg, mb, T.keeps st⟩ S.kf inc hid S.low nd C R hlen
theorem Ent.out {w : World} {D U : Nat} {sc : Scope} {ns : List Str} {as : List AV} {cel : List aa} {ow : Addr → Prop} {s : Shared} {ρ' ρh : List Addr} {A : Around} {outer : List Env} {base : Heap} {X' : Fx} {ca : List Addr} {hz1 : Heap}
  (T : Ent w D U sc ns as cel ow s.heap ρ' ρh A outer base X' ca hz1) (low : ∀ a, ow a → ∃ o, s.heap.get? a = some o) (C : cC (Pz s.heap ow) w ρ' s.heap cel) {K : SV → List aa → Prop} {Q : Value → Shared → Prop}
  (q : ∀ v r cel' h' tk', (∀ b o, s.heap.get? b = some o → b ∉ ρ' → h'.get? b = some o) → (∀ b o, s.heap.get? b = some o → ∃ o', h'.get? b = some o') → cC (Pz h' ow) w ρ' h' cel' → VR (Pz h' ow) w v r → K r cel' → Q v { s with heap := h', toks := tk' })
  (fl : Flow) (b : SF) (σ' : SS) (ow' : Addr → Prop) (ρ'' : List Addr) (h' : Heap) (tk' : Nat) (e : Ex X' (fun b => ow b ∨ b = s.heap.objs.size ∨ b ∈ ca) (ρ' ++ ca) hz1 ow' ρ'' h') (S'' : SR X' ow' ρ'' h' σ') (rf : RF X' ow' ρ'' h' fl b) (k : oS cel.length K b σ') : Q (match (generalizing := false) fl with | .ret v => v | _ => .none) { s with heap := h', toks := tk' } := by
 have hw' := T.w
 have keep1 := T.keep
 have caBig := T.big
 have oldAt : ∀ b o, s.heap.get? b = some o → b < s.heap.objs.size := fun b o e => Heap.lt_size e
 have owUp : ∀ b, ow b → ow' b := fun b q => e.own b (.inl q)
 have hp : ∀ b o, Pz h' ow' b o → Pz h' ow b o := fun b o p => ⟨p.1, fun q => p.2 (owUp b q)⟩
 have pre := (List.prefix_append ρ' ca).trans e.pre
 have locs : X'.env.locals = s.heap.objs.size := by rw [T.me]; exact T.L
 have locL := T.L
 have kp : ∀ b o, s.heap.get? b = some o → b ∉ ρ' → h'.get? b = some o := fun b o e1 nb => e.keep b o (keep1 b o e1) (fun m => (List.mem_append.mp m).elim nb fun m => Nat.lt_irrefl _ (Nat.lt_trans (oldAt b o e1) (caBig b m))) (by rw [locs]; exact Nat.ne_of_lt (oldAt b o e1)) (by rw [locL]; exact Nat.ne_of_lt (oldAt b o e1))
 have lv : ∀ b o, s.heap.get? b = some o → ∃ o', h'.get? b = some o' := fun b o e1 => e.live b o (keep1 b o e1)
 have C'' : cC (Pz h' ow') w ρ'' h' σ'.cel := ⟨S''.len, fun i a o e1 e2 => hw' ▸ S''.cel i a o e1 e2⟩
 have hz : ∀ (a : Addr) (i : Nat) (ob : Obj), ρ''[i]? = some a → ρ'.length ≤ i → h'.get? a = some ob → Pz h' ow a ob := fun a i ob e1 hi e2 => ⟨e2, fun q => by
  obtain ⟨o, eo⟩ := low a q
  have hz := oldAt a o eo
  rcases e.fresh a (List.mem_of_getElem? e1) with m | m
  ·rcases List.mem_append.mp m with m | m
   ·obtain ⟨j, lj, ej⟩ := List.mem_iff_getElem.mp m
    have e3 : ρ''[j]? = some a := by obtain ⟨t, rfl⟩ := pre; rw [List.getElem?_append_left lj, List.getElem?_eq_getElem lj, ej]
    obtain ⟨l1, g1⟩ := List.getElem?_eq_some_iff.mp e1
    obtain ⟨l2, g2⟩ := List.getElem?_eq_some_iff.mp e3
    have := (List.getElem_inj S''.nd).mp (g1.trans g2.symm)
    lia
   ·exact Nat.lt_irrefl _ (Nat.lt_trans hz (caBig a m))
  ·rw [keep1 a o eo] at m; cases m⟩
 rw [← C.len] at k
 induction rf using RF.casesOn with
 | next => obtain ⟨d, cel', r1, r2, r3⟩ := frz.out (v := .none) (show frz ρ'.length σ'.cel (.v .none) K from k) pre hp C'' hz (.v .none); exact q _ _ _ _ tk' kp lv r2 r1 r3
 | brk => exact k.elim
 | cont => exact k.elim
 | ret r => rw [hw'] at r; obtain ⟨d, cel', r1, r2, r3⟩ := frz.out (show frz ρ'.length σ'.cel _ K from k) pre hp C'' hz r; exact q _ _ _ _ tk' kp lv r2 r1 r3
noncomputable def ei (w : World) (f : Addr) (D U : Nat) (sp : Spec) : Prop :=
 ∀ (X : Fx), X.Ok → X.w = w → X.dp + D < recursionLimit → X.un + U < cLine → ∀ (ow : Addr → Prop) (ρ : List Addr) (σ : SS) (s : Shared), SR X ow ρ s.heap σ →
 ∀ (ρ' : List Addr) (cel : List aa) (vs : List Value) (as : List AV) (K : SV → List aa → Prop), ρ'.Nodup → (∀ a ∈ ρ', a ∈ ρ) → cC (Pz s.heap ow) w ρ' s.heap cel → ARs (Pz s.heap ow) w ρ' vs as → sp as cel K →
 ∀ (Q E : Value → Shared → Prop), (∀ v r cel' h' tk', (∀ b o, s.heap.get? b = some o → b ∉ ρ' → h'.get? b = some o) → (∀ b o, s.heap.get? b = some o → ∃ o', h'.get? b = some o') → cC (Pz h' ow) w ρ' h' cel' → VR (Pz h' ow) w v r → K r cel' → Q v { s with heap := h', toks := tk' }) →
 codeAny (model af w) X.A (.call (.ref f) ⟨vs, []⟩) (fun r s' => match r with | .ok (.ret v) => Q v s' | .ok _ => False | .error e => E e s') s
theorem ei.of_body {w : World} {f : Addr} {D U : Nat} {sp : Spec} {qual : Str} {params : Arguments} {body : List Stmt} {sc : Scope} {ns : List Str} (hf : gZ w f qual params body sc) (hb : Bnd params ns) (hc : dq sc ns)
  (hlen : ∀ as cel K, sp as cel K → as.length = ns.length)
  (h : ∀ (X : Fx) (as : List AV) (cel : List aa) (K : SV → List aa → Prop), X.Ok → X.w = w → X.D = D → X.U = U → Agr X (gU sc cel.length) → sp as cel K → JB X body (aR sc ns as cel) (oS cel.length K)) : ei w f (D + 1) (U + 3) sp := by
 intro X O hw hdp hun ow ρ σ s S ρ' cel vs as K nd sub C R hsp Q E q
 refine hide fun Gz0 bk0 => ?_
 obtain ⟨news, N, hnews⟩ := iI S sub
 obtain ⟨o, fd, ⟨ho, hd, hco, hgen, hbody, hcd⟩, go⟩ := l7 hf hb hc X O hw hdp hun ow ρ σ s S ρ' cel vs as nd sub C R (hlen _ _ _ hsp) N hnews (fun _ m => m) (fun a m => (S.off a (sub a m)).1)
 refine bk0 ?_; clear bk0 Gz0
 refine codeAny_call_function (by show X.dp < recursionLimit; lia) ho hd hco hgen hbody hcd (go (fun env sz2 => codeAny (model af w) X.A (.func body env) _ sz2) _ fun X' ca hz1 tk T => codeAny_func ?_)
 have J := h X' as cel K T.ok T.w T.D T.U T.ag hsp _ _ { s with heap := hz1, toks := tk } T.S (fun fl s' => Q (match fl with | .ret v => v | _ => .none) s') (fun e s' => wpAny (model af w) (X.A.deeper X'.env) (leaving X'.env e) (fun _ s'' => E e s'') (fun e' s'' => E e' s'') s') fun a b σ' ow' ρ'' h' tk' e S'' r k => T.out S.low C q a b σ' ow' ρ'' h' tk' e S'' r k
 rw [T.w, T.A] at J
 exact J
theorem aj.of_body {w : World} {f : Addr} {D U : Nat} {sp : Spec} {qual : Str} {params : Arguments} {body : List Stmt} {sc : Scope} {ns : List Str} (hf : gZ w f qual params body sc) (hb : Bnd params ns) (hc : dq sc ns)
  (hlen : ∀ as cel K, sp as cel K → as.length = ns.length)
  (h : ∀ (X : Fx) (as : List AV) (cel : List aa) (K : SV → List aa → Prop), X.Ok → X.w = w → X.D = D → X.U = U → Agr X (gU sc cel.length) → sp as cel K → JB X body (aR sc ns as cel) (oS cel.length K)) : aj w f (D + 1) (U + 3) sp := fun X O hw hD hU ow ρ σ s S ρ' cel vs as K nd sub C R hsp Q E q =>
 wpAny_call (ei.of_body hf hb hc hlen h X O hw hD hU ow ρ σ s S ρ' cel vs as K nd sub C R hsp Q E q)
end
section
section
variable {X : Fx} {σ : SS} {K : AV → SS → Prop}
noncomputable def az : List Expr → Bool
 | [] => true
 | e :: r => exC (az r) (e := e) (star := fun _ _ => false)
theorem dW {env : Env} : ∀ {es : List Expr}, az es = true → starEach es env = es.map fun e => (false, eval e env) := by
 intro es
 induction es with
 | nil => intro _; exact rfl
 | cons e r ih =>
  intro h
  induction e using Expr.casesOn with
  | Starred _ _ => exact Bool.noConfusion h
  | _ => exact congrArg (_ :: ·) (ih h)
theorem aZ {e : Expr} {es : List Expr} (h : az (e :: es) = true) : az es = true := by
 induction e using Expr.casesOn with
 | Starred _ _ => exact Bool.noConfusion h
 | _ => exact h
theorem am {env : Env} {e : Expr} {es : List Expr} (h : az (e :: es) = true) : starEach (e :: es) env = (false, eval e env) :: starEach es env := by
 rw [dW h, dW (aZ h)]; rfl
theorem aC {env : Env} {pos : Pos} {es : List Expr} (h : az es = true) : (backTo pos (starEach es env)).any (·.1) = false := by
 rw [dW h]
 unfold backTo
 rw [List.map_map]
 rw [List.any_eq_false]
 intro x hx
 obtain ⟨e, _, rfl⟩ := List.mem_map.mp hx
 exact Bool.false_ne_true
noncomputable def aB (X : Fx) (f : Value) (as : List AV) (σ : SS) (K : AV → SS → Prop) : Prop :=
 ∀ ow ρ s vs, SR X ow ρ s.heap σ → ARs (Pz s.heap ow) X.w ρ vs as → aL X ow ρ s (RV X) (call f vs) K
theorem SR.kin {X : Fx} {ow : Addr → Prop} {ρ : List Addr} {h : Heap} {σ : SS} (S : SR X ow ρ h σ) : (tp.heap_1 X.w.params).In h := fun b o e => (S.kf b o e).1
theorem fA {f : Value} {first : List Value} {fas : List AV} {pos : Pos} {ow : Addr → Prop} {ρ : List Addr} {s : Shared} (hk : keepIn (tp.heap_1 X.w.params) f = true) (S : SR X ow ρ s.heap σ) (rf : ARs (Pz s.heap ow) X.w ρ first fas)
  (h : aB X f fas σ K) : aL X ow ρ s (RV X) (callWith pos f first (backTo pos (starEach [] X.env)) []) K := by
 intro Q E q
 refine callWith_K0 S.kin hk ?_
 rw [List.append_nil]
 exact h ow ρ s first S rf Q E q
theorem dP {f : Value} {first : List Value} {fas : List AV} {e : Expr} {args : List Expr} {pos : Pos} {ow : Addr → Prop} {ρ : List Addr} {s : Shared} (hs : az (e :: args) = true) (hk : keepIn (tp.heap_1 X.w.params) f = true) (S : SR X ow ρ s.heap σ) (rf : ARs (Pz s.heap ow) X.w ρ first fas)
  (h : JL X pos (e :: args) σ fun as σ1 => aB X f (fas ++ as) σ1 K) : aL X ow ρ s (RV X) (callWith pos f first (backTo pos (starEach (e :: args) X.env)) []) K := by
 intro Q E q
 refine callWith_K S.kin hk ?_ (am hs) (aC (aZ hs))
 refine h ow ρ s S _ _ fun vs as σ1 ow1 ρ1 hz1 tk1 ez1 S1 rz1 kz1 => ⟨S1.kin, ?_⟩
 exact kz1 ow1 ρ1 { s with heap := hz1, toks := tk1 } _ S1 (ARs.append rz1 (S.ars ez1 rf)) _ _ fun v sv σ2 ow2 ρ2 hz2 tk2 ez2 S2 rz2 kz2 => q v sv σ2 ow2 ρ2 hz2 tk2 (ez1.trans ez2) S2 rz2 kz2
theorem tD {x : Str} {px pos : Pos} (h : JE X (.Name x px) σ fun fv σ1 => match fv with
  | .v (.ref f) => keepIn (tp.heap_1 X.w.params) (.ref f) = true ∧ aB X (.ref f) [] σ1 K
  | _ => False) : JE X (.Call (.Name x px) [] [] pos) σ K := by
 intro ow ρ s S Q E q
 refine Call_ (h ow ρ s S _ _ fun a sa σ1 ow1 ρ1 hz1 tk1 ez1 S1 rz1 kz1 => ?_)
 induction rz1 using AR.casesOn with
 | c => exact kz1.elim
 | v r => induction r using VR.casesOn with
  | ref f => exact fA (s := { s with heap := hz1, toks := tk1 }) kz1.1 S1 .nil kz1.2 _ _ fun v sv σ2 ow2 ρ2 hz2 tk2 ez2 S2 rz2 kz2 => q v sv σ2 ow2 ρ2 hz2 tk2 (ez1.trans ez2) S2 rz2 kz2
  | _ => exact kz1.elim
theorem qz {x : Str} {px pos : Pos} {e : Expr} {args : List Expr} (hs : az (e :: args) = true) (h : JE X (.Name x px) σ fun fv σ1 => match fv with
  | .v (.ref f) => keepIn (tp.heap_1 X.w.params) (.ref f) = true ∧ JL X pos (e :: args) σ1 fun as σ2 => aB X (.ref f) as σ2 K
  | _ => False) : JE X (.Call (.Name x px) (e :: args) [] pos) σ K := by
 intro ow ρ s S Q E q
 refine Call_ (h ow ρ s S _ _ fun a sa σ1 ow1 ρ1 hz1 tk1 ez1 S1 rz1 kz1 => ?_)
 induction rz1 using AR.casesOn with
 | c => exact kz1.elim
 | v r => induction r using VR.casesOn with
  | ref f => exact dP (s := { s with heap := hz1, toks := tk1 }) hs kz1.1 S1 .nil kz1.2 _ _ fun v sv σ2 ow2 ρ2 hz2 tk2 ez2 S2 rz2 kz2 => q v sv σ2 ow2 ρ2 hz2 tk2 (ez1.trans ez2) S2 rz2 kz2
  | _ => exact kz1.elim
noncomputable def du : List AV → Bool
 | [] => true
 | .v _ :: r => du r
 | .c _ :: _ => false
theorem ARs.plain {P : Addr → Obj → Prop} {w : World} {ρ ρ' : List Addr} : ∀ {as : List AV} {vs : List Value}, ARs P w ρ vs as → du as = true → ARs P w ρ' vs as := by
 intro as
 induction as with
 | nil => intro vs r _; obtain rfl := r.i; exact .nil
 | cons a as ih =>
  intro vs r e
  obtain ⟨v, r', rfl, h, rs⟩ := r.i
  induction a using AV.casesOn with
  | v d => exact .cons (.v h.inv) (ih rs e)
  | c i => exact Bool.noConfusion e
noncomputable def eC (sp : Spec) (as : List AV) (σ : SS) (K : AV → SS → Prop) : Prop := match as with
 | .c i :: rest => Gd (du rest) (match σ.cel[i]? with
  | some (.lst l) => sp (.c 0 :: rest) [.lst l] fun r cel' => match cel' with
   | [.lst l'] => K (.v r) ⟨σ.loc, σ.cel.set i (.lst l')⟩
   | _ => False
  | some (.inst C j) => Gd (!Nat.beq i j) (match σ.cel[j]? with
   | some (.idict fs) => sp (.c 0 :: rest) [.inst C 1, .idict fs] fun r cel' => match cel' with
    | [.inst C' j', .idict fs'] => Gd (Nat.beq C C' && Nat.beq j' 1) (K (.v r) ⟨σ.loc, σ.cel.set j (.idict fs')⟩)
    | _ => False
   | _ => False)
  | _ => False)
 | as => Gd (du as) (sp as [] fun r cel' => match cel' with
  | [] => K (.v r) σ
  | _ => False)
theorem cC.nil {P : Addr → Obj → Prop} {w : World} {h : Heap} : cC P w [] h [] := ⟨rfl, fun i a o e _ => by cases e⟩
theorem SR.turn {X : Fx} {ow : Addr → Prop} {ρ : List Addr} {h h' : Heap} {σ : SS} {σc : List aa} (O : X.Ok) (S : SR X ow ρ h σ) (ρ' : List Addr) (sub : ∀ a ∈ ρ', a ∈ ρ)
  (kp : ∀ b o, h.get? b = some o → b ∉ ρ' → h'.get? b = some o) (lv : ∀ b o, h.get? b = some o → ∃ o', h'.get? b = some o') (len : ρ.length = σc.length)
  (cel : ∀ (i : Nat) (a : Addr) (o : aa), ρ[i]? = some a → σc[i]? = some o → ∃ ob, h'.get? a = some ob ∧ OR (Pz h' ow) X.w ρ ob o) : SR X ow ρ h' ⟨σ.loc, σc⟩ ∧ Ex X ow ρ h ow ρ h' := by
 obtain ⟨mf, ml, F, n, c1, c2, l⟩ := S.fr
 have hp : ∀ b o, Pz h ow b o → Pz h' ow b o := fun b o e => ⟨kp b o e.1 fun m => e.2 (S.off b (sub b m)).1, e.2⟩
 have nsk : ∀ {a : Addr} {m : Str → Option Value}, a ∉ ρ' → h.Ns a m → h'.Ns a m := fun na hn => by
  obtain ⟨o, es, ep, e, r⟩ := hn; exact ⟨o, es, ep, kp _ _ e na, r⟩
 refine ⟨⟨⟨mf, ml, ⟨nsk (fun m => (S.off _ (sub _ m)).2.2.1 rfl) F.ns, fun b o e => kp b o (F.keep b o e) fun m => ao e (S.off b (sub b m)).2.1, F.above⟩, nsk (fun m => (S.off _ (sub _ m)).2.2.2 rfl) n, c1, c2, fun x sv e' => let ⟨v, e1, e2⟩ := l x sv e'; ⟨v, e1, e2.mono hp (pfx ρ)⟩⟩,
  len, cel, S.nd, S.off, S.owL, S.owl, fun a q => let ⟨o, e⟩ := S.low a q; lv a o e, S.var, fun a x e => hp a x (S.kf a x e)⟩, fun _ q => q, fun _ q => .inl q, pfx ρ, fun _ q => .inl q, fun b o e' n1 _ _ => kp b o e' fun m => n1 (sub b m), lv⟩
noncomputable abbrev xj (X : Fx) (sp : Spec) (σ : SS) (ow : Addr → Prop) (ρ : List Addr) (s : Shared) (vs : List Value) (Q : Value → Shared → Prop) (G : Prop) : Prop :=
 ∀ (ρ' : List Addr) (cel : List aa) (as : List AV) (K : SV → List aa → Prop), ρ'.Nodup → (∀ a ∈ ρ', a ∈ ρ) → cC (Pz s.heap ow) X.w ρ' s.heap cel → ARs (Pz s.heap ow) X.w ρ' vs as → sp as cel K →
  (∀ v r cel' h' tk', (∀ b o, s.heap.get? b = some o → b ∉ ρ' → h'.get? b = some o) → (∀ b o, s.heap.get? b = some o → ∃ o', h'.get? b = some o') → cC (Pz h' ow) X.w ρ' h' cel' → VR (Pz h' ow) X.w v r → K r cel' → Q v { s with heap := h', toks := tk' }) → G
theorem SR.keepO {ow : Addr → Prop} {ρ : List Addr} {h h' : Heap} (S : SR X ow ρ h σ) {ρ' : List Addr} (sub : ∀ a ∈ ρ', a ∈ ρ) (kp : ∀ b o, h.get? b = some o → b ∉ ρ' → h'.get? b = some o) {i : Nat} {a : Addr} {o : aa} (e1 : ρ[i]? = some a) (e2 : σ.cel[i]? = some o) (na : a ∉ ρ') : ∃ ob, h'.get? a = some ob ∧ OR (Pz h' ow) X.w ρ ob o := by
 obtain ⟨ob, e3, e4⟩ := S.cel i a o e1 e2
 exact ⟨ob, kp a ob e3 na, e4.mono (fun b o e => ⟨kp b o e.1 fun m => e.2 (S.off b (sub b m)).1, e.2⟩) (pfx ρ)⟩
theorem lY {ρ : List Addr} (nd : ρ.Nodup) {i j : Nat} {a : Addr} (e1 : ρ[i]? = some a) (e2 : ρ[j]? = some a) : i = j := by
 obtain ⟨l1, g1⟩ := List.getElem?_eq_some_iff.mp e1
 obtain ⟨l2, g2⟩ := List.getElem?_eq_some_iff.mp e2
 exact (List.getElem_inj nd).mp (g1.trans g2.symm)
theorem tF {l : List aa} {i k : Nat} {x o b : aa} (h : l[i]? = some b) (e : (l.set i x)[k]? = some o) : (i = k ∧ o = x) ∨ (i ≠ k ∧ l[k]? = some o) := by
 by_cases hj : i = k
 ·subst hj
  rw [List.getElem?_set_self (List.getElem?_eq_some_iff.mp h).1] at e
  exact .inl ⟨rfl, (Option.some.inj e).symm⟩
 ·rw [List.getElem?_set_ne hj] at e; exact .inr ⟨hj, e⟩
theorem ir (O : X.Ok) {sp : Spec} {ow : Addr → Prop} {ρ : List Addr} {s : Shared} {vs : List Value} {as : List AV} (S : SR X ow ρ s.heap σ) (R : ARs (Pz s.heap ow) X.w ρ vs as) {Q : Value → Shared → Prop}
  (q : ∀ (a : Value) (b : AV) (σ' : SS) (ow' : Addr → Prop) (ρ' : List Addr) (h' : Heap) (tk' : Nat), Ex X ow ρ s.heap ow' ρ' h' → SR X ow' ρ' h' σ' → RV X ow' ρ' h' a b → K b σ' → Q a { s with heap := h', toks := tk' }) {G : Prop} (go : xj X sp σ ow ρ s vs Q G)
  (h : Gd (du as) (sp as [] fun r cel' => match cel' with | [] => K (.v r) σ | _ => False)) : G := by
 obtain ⟨g, h⟩ := h.out
 have no : ∀ a ∈ ([] : List Addr), a ∈ ρ := fun _ m => absurd m List.not_mem_nil
 refine go [] [] as _ List.nodup_nil no .nil (R.plain g) h fun v r cel' h' tk' kp lv C rv k => ?_
 induction cel' using List.casesOn with
 | cons _ _ => exact False.elim k
 | nil =>
  obtain ⟨S', ex⟩ := S.turn O (σc := σ.cel) [] no kp lv S.len fun i a o e1 e2 => S.keepO no kp e1 e2 (fun m => absurd m List.not_mem_nil)
  exact q v _ _ ow ρ h' tk' ex S' (.v rv) k
theorem rY (O : X.Ok) {i : Nat} {a : Addr} {rest : List AV} {l : List SV} {sp : Spec} {ow : Addr → Prop} {ρ : List Addr} {s : Shared} {vs : List Value} (S : SR X ow ρ s.heap σ) {ws : List Value} (hv : vs = .ref a :: ws) (hr : ρ[i]? = some a) (R : ARs (Pz s.heap ow) X.w ρ ws rest) (g : du rest = true) (hl : σ.cel[i]? = some (.lst l)) {Q : Value → Shared → Prop}
  (q : ∀ (a : Value) (b : AV) (σ' : SS) (ow' : Addr → Prop) (ρ' : List Addr) (h' : Heap) (tk' : Nat), Ex X ow ρ s.heap ow' ρ' h' → SR X ow' ρ' h' σ' → RV X ow' ρ' h' a b → K b σ' → Q a { s with heap := h', toks := tk' }) {G : Prop} (go : xj X sp σ ow ρ s vs Q G)
  (h : sp (.c 0 :: rest) [.lst l] fun r cel' => match cel' with | [.lst l'] => K (.v r) ⟨σ.loc, σ.cel.set i (.lst l')⟩ | _ => False) : G := by
 subst hv
 obtain ⟨ob, e3, e4⟩ := S.cel i a _ hr hl
 have sub : ∀ b ∈ [a], b ∈ ρ := fun b m => by rw [List.mem_singleton.mp m]; exact List.mem_of_getElem? hr
 have e4 : ∀ {ρ' : List Addr}, OR (Pz s.heap ow) X.w ρ' ob (.lst l) := by obtain ⟨_, _, rfl, r⟩ := e4.i; exact .lst r
 refine go [a] [.lst l] _ _ (by simp) sub ⟨rfl, fun k b o e1 e2 => ?_⟩ (.cons (.c rfl) (R.plain g)) h fun v r cel' h' tk' kp lv C rv k => ?_
 ·induction k using Nat.casesOn with
  | zero => obtain rfl := Option.some.inj e1; obtain rfl := Option.some.inj e2; exact ⟨ob, e3, e4⟩
  | succ k => exact aw e1
 ·induction cel' using List.casesOn with
  | nil => exact False.elim k
  | cons c cs => induction c using aa.casesOn with
   | lst l' => induction cs using List.casesOn with
    | cons _ _ => exact False.elim k
    | nil =>
     obtain ⟨ob', e5, e6⟩ := C.at' 0 a _ rfl rfl
     have e6 : OR (Pz h' ow) X.w ρ ob' (.lst l') := by obtain ⟨_, _, rfl, r⟩ := e6.i; exact .lst r
     obtain ⟨S', ex⟩ := S.turn O (σc := σ.cel.set i (.lst l')) [a] sub kp lv (by rw [List.length_set]; exact S.len) fun j b o f1 f2 => by
      rcases tF hl f2 with ⟨rfl, rfl⟩ | ⟨hj, f2⟩
      ·obtain rfl := Option.some.inj (hr.symm.trans f1); exact ⟨ob', e5, e6⟩
      ·exact S.keepO sub kp f1 f2 fun m => hj (lY S.nd hr (List.mem_singleton.mp m ▸ f1))
     exact q v _ _ ow ρ h' tk' ex S' (.v rv) k
   | _ => exact False.elim k
theorem pt (O : X.Ok) {i j : Nat} {a Cc : Addr} {rest : List AV} {fs : List (Str × SV)} {sp : Spec} {ow : Addr → Prop} {ρ : List Addr} {s : Shared} {vs : List Value} (S : SR X ow ρ s.heap σ) {ws : List Value} (hv : vs = .ref a :: ws) (hr : ρ[i]? = some a) (R : ARs (Pz s.heap ow) X.w ρ ws rest) (g : du rest = true) (hl : σ.cel[i]? = some (.inst Cc j)) (hij : i ≠ j) (hj : σ.cel[j]? = some (.idict fs)) {Q : Value → Shared → Prop}
  (q : ∀ (a : Value) (b : AV) (σ' : SS) (ow' : Addr → Prop) (ρ' : List Addr) (h' : Heap) (tk' : Nat), Ex X ow ρ s.heap ow' ρ' h' → SR X ow' ρ' h' σ' → RV X ow' ρ' h' a b → K b σ' → Q a { s with heap := h', toks := tk' }) {G : Prop} (go : xj X sp σ ow ρ s vs Q G)
  (h : sp (.c 0 :: rest) [.inst Cc 1, .idict fs] fun r cel' => match cel' with | [.inst C' j', .idict fs'] => Gd (Nat.beq Cc C' && Nat.beq j' 1) (K (.v r) ⟨σ.loc, σ.cel.set j (.idict fs')⟩) | _ => False) : G := by
 subst hv
 obtain ⟨ob, e3, e4⟩ := S.cel i a _ hr hl
 obtain ⟨dx, rfl, hdx⟩ := e4.i
 obtain ⟨ob2, e5, e6⟩ := S.cel j dx _ hdx hj
 have sub : ∀ b ∈ [a, dx], b ∈ ρ := fun b m => (List.mem_cons.mp m).elim (fun z => z ▸ List.mem_of_getElem? hr) fun m => List.mem_singleton.mp m ▸ List.mem_of_getElem? hdx
 have nad : a ≠ dx := fun e => hij (lY S.nd hr (e ▸ hdx))
 have e6 : ∀ {ρ' : List Addr}, OR (Pz s.heap ow) X.w ρ' ob2 (.idict fs) := by obtain ⟨_, _, rfl, r⟩ := e6.i; exact .idict r
 refine go [a, dx] [.inst Cc 1, .idict fs] _ _ (by simp [nad]) sub ⟨rfl, fun k b o e1 e2 => ?_⟩ (.cons (.c rfl) (R.plain g)) h fun v r cel' h' tk' kp lv C rv k => ?_
 ·induction k using Nat.casesOn with
  | zero => obtain rfl := Option.some.inj e1; obtain rfl := Option.some.inj e2; exact ⟨_, e3, .inst rfl⟩
  | succ k => induction k using Nat.casesOn with
   | zero => obtain rfl := Option.some.inj e1; obtain rfl := Option.some.inj e2; exact ⟨ob2, e5, e6⟩
   | succ k => exact aw e1
 ·induction cel' using List.casesOn with
  | nil => exact False.elim k
  | cons c cs => induction c using aa.casesOn with
   | inst C' j' => induction cs using List.casesOn with
    | nil => exact False.elim k
    | cons c cs => induction c using aa.casesOn with
     | idict fs' => induction cs using List.casesOn with
      | cons _ _ => exact False.elim k
      | nil =>
       obtain ⟨g3, k'⟩ := Gd.out k
       obtain ⟨g3, g4⟩ := Bool.and_eq_true_iff.mp g3
       obtain rfl := Nat.eq_of_beq_eq_true g3
       obtain rfl := Nat.eq_of_beq_eq_true g4
       obtain ⟨ob0, e7, e8⟩ := C.at' 0 a _ rfl rfl
       obtain ⟨ob1, e9, e10⟩ := C.at' 1 dx _ rfl rfl
       have e8 : OR (Pz h' ow) X.w ρ ob0 (.inst Cc j) := by obtain ⟨_, rfl, hh⟩ := e8.i; obtain rfl := Option.some.inj hh; exact .inst hdx
       have e10 : OR (Pz h' ow) X.w ρ ob1 (.idict fs') := by obtain ⟨_, _, rfl, r⟩ := e10.i; exact .idict r
       obtain ⟨S', ex⟩ := S.turn O (σc := σ.cel.set j (.idict fs')) [a, dx] sub kp lv (by rw [List.length_set]; exact S.len) fun k b o f1 f2 => by
        rcases tF hj f2 with ⟨rfl, rfl⟩ | ⟨hj', f2⟩
        ·obtain rfl := Option.some.inj (hdx.symm.trans f1); exact ⟨ob1, e9, e10⟩
        ·by_cases hi' : i = k
         ·subst hi'
          obtain rfl := Option.some.inj (hr.symm.trans f1)
          obtain rfl := Option.some.inj (hl.symm.trans f2)
          exact ⟨ob0, e7, e8⟩
         ·exact S.keepO sub kp f1 f2 fun m => (List.mem_cons.mp m).elim (fun z => hi' (lY S.nd hr (z ▸ f1))) fun m => hj' (lY S.nd hdx (List.mem_singleton.mp m ▸ f1))
       exact q v _ _ ow ρ h' tk' ex S' (.v rv) k'
     | _ => exact False.elim k
   | _ => exact False.elim k
theorem jn (O : X.Ok) {sp : Spec} {ow : Addr → Prop} {ρ : List Addr} {s : Shared} {vs : List Value} {as : List AV} (S : SR X ow ρ s.heap σ) (R : ARs (Pz s.heap ow) X.w ρ vs as) {Q : Value → Shared → Prop}
  (q : ∀ (a : Value) (b : AV) (σ' : SS) (ow' : Addr → Prop) (ρ' : List Addr) (h' : Heap) (tk' : Nat), Ex X ow ρ s.heap ow' ρ' h' → SR X ow' ρ' h' σ' → RV X ow' ρ' h' a b → K b σ' → Q a { s with heap := h', toks := tk' }) {G : Prop} (go : xj X sp σ ow ρ s vs Q G) (h : eC sp as σ K) : G := by
 induction as using List.casesOn with
 | nil => exact ir O S R q go h
 | cons a rest => induction a using AV.casesOn with
  | v x => exact ir O S R q go h
  | c i =>
   obtain ⟨v, ws, hv, r, rs⟩ := R.i
   obtain ⟨a, rfl, hr⟩ := r.i
   obtain ⟨g, h⟩ := Gd.out h
   generalize hl : σ.cel[i]? = o at h
   induction o using Option.casesOn with
   | none => exact False.elim h
   | some o => induction o using aa.casesOn with
    | lst l => exact rY O S hv hr rs g hl q go h
    | inst Cc j =>
     obtain ⟨g2, h⟩ := Gd.out h
     generalize hj : σ.cel[j]? = o at h
     induction o using Option.casesOn with
     | none => exact False.elim h
     | some o => induction o using aa.casesOn with
      | idict fs => exact pt O S hv hr rs g hl (fun e => by subst e; rw [Nat.beq_refl] at g2; exact Bool.noConfusion g2) hj q go h
      | _ => exact False.elim h
    | _ => exact False.elim h
theorem jA (O : X.Ok) {f : Addr} {D U : Nat} {sp : Spec} (hf : aj X.w f D U sp) (hD : D ≤ X.D) (hU : U ≤ X.U) {as : List AV} (h : eC sp as σ K) : aB X (.ref f) as σ K := by
 intro ow ρ s vs S R Q E q
 have room := O.room
 have units := O.units
 exact jn O S R q (fun ρ' cel as K nd sub C R sp q' => hf X O rfl (by lia) (by lia) ow ρ σ s S ρ' cel vs as K nd sub C R sp Q E q') h
end
end
section
section
variable {X : Fx} {σ : SS} {K : AV → SS → Prop}
noncomputable def smB (a : Int) : Bool := Nat.ble a.natAbs 9223372036854775807
theorem li {n : Nat} (h : n ≤ 9223372036854775807) : n.log2 ≤ 62 := by
 by_cases h0 : n = 0
 ·subst h0; decide
 ·exact Nat.le_of_lt_succ ((Nat.log2_lt h0).mpr (Nat.lt_of_le_of_lt h (by decide)))
theorem iP {a : Int} (h : smB a = true) : Builtin.Int.intBits a ≤ 64 := by
 have h := li (Nat.le_of_ble_eq_true h)
 unfold Builtin.Int.intBits
 split <;> lia
noncomputable def Ao (op : Operator) (x y : Int) (k : SV → Prop) : Prop := match op with
 | .Add => k (.int (x + y))
 | .Sub => k (.int (x - y))
 | .Mult => Gd (smB y || smB x) (k (.int (x * y)))
 | .Mod => Gd (!decide (y = 0)) (k (.int (x.fmod y)))
 | .FloorDiv => Gd (!decide (y = 0) && smB y) (k (.int (x.fdiv y)))
 | .LShift => Gd (decide (0 ≤ y) && decide (y ≤ 1000) && smB x) (k (.int (x * 2 ^ y.toNat)))
 | .RShift => Gd (decide (0 ≤ y)) (k (.int (x.fdiv (2 ^ y.toNat))))
 | .BitAnd => k (.int (Builtin.bitAnd x y))
 | .BitOr => k (.int (Builtin.bitOr x y))
 | .Pow => Gd (decide (0 ≤ y) && decide (y ≤ 1000) && smB x) (k (.int (x ^ y.toNat)))
 | _ => False
noncomputable def As (op : Operator) : Bool := match op with
 | .Add => true
 | _ => false
noncomputable def zZ (op : Operator) (k : Prop) : Prop := match As op with
 | true => k
 | false => False
theorem ni {op : Operator} {k : Prop} (h : zZ op k) : op = .Add ∧ k := by
 induction op using Operator.casesOn <;> first | exact False.elim h | exact ⟨rfl, h⟩
noncomputable def qE (d : SV) (k : List UInt8 → Prop) : Prop := SV.casesOn (motive_1 := fun _ => Prop) d False (fun _ => False) (fun _ => False) (fun _ => False) k (fun _ => False) (fun _ => False) (fun _ => False) (fun _ _ _ => False) (fun _ => False) (fun _ => False) fun _ => False
theorem md {d : SV} {k : List UInt8 → Prop} (h : qE d k) : ∃ i, d = .bytes i ∧ k i := by
 induction d using SV.casesOn <;> first | exact False.elim h | exact ⟨_, rfl, h⟩
noncomputable def y0 (op : Operator) (a b : AV) (k : SV → Prop) : Prop := asV a fun x => asV b fun y => SV.casesOn (motive_1 := fun _ => Prop) x False (fun _ => False) (fun x => eG y fun y => Ao op x y k) (fun _ => False) (fun x => zZ op (qE y fun y => Gd (Nat.ble (x.length + y.length) 16777216) (k (.bytes (x ++ y)))))
 (fun _ => False) (fun x => zZ op (t8 y fun y => Gd (Nat.ble (x.length + y.length) 1000) (k (.lst (x ++ y))))) (fun _ => False) (fun _ _ _ => False) (fun _ => False) (fun _ => False) fun _ => False
theorem VR.int_inv {P : Addr → Obj → Prop} {w : World} {v : Value} {i : Int} (h : VR P w v (.int i)) : ∃ t, v = .int i t := h.i
theorem VR.str_inv {P : Addr → Obj → Prop} {w : World} {v : Value} {i : Str} (h : VR P w v (.str i)) : ∃ t, v = .str i t := h.i
theorem VR.bytes_inv {P : Addr → Obj → Prop} {w : World} {v : Value} {i : List UInt8} (h : VR P w v (.bytes i)) : ∃ t, v = .bytes ⟨i⟩ t := h.i
theorem bF {ow : Addr → Prop} {w : World} {h : Heap} {v : Value} {l : List SV} (r : VR (Pz h ow) w v (.lst l)) : ∃ a vs n, v = .ref a ∧ h.get? a = some (listOf vs.toArray n) ∧ VRs (Pz h ow) w vs l := by
 replace r := r.i; obtain ⟨_, _, _, rfl, p, r⟩ := r; exact ⟨_, _, _, rfl, p.1, r⟩
theorem cD {ow : Addr → Prop} {w : World} {h : Heap} {v : Value} {l : List SV} (r : VR (Pz h ow) w v (.tup l)) : ∃ a vs n, v = .ref a ∧ h.get? a = some (cB vs n) ∧ VRs (Pz h ow) w vs l := by
 replace r := r.i; obtain ⟨_, _, _, rfl, p, r⟩ := r; exact ⟨_, _, _, rfl, p.1, r⟩
theorem vK {op : Operator} {x y : Int} (O : X.Ok) (h : Ao op x y fun v => K (.v v) σ) : J2 X (binaryOp op) (.v (.int x)) (.v (.int y)) σ K := by
 intro ow ρ s va vb S ra rb Q E q
 obtain ⟨t, rfl⟩ := ra.inv.int_inv
 obtain ⟨u, rfl⟩ := rb.inv.int_inv
 have done : ∀ {i : Int} {k : Tok}, K (.v (.int i)) σ → Q (.int i k) { s with toks := s.toks + 1 } := fun k => q _ _ σ ow ρ s.heap (s.toks + 1) .refl S (.v (.int _ _)) k
 induction op using Operator.casesOn with
 | Add => exact add_int (done h)
 | Sub => exact sub_int (done h)
 | Mult =>
  obtain ⟨g, h⟩ := Gd.out h
  refine mul_int (done h) ?_
  rcases Bool.or_eq_true_iff.mp g with g | g
  ·exact IntMulOk.of_right (iP g)
  ·exact IntMulOk.of_left (iP g)
 | Mod =>
  obtain ⟨g, h⟩ := Gd.out h
  exact mod_int_or rfl (fun e => absurd e (by simpa using g)) fun _ => done h
 | FloorDiv =>
  obtain ⟨g, h⟩ := Gd.out h
  obtain ⟨g1, g2⟩ := Bool.and_eq_true_iff.mp g
  refine floordiv_int_or rfl (fun e => absurd e (by simpa using g1)) (fun _ => done h) fun _ => .inl ?_
  have h2 := li (Nat.le_of_ble_eq_true g2)
  unfold Builtin.divisionGoesByPylong
  have : (if (y == 0) = true then 0 else y.natAbs.log2 / 30 + 1) ≤ 300 := by split <;> lia
  simp only [Bool.and_eq_false_iff]
  left
  exact decide_eq_false (by lia)
 | LShift =>
  obtain ⟨g, h⟩ := Gd.out h
  obtain ⟨g, g3⟩ := Bool.and_eq_true_iff.mp g
  obtain ⟨g1, g2⟩ := Bool.and_eq_true_iff.mp g
  have g3 := Nat.le_of_ble_eq_true g3
  have g2 := of_decide_eq_true g2
  exact lshift_int_small (of_decide_eq_true g1) (by lia) (by lia) (done h)
 | RShift =>
  obtain ⟨g, h⟩ := Gd.out h
  exact rshift_int (of_decide_eq_true g) (done h)
 | BitAnd => exact and_int (done h)
 | BitOr => exact or_int (done h)
 | Pow =>
  obtain ⟨g, h⟩ := Gd.out h
  obtain ⟨g, g3⟩ := Bool.and_eq_true_iff.mp g
  obtain ⟨g1, g2⟩ := Bool.and_eq_true_iff.mp g
  have g3 := iP g3
  have g1 := of_decide_eq_true g1
  have g2 := of_decide_eq_true g2
  refine pow_int g1 ?_ (done h)
  have : (Builtin.Int.intBits x : Int) * y ≤ 64 * 1000 := Int.mul_le_mul (by lia) g2 g1 (by lia)
  lia
 | _ => exact False.elim h
theorem fH {ow : Addr → Prop} {ρ : List Addr} {s : Shared} {vs : List Value} {l : List SV} (S : SR X ow ρ s.heap σ) (r : VRs (Pz s.heap ow) X.w vs l) (k : K (.v (.lst l)) σ) {Q : Value → Shared → Prop} {tk : Nat}
  (q : ∀ (a : Value) (b : AV) (σ' : SS) (ow' : Addr → Prop) (ρ' : List Addr) (h' : Heap) (tk' : Nat), Ex X ow ρ s.heap ow' ρ' h' → SR X ow' ρ' h' σ' → RV X ow' ρ' h' a b → K b σ' → Q a { s with heap := h', toks := tk' }) :
  Q (.ref s.heap.objs.size) { s with heap := s.heap.push (listOf vs.toArray 0), toks := tk } :=
 q _ _ σ ow ρ _ tk (.push _) (S.push _) (.v (.lst (S.fresh (listOf vs.toArray 0) rfl) (S.vrs (.push _) r))) k
theorem ql {op : Operator} {a b : AV} (O : X.Ok) (h : y0 op a b fun v => K (.v v) σ) : J2 X (binaryOp op) a b σ K := by
 replace h := bj h
 obtain ⟨x, rfl, h⟩ := h
 replace h := bj h
 obtain ⟨y, rfl, h⟩ := h
 induction x using SV.casesOn with
 | int x =>
  replace h := bD h
  obtain ⟨y, rfl, h⟩ := h
  exact vK O h
 | bytes x =>
  replace h := ni h
  obtain ⟨rfl, h⟩ := h
  replace h := md h
  obtain ⟨y, rfl, h⟩ := h
  intro ow ρ s va vb S ra rb Q E q
  refine hide fun Gz0 bk0 => ?_
  obtain ⟨t, rfl⟩ := ra.inv.bytes_inv
  obtain ⟨u, rfl⟩ := rb.inv.bytes_inv
  replace h := Gd.out h
  obtain ⟨g, h⟩ := h
  refine bk0 ?_; clear bk0 Gz0
  refine KBy.add_bytes (by simpa using Nat.le_of_ble_eq_true g) fun t' k => ?_
  have e : (⟨x⟩ : Array UInt8) ++ ⟨y⟩ = ⟨x ++ y⟩ := by simp
  rw [e]
  exact q _ _ σ ow ρ s.heap k .refl S (.v (.bytes _ _)) h
 | lst x =>
  replace h := ni h
  obtain ⟨rfl, h⟩ := h
  replace h := j9 h
  obtain ⟨y, rfl, h⟩ := h
  replace h := Gd.out h
  obtain ⟨g, h⟩ := h
  intro ow ρ s va vb S ra rb Q E q
  refine hide fun Gz0 bk0 => ?_
  obtain ⟨a, vs, n, rfl, ha, r1⟩ := bF ra.inv
  obtain ⟨b, ws, m, rfl, hb, r2⟩ := bF rb.inv
  have g := Nat.le_of_ble_eq_true g
  refine bk0 ?_; clear bk0 Gz0
  refine P.add_list ha hb ?_ (by rw [List.size_toArray, List.size_toArray, r1.length, r2.length]; exact Nat.le_trans g (by decide))
  have e : vs.toArray ++ ws.toArray = (vs ++ ws).toArray := by simp
  rw [e]
  exact fH S (r1.append r2) h q
 | _ => exact False.elim h
theorem ans {ow : Addr → Prop} {ρ : List Addr} {s : Shared} (S : SR X ow ρ s.heap σ) {Q : Value → Shared → Prop} {b : Bool} {tk : Nat} (k : K (.v (.bool b)) σ)
  (q : ∀ (a : Value) (b : AV) (σ' : SS) (ow' : Addr → Prop) (ρ' : List Addr) (h' : Heap) (tk' : Nat), Ex X ow ρ s.heap ow' ρ' h' → SR X ow' ρ' h' σ' → RV X ow' ρ' h' a b → K b σ' → Q a { s with heap := h', toks := tk' }) : Q (.bool b) { s with toks := tk } :=
 q _ _ σ ow ρ s.heap tk .refl S (.v (.bool b)) k
noncomputable def CT (op : CmpOp) (x y : Int) (k : SV → Prop) : Prop := match op with
 | .Eq => k (.bool (x == y))
 | .NotEq => k (.bool (x != y))
 | .Lt => k (.bool (decide (x < y)))
 | .LtE => k (.bool (decide (x ≤ y)))
 | .Gt => k (.bool (decide (y < x)))
 | .GtE => k (.bool (decide (y ≤ x)))
 | _ => False
noncomputable def dm (x : Str) : List SV → Option Bool
 | [] => some false
 | .str y :: r => (match Fast.sEq y x with | true => (dm x r).map fun _ => true | false => dm x r)
 | _ => none
noncomputable def fb (x : Int) : List SV → Option Bool
 | [] => some false
 | .int y :: r => (match decide (y = x) with | true => (fb x r).map fun _ => true | false => fb x r)
 | _ => none
noncomputable def jJ (x : Str) : List (SV × SV) → Option (Option SV)
 | [] => some none
 | (.str y, v) :: r => (match jJ x r with | some q => (match Fast.sEq y x with | true => some (some v) | false => some q) | none => none)
 | _ => none
noncomputable def oB (x : Int) : List (SV × SV) → Option (Option SV)
 | [] => some none
 | (.int y, v) :: r => (match oB x r with | some q => (match decide (y = x) with | true => some (some v) | false => some q) | none => none)
 | _ => none
noncomputable def uz (o : Option Bool) (f : Bool → Bool) (k : SV → Prop) : Prop := match o with
 | some b => k (.bool (f b))
 | none => False
noncomputable def lH : AV → Bool
 | .v .none => true
 | _ => false
noncomputable def ld (n : Bool) (b : Bool) : Bool := match n with | true => !b | false => b
noncomputable def inD (n : Bool) (a : SV) (b : SV) (k : SV → Prop) : Prop := match b with
 | .tup l => (match a with | .str x => uz (dm x l) (ld n) k | .int x => uz (fb x l) (ld n) k | _ => False)
 | .dic l => (match a with | .str x => uz ((jJ x l).map Option.isSome) (ld n) k | .int x => uz ((oB x l).map Option.isSome) (ld n) k | _ => False)
 | .str y => (match a with | .str x => k (.bool (ld n (!(Builtin.Str.occurrences y x 0 y.length 1).isEmpty))) | _ => False)
 | _ => False
theorem rO {P : Addr → Obj → Prop} {w : World} {x : Str} : ∀ {l : List SV} {vs : List Value} {b : Bool}, VRs P w vs l → dm x l = some b → ∃ ys, StrsAre vs ys ∧ ys.any (· == x) = b := by
 intro l
 induction l with
 | nil =>
  intro vs b r e
  obtain rfl := r.i
  exact ⟨[], .nil, Option.some.inj e⟩
 | cons d ds ih =>
  intro vs b r e
  obtain ⟨v, r', rfl, h, rs⟩ := r.i
  induction d using SV.casesOn with
  | str y =>
   obtain ⟨t, rfl⟩ := h.i
   change (match Fast.sEq y x with | true => (dm x ds).map fun _ => true | false => dm x ds) = some b at e
   generalize q : dm x ds = o at e
   generalize hq : Fast.sEq y x = c at e
   induction o using Option.casesOn with
   | none => induction c using Bool.casesOn <;> exact aw e
   | some b' =>
    obtain ⟨ys, h1, h2⟩ := ih rs q
    refine ⟨y :: ys, .cons y t h1, ?_⟩
    rw [List.any_cons, h2]
    induction c using Bool.casesOn with
    | true => rw [Fast.sEq_iff.mp hq, beq_self_eq_true]; exact Option.some.inj e
    | false =>
     have : (y == x) = false := beq_eq_false_iff_ne.mpr fun e => by rw [e, cX] at hq; exact Bool.noConfusion hq
     rw [this]; exact Option.some.inj e
  | _ => exact aw e
theorem rn {P : Addr → Obj → Prop} {w : World} {x : Int} : ∀ {l : List SV} {vs : List Value} {b : Bool}, VRs P w vs l → fb x l = some b → ∃ ys, IntsAre vs ys ∧ ys.any (· == x) = b := by
 intro l
 induction l with
 | nil =>
  intro vs b r e
  obtain rfl := r.i
  exact ⟨[], .nil, Option.some.inj e⟩
 | cons d ds ih =>
  intro vs b r e
  obtain ⟨v, r', rfl, h, rs⟩ := r.i
  induction d using SV.casesOn with
  | int y =>
   obtain ⟨t, rfl⟩ := h.i
   change (match decide (y = x) with | true => (fb x ds).map fun _ => true | false => fb x ds) = some b at e
   generalize q : fb x ds = o at e
   generalize hq : decide (y = x) = c at e
   induction o using Option.casesOn with
   | none => induction c using Bool.casesOn <;> exact aw e
   | some b' =>
    obtain ⟨ys, h1, h2⟩ := ih rs q
    refine ⟨y :: ys, .cons y t h1, ?_⟩
    rw [List.any_cons, h2]
    induction c using Bool.casesOn with
    | true => rw [of_decide_eq_true hq, beq_self_eq_true]; exact Option.some.inj e
    | false =>
     have : (y == x) = false := beq_eq_false_iff_ne.mpr (of_decide_eq_false hq)
     rw [this]; exact Option.some.inj e
  | _ => exact aw e
noncomputable def hM (P : Addr → Obj → Prop) (w : World) (q : Option SV) (o : Option Value) : Prop := match q with
 | some d => ∃ v, o = some v ∧ VR P w v d
 | none => o = none
theorem KR.str_i {w : World} {e : DictEntry} {x : Str} (h : KR w e (.str x)) : ∃ t, e.key = .str x t ∧ e.hash = PyData.keyHash w.params x := by
 generalize hd : SV.str x = d at h
 induction h using KR.casesOn with
 | str a b => injection hd with hd; subst hd; exact ⟨_, a, b⟩
 | int => cases hd
theorem KR.int_i {w : World} {e : DictEntry} {x : Int} (h : KR w e (.int x)) : ∃ t, e.key = .int x t ∧ e.hash = hashInt x := by
 generalize hd : SV.int x = d at h
 induction h using KR.casesOn with
 | int a b => injection hd with hd; subst hd; exact ⟨_, a, b⟩
 | str => cases hd
theorem DRs.strs {P : Addr → Obj → Prop} {w : World} {x : Str} : ∀ {l : List (SV × SV)} {es : List DictEntry} {q : Option SV}, DRs P w es l → jJ x l = some q →
  (∀ e ∈ es, ∃ k, (strKind af w).is k e.key = true ∧ e.hash = (strKind af w).hash k) ∧ hM P w q (findBy Value.isStrOf es.toArray x) := by
 intro l
 induction l with
 | nil =>
  intro es q r e
  obtain rfl := r.i
  obtain rfl := Option.some.inj e
  exact ⟨fun e m => (nomatch m), rfl⟩
 | cons p ds ih =>
  intro es q r e
  obtain ⟨k, d⟩ := p
  obtain ⟨ez0, es', rfl, hk, hv, rs⟩ := r.i
  induction k using SV.casesOn with
  | str y =>
   obtain ⟨t, h1, h2⟩ := hk.str_i
   change (match jJ x ds with | some q => (match Fast.sEq y x with | true => some (some d) | false => some q) | none => none) = some q at e
   generalize q1 : jJ x ds = o at e
   induction o using Option.casesOn with
   | none => exact aw e
   | some q' =>
    obtain ⟨i1, i2⟩ := ih rs q1
    refine ⟨fun e' m => ?_, ?_⟩
    ·rcases jd m with rfl | m
     ·exact ⟨y, by rw [h1]; exact strKind_is _ _ _ _, h2⟩
     ·exact i1 e' m
    ·have ef : findBy Value.isStrOf (ez0 :: es').toArray x = if Value.isStrOf x ez0.key = true then some ez0.val else findBy Value.isStrOf es'.toArray x := by
      unfold findBy
      rw [List.find?_toArray, List.find?_toArray, List.find?_cons]
      cases Value.isStrOf x ez0.key <;> rfl
     rw [ef, h1]
     change hM P w q (if (y == x) = true then some ez0.val else findBy Value.isStrOf es'.toArray x)
     dsimp only at e
     generalize hq : Fast.sEq y x = c at e
     induction c using Bool.casesOn with
     | true =>
      obtain rfl := Option.some.inj e
      rw [Fast.sEq_iff.mp hq, beq_self_eq_true, if_pos rfl]; exact ⟨_, rfl, hv⟩
     | false =>
      obtain rfl := Option.some.inj e
      have : (y == x) = false := beq_eq_false_iff_ne.mpr fun e => by rw [e, cX] at hq; exact Bool.noConfusion hq
      rw [this]; exact i2
  | _ => exact aw e
theorem DRs.ints {P : Addr → Obj → Prop} {w : World} {x : Int} : ∀ {l : List (SV × SV)} {es : List DictEntry} {q : Option SV}, DRs P w es l → oB x l = some q →
  (∀ e ∈ es, ∃ k, (intKind af w).is k e.key = true ∧ e.hash = (intKind af w).hash k) ∧ hM P w q (findBy Value.isInt es.toArray x) := by
 intro l
 induction l with
 | nil =>
  intro es q r e
  obtain rfl := r.i
  obtain rfl := Option.some.inj e
  exact ⟨fun e m => (nomatch m), rfl⟩
 | cons p ds ih =>
  intro es q r e
  obtain ⟨k, d⟩ := p
  obtain ⟨ez0, es', rfl, hk, hv, rs⟩ := r.i
  induction k using SV.casesOn with
  | int y =>
   obtain ⟨t, h1, h2⟩ := hk.int_i
   change (match oB x ds with | some q => (match decide (y = x) with | true => some (some d) | false => some q) | none => none) = some q at e
   generalize q1 : oB x ds = o at e
   induction o using Option.casesOn with
   | none => exact aw e
   | some q' =>
    obtain ⟨i1, i2⟩ := ih rs q1
    refine ⟨fun e' m => ?_, ?_⟩
    ·rcases jd m with rfl | m
     ·exact ⟨y, by rw [h1]; exact intKind_is _ _ _ _, h2⟩
     ·exact i1 e' m
    ·have ef : findBy Value.isInt (ez0 :: es').toArray x = if Value.isInt x ez0.key = true then some ez0.val else findBy Value.isInt es'.toArray x := by
      unfold findBy
      rw [List.find?_toArray, List.find?_toArray, List.find?_cons]
      cases Value.isInt x ez0.key <;> rfl
     rw [ef, h1]
     change hM P w q (if (y == x) = true then some ez0.val else findBy Value.isInt es'.toArray x)
     dsimp only at e
     generalize hq : decide (y = x) = c at e
     induction c using Bool.casesOn with
     | true =>
      obtain rfl := Option.some.inj e
      rw [of_decide_eq_true hq, beq_self_eq_true, if_pos rfl]; exact ⟨_, rfl, hv⟩
     | false =>
      obtain rfl := Option.some.inj e
      have : (y == x) = false := beq_eq_false_iff_ne.mpr (of_decide_eq_false hq)
      rw [this]; exact i2
  | _ => exact aw e
theorem wQ {h : Heap} {w : World} {a : Addr} {es : List DictEntry} {n : Nat} (ha : h.get? a = some (dictOf es n)) (hk : ∀ e ∈ es, ∃ k, (strKind af w).is k e.key = true ∧ e.hash = (strKind af w).hash k) : h.MapOf (strKind af w) a (fun k => findBy Value.isStrOf es.toArray k) :=
 ⟨_, es.toArray, n, ha, ⟨rfl, rfl, rfl⟩, rfl, fun e he => hk e (by simpa using he), fun _ => rfl⟩
theorem zR {h : Heap} {w : World} {a : Addr} {es : List DictEntry} {n : Nat} (ha : h.get? a = some (dictOf es n)) (hk : ∀ e ∈ es, ∃ k, (intKind af w).is k e.key = true ∧ e.hash = (intKind af w).hash k) : h.MapOf (intKind af w) a (fun k => findBy Value.isInt es.toArray k) :=
 ⟨_, es.toArray, n, ha, ⟨rfl, rfl, rfl⟩, rfl, fun e he => hk e (by simpa using he), fun _ => rfl⟩
end
end
section
section
variable {X : Fx} {σ : SS} {K : AV → SS → Prop}
noncomputable def jI : Nat → SV → Bool
 | _, .none => true
 | _, .bool _ => true
 | _, .int _ => true
 | _, .str _ => true
 | _, .bytes _ => true
 | n + 1, .tup l => l.all (jI n)
 | n + 1, .lst l => l.all (jI n)
 | _, _ => false
theorem VRs.at {P : Addr → Obj → Prop} {w : World} {vs : List Value} {l : List SV} (r : VRs P w vs l) {j : Nat} (h : j < vs.length) : ∃ d, l[j]? = some d ∧ VR P w vs[j] d := r.get' (List.getElem?_eq_getElem h)
theorem ay {h : Heap} {a : Addr} {vs : List Value} {n : Nat} (e : h.get? a = some (listOf vs.toArray n)) : h.IsList a vs.toArray := ⟨_, e, rfl, n, rfl⟩
theorem dJ {h : Heap} {a : Addr} {vs : List Value} {n : Nat} (e : h.get? a = some (cB vs n)) : h.IsTuple a vs.toArray := ⟨_, e, rfl, n, rfl⟩
theorem bW {h : Heap} {a : Addr} {vs : List Value} {n : Nat} (e : h.get? a = some (cB vs n)) : IsTup h a vs.toArray := ⟨_, e, rfl, n, rfl⟩
theorem lm {ow : Addr → Prop} {w : World} {h : Heap} {v : Value} {l : List (SV × SV)} (r : VR (Pz h ow) w v (.dic l)) : ∃ a es n, v = .ref a ∧ h.get? a = some (dictOf es n) ∧ (a == sysModules) = false ∧ DRs (Pz h ow) w es l := by
 cases r with | dic p lo r => exact ⟨_, _, _, rfl, p.1, lo, r⟩
theorem fh (n : Nat) : (List.range n).all (fun _ => true) = true := by simp
section
open SeqAt
theorem qC {A : Around} {s : Shared} (l : List UInt8) (t u : Tok) : EqAt A s (.bytes ⟨l⟩ t) (.bytes ⟨l⟩ u) true := fun prog w E Q h => by
 refine wpAny_holding ?_
 refine wpAny_ite_split (fun _ => ?_) (fun hab => ?_)
 ·exact wpAny_bind (wpAny_rule (wpAny_pure h))
 ·refine wpAny_bind (richCompare_gives (op := .Eq) (typeIs_bytes s ⟨l⟩ t) (typeIs_bytes s ⟨l⟩ u) FB.slot_bytes_eq FB.entry_bytes_eq (FB.args_bytes_eq_2 _ _) (gives_bytes_eq _ _ t u) (fun e => nomatch e) (wpAny_truthy_bool ?_))
  rw [beq_self_eq_true]; exact h
theorem ye {A : Around} {P : Addr → Obj → Prop} {w : World} {s : Shared} {a b : Value} {i : Int} (r1 : VR P w a (.int i)) (r2 : VR P w b (.int i)) : EqAt A s a b true := by
 obtain ⟨t, rfl⟩ := r1.int_inv
 obtain ⟨u, rfl⟩ := r2.int_inv
 have := EqAt.int_int (A := A) (s := s) i t i u
 rw [beq_self_eq_true] at this
 exact this
theorem yB {A : Around} {P : Addr → Obj → Prop} {w : World} {s : Shared} {a b : Value} {x : Str} (r1 : VR P w a (.str x)) (r2 : VR P w b (.str x)) : EqAt A s a b true := by
 obtain ⟨t, rfl⟩ := r1.str_inv
 obtain ⟨u, rfl⟩ := r2.str_inv
 exact fun prog w' E Q h => wpAny_eqBool_str (by rw [decide_eq_true rfl]; exact h)
theorem ja {ow : Addr → Prop} {w : World} {s : Shared} {A : Around} {vs ws : List Value} {l : List SV} (n : Nat) (ih : ∀ {A : Around} {a b : Value} {d : SV}, jI n d = true → A.units + n < cLine → VR (Pz s.heap ow) w a d → VR (Pz s.heap ow) w b d → EqAt A s a b true) (ok : l.all (jI n) = true) (hu : A.units + 1 + n < cLine) (q1 : VRs (Pz s.heap ow) w vs l) (q2 : VRs (Pz s.heap ow) w ws l) :
  ∀ j (h1 : j < vs.toArray.size) (h2 : j < ws.toArray.size), EqAt A.in1 s vs.toArray[j] ws.toArray[j] true := fun j h1 h2 => by
 rw [List.size_toArray] at h1 h2
 obtain ⟨d1, f1, g1⟩ := q1.at h1
 obtain ⟨d2, f2, g2⟩ := q2.at h2
 obtain rfl := Option.some.inj (f1.symm.trans f2)
 exact ih (List.all_eq_true.mp ok d1 (List.mem_of_getElem? f1)) hu g1 g2
theorem zy {ow : Addr → Prop} {w : World} {s : Shared} : ∀ (n : Nat) {A : Around} {a b : Value} {d : SV}, jI n d = true → A.units + n < cLine → VR (Pz s.heap ow) w a d → VR (Pz s.heap ow) w b d → EqAt A s a b true := by
 intro n
 induction n with
 | zero =>
  intro A a b d ok hu r1 r2
  induction d using SV.casesOn with
  | none => obtain rfl := r1.i; obtain rfl := r2.i; exact EqAt.same _
  | bool c => obtain rfl := r1.i; obtain rfl := r2.i; exact EqAt.same _
  | int i => exact ye r1 r2
  | str x => exact yB r1 r2
  | bytes x => obtain ⟨_, rfl⟩ := r1.i; obtain ⟨_, rfl⟩ := r2.i; exact qC _ _ _
  | _ => exact Bool.noConfusion ok
 | succ n ih =>
  intro A a b d ok hu r1 r2
  induction d using SV.casesOn with
  | none => obtain rfl := r1.i; obtain rfl := r2.i; exact EqAt.same _
  | bool c => obtain rfl := r1.i; obtain rfl := r2.i; exact EqAt.same _
  | int i => exact ye r1 r2
  | str x => exact yB r1 r2
  | bytes x => obtain ⟨_, rfl⟩ := r1.i; obtain ⟨_, rfl⟩ := r2.i; exact qC _ _ _
  | tup l =>
   obtain ⟨x, vs, k, rfl, e1, q1⟩ := cD r1
   obtain ⟨y, ws, m, rfl, e2, q2⟩ := cD r2
   by_cases hxy : x = y
   ·subst hxy; exact EqAt.same _
   refine EqAt.of_refs hxy ?_
   have := RcAt.tuples (e := fun _ => true) (A := A) (dJ e1) (dJ e2) (by lia) (ja n ih ok (by lia) q1 q2)
   rw [fh] at this
   simpa [q1.length.trans q2.length.symm] using this
  | lst l =>
   obtain ⟨x, vs, k, rfl, e1, q1⟩ := bF r1
   obtain ⟨y, ws, m, rfl, e2, q2⟩ := bF r2
   by_cases hxy : x = y
   ·subst hxy; exact EqAt.same _
   refine EqAt.of_refs hxy ?_
   have := RcAt.lists (e := fun _ => true) (A := A) (ay e1) (ay e2) (by simpa using q1.length.trans q2.length.symm) (by lia) (ja n ih ok (by lia) q1 q2)
   rw [fh] at this
   exact this
  | _ => exact Bool.noConfusion ok
theorem kG {ow : Addr → Prop} {w : World} {s : Shared} {A : Around} {vs ws : List Value} {l : List SV} (n : Nat) (ok : l.all (jI n) = true) (hu : A.units + 1 + n < cLine) (q1 : VRs (Pz s.heap ow) w vs l) (q2 : VRs (Pz s.heap ow) w ws l) :
  ∀ j (h1 : j < vs.toArray.size) (h2 : j < ws.toArray.size), EqAt A.in1 s vs.toArray[j] ws.toArray[j] true :=
 ja n (zy n) ok hu q1 q2
end
noncomputable def yv (x y : List SV) (k : Bool → Prop) : Prop := (x = y ∧ x.all (jI 6) = true ∧ k true) ∨ (x.length ≠ y.length ∧ k false)
noncomputable def eqD (op : CmpOp) (a b : SV) (k : SV → Prop) : Prop := match a with
 | .int x => (match b with | .int y => CT op x y k | _ => False)
 | .str x => (match b with | .str y => (match op with | .Eq => k (.bool (Fast.sEq x y)) | .NotEq => k (.bool (!Fast.sEq x y)) | _ => False) | _ => False)
 | .bool x => (match b with | .bool y => (match op with | .Eq => k (.bool (x == y)) | .NotEq => k (.bool (!(x == y))) | _ => False) | _ => False)
 | .bytes x => (match b with | .bytes y => (match op with | .Eq => k (.bool (x == y)) | .NotEq => k (.bool (x != y)) | _ => False) | _ => False)
 | .lst x => (match b with | .lst y => (match op with | .Eq => yv x y fun c => k (.bool c) | .NotEq => yv x y fun c => k (.bool (!c)) | _ => False) | _ => False)
 | _ => False
noncomputable def iK (op : CmpOp) (a b : AV) (k : SV → Prop) : Prop := match op with
 | .Is => (match b with | .v .none => k (.bool (lH a)) | _ => False)
 | .IsNot => (match b with | .v .none => k (.bool (!lH a)) | _ => False)
 | .In => (match b with | .v b => (match a with | .v a => inD false a b k | _ => False) | _ => False)
 | .NotIn => (match b with | .v b => (match a with | .v a => inD true a b k | _ => False) | _ => False)
 | op => (match a with | .v a => (match b with | .v b => eqD op a b k | _ => False) | _ => False)
theorem iC (x y : Str) : (x == y) = Fast.sEq x y := by
 by_cases h : x = y
 ·subst h; rw [beq_self_eq_true, cX]
 ·rw [beq_eq_false_iff_ne.mpr h, cT h]
theorem f6 {o : Option Bool} {f : Bool → Bool} {k : SV → Prop} (h : uz o f k) : ∃ b, o = some b ∧ k (.bool (f b)) := by
 induction o using Option.casesOn with
 | none => exact False.elim h
 | some b => exact ⟨b, rfl, h⟩
theorem hM.isSome {P : Addr → Obj → Prop} {w : World} {q : Option SV} {o : Option Value} (h : hM P w q o) : o.isSome = q.isSome := by
 induction q using Option.casesOn with
 | none => obtain rfl : o = none := h; rfl
 | some d => obtain ⟨v, rfl, _⟩ := (h : ∃ v, o = some v ∧ VR P w v d); rfl
theorem mF {α β : Type} {f : α → β} {o : Option α} {b : β} (h : o.map f = some b) : ∃ a, o = some a ∧ f a = b := by
 induction o using Option.casesOn with
 | none => exact aw h
 | some a => exact ⟨a, rfl, Option.some.inj h⟩
theorem tZ {op : CmpOp} {n : Bool} {a b : SV} (O : X.Ok) (hop : op = match n with | true => .NotIn | false => .In) (h : inD n a b fun v => K (.v v) σ) : J2 X (compareOp op) (.v a) (.v b) σ K := by
 subst hop
 intro ow ρ s va vb S ra rb Q E q
 replace ra := ra.inv
 replace rb := rb.inv
 induction b using SV.casesOn with
 | tup l =>
  obtain ⟨t, vs, m, rfl, e1, q1⟩ := cD rb
  induction a using SV.casesOn with
  | str x =>
   obtain ⟨u, rfl⟩ := ra.str_inv
   obtain ⟨b, e, h⟩ := f6 (o := dm x l) (f := ld n) (k := fun v => K (.v v) σ) h
   obtain ⟨ys, f1, f2⟩ := rO q1 e
   induction n using Bool.casesOn with
   | false => exact in_tuple_strs (bW e1) (by simpa using f1) (by rw [f2]; exact ans S h q)
   | true => exact notin_tuple_strs (bW e1) (by simpa using f1) (by rw [f2]; exact ans S h q)
  | int x =>
   obtain ⟨u, rfl⟩ := ra.int_inv
   obtain ⟨b, e, h⟩ := f6 (o := fb x l) (f := ld n) (k := fun v => K (.v v) σ) h
   obtain ⟨ys, f1, f2⟩ := rn q1 e
   induction n using Bool.casesOn with
   | false => exact in_tuple_ints (bW e1) (by simpa using f1) (by rw [f2]; exact ans S h q)
   | true => exact notin_tuple_ints (bW e1) (by simpa using f1) (by rw [f2]; exact ans S h q)
  | _ => exact False.elim h
 | dic l =>
  obtain ⟨d, es, m, rfl, e1, lo, dr⟩ := lm rb
  induction a using SV.casesOn with
  | str x =>
   obtain ⟨u, rfl⟩ := ra.str_inv
   obtain ⟨b, e, h⟩ := f6 (o := (jJ x l).map Option.isSome) (f := ld n) (k := fun v => K (.v v) σ) h
   obtain ⟨o, q1, rfl⟩ := mF e
   obtain ⟨hk, hf⟩ := dr.strs q1
   induction n using Bool.casesOn with
   | false => exact wpAny_in_of (strKind_is _ _ x u) lo (wQ e1 hk) (by rw [hf.isSome]; exact ans S h q)
   | true => exact wpAny_notIn_of (strKind_is _ _ x u) lo (wQ e1 hk) (by rw [hf.isSome]; exact ans S h q)
  | int x =>
   obtain ⟨u, rfl⟩ := ra.int_inv
   obtain ⟨b, e, h⟩ := f6 (o := (oB x l).map Option.isSome) (f := ld n) (k := fun v => K (.v v) σ) h
   obtain ⟨o, q1, rfl⟩ := mF e
   obtain ⟨hk, hf⟩ := dr.ints q1
   induction n using Bool.casesOn with
   | false => exact wpAny_in_of (intKind_is _ _ x u) lo (zR e1 hk) (by rw [hf.isSome]; exact ans S h q)
   | true => exact wpAny_notIn_of (intKind_is _ _ x u) lo (zR e1 hk) (by rw [hf.isSome]; exact ans S h q)
  | _ => exact False.elim h
 | str y =>
  obtain ⟨u, rfl⟩ := rb.str_inv
  induction a using SV.casesOn with
  | str x =>
   obtain ⟨t, rfl⟩ := ra.str_inv
   induction n using Bool.casesOn with
   | false => exact PyProof.Rows.in_str (ans S h q)
   | true => exact PyProof.Rows.notIn_str (ans S h q)
  | _ => exact False.elim h
 | _ => exact False.elim h
theorem xa {op : CmpOp} {x y : Int} (h : CT op x y fun v => K (.v v) σ) : J2 X (compareOp op) (.v (.int x)) (.v (.int y)) σ K := by
 intro ow ρ s va vb S ra rb Q E q
 obtain ⟨t, rfl⟩ := ra.inv.int_inv
 obtain ⟨u, rfl⟩ := rb.inv.int_inv
 induction op using CmpOp.casesOn with
 | Eq => exact eq_int (ans S h q)
 | NotEq => exact PyProof.Rows.ne_int (ans S h q)
 | Lt => exact PyProof.Rows.lt_int (ans S h q)
 | LtE => exact PyProof.Rows.le_int (ans S h q)
 | Gt => exact PyProof.Rows.gt_int (ans S h q)
 | GtE => exact PyProof.Rows.ge_int (ans S h q)
 | _ => exact False.elim h
theorem xk {op : CmpOp} {x y : Str} (h : eqD op (.str x) (.str y) fun v => K (.v v) σ) : J2 X (compareOp op) (.v (.str x)) (.v (.str y)) σ K := by
 intro ow ρ s va vb S ra rb Q E q
 obtain ⟨t, rfl⟩ := ra.inv.str_inv
 obtain ⟨u, rfl⟩ := rb.inv.str_inv
 induction op using CmpOp.casesOn with
 | Eq => exact PyProof.Rows.eq_str (by rw [iC]; exact ans S h q)
 | NotEq => exact PyProof.Rows.ne_str (by rw [bne, iC]; exact ans S h q)
 | _ => exact False.elim h
open SeqAt in
theorem tv {op : CmpOp} {x y : Bool} (h : eqD op (.bool x) (.bool y) fun v => K (.v v) σ) : J2 X (compareOp op) (.v (.bool x)) (.v (.bool y)) σ K := by
 intro ow ρ s va vb S ra rb Q E q
 obtain rfl := ra.inv.i
 obtain rfl := rb.inv.i
 induction op using CmpOp.casesOn with
 | Eq => exact EqBoolInt.of_rc (RcAt.bool_bool _ _) (ans S h q)
 | NotEq => exact EqBoolInt.of_rcne (RcNeAt.bool_bool _ _) (ans S h q)
 | _ => exact False.elim h
theorem rV {op : CmpOp} {x y : List UInt8} (h : eqD op (.bytes x) (.bytes y) fun v => K (.v v) σ) : J2 X (compareOp op) (.v (.bytes x)) (.v (.bytes y)) σ K := by
 intro ow ρ s va vb S ra rb Q E q
 obtain ⟨t, rfl⟩ := ra.inv.bytes_inv
 obtain ⟨u, rfl⟩ := rb.inv.bytes_inv
 induction op using CmpOp.casesOn with
 | Eq => exact eq_bytes (ans S h q)
 | NotEq => exact ne_bytes (ans S h q)
 | _ => exact False.elim h
open SeqAt in
theorem vk {op : CmpOp} {x y : List SV} (O : X.Ok) (hU : 10 ≤ X.U) (h : eqD op (.lst x) (.lst y) fun v => K (.v v) σ) : J2 X (compareOp op) (.v (.lst x)) (.v (.lst y)) σ K := by
 intro ow ρ s va vb S ra rb Q E q
 have units : X.un + 10 < cLine := Nat.lt_of_le_of_lt (Nat.add_le_add_left hU _) O.units
 obtain ⟨t, vs, m, rfl, e1, q1⟩ := bF ra.inv
 obtain ⟨u, ws, n, rfl, e2, q2⟩ := bF rb.inv
 induction op using CmpOp.casesOn with
 | Eq =>
  rcases h with ⟨rfl, ok, h⟩ | ⟨ne, h⟩
  ·have := RcAt.lists (e := fun _ => true) (A := X.A) (ay e1) (ay e2) (by simpa using q1.length.trans q2.length.symm) (by show X.un < cLine; lia) (kG 6 ok (by show X.un + 1 + 6 < cLine; lia) q1 q2)
   rw [fh] at this
   exact EqBoolInt.of_rc this (ans S h q)
  ·exact EqBoolInt.of_rc (RcAt.lists_lengths (A := X.A) (ay e1) (ay e2) (by simpa [q1.length, q2.length] using ne) (by show X.un < cLine; lia)) (ans S h q)
 | NotEq =>
  rcases h with ⟨rfl, ok, h⟩ | ⟨ne, h⟩
  ·have := RcNeAt.lists (e := fun _ => true) (A := X.A) (ay e1) (ay e2) (by simpa using q1.length.trans q2.length.symm) (by show X.un < cLine; lia) (kG 6 ok (by show X.un + 1 + 6 < cLine; lia) q1 q2)
   rw [fh] at this
   exact EqBoolInt.of_rcne this (ans S h q)
  ·exact EqBoolInt.of_rcne (RcNeAt.lists_lengths (A := X.A) (ay e1) (ay e2) (by simpa [q1.length, q2.length] using ne) (by show X.un < cLine; lia)) (ans S h q)
 | _ => exact False.elim h
theorem y8 {op : CmpOp} {a b : SV} (O : X.Ok) (hU : 10 ≤ X.U) (h : eqD op a b fun v => K (.v v) σ) : J2 X (compareOp op) (.v a) (.v b) σ K := by
 induction a using SV.casesOn with
 | int x => induction b using SV.casesOn with
  | int y => exact xa h
  | _ => exact False.elim h
 | str x => induction b using SV.casesOn with
  | str y => exact xk h
  | _ => exact False.elim h
 | bool x => induction b using SV.casesOn with
  | bool y => exact tv h
  | _ => exact False.elim h
 | bytes x => induction b using SV.casesOn with
  | bytes y => exact rV h
  | _ => exact False.elim h
 | lst x => induction b using SV.casesOn with
  | lst y => exact vk O hU h
  | _ => exact False.elim h
 | _ => exact False.elim h
theorem j7 {P : Addr → Obj → Prop} {w : World} {ρ : List Addr} {v : Value} {a : AV} (r : AR P w ρ v a) : (v == .none) = lH a := by
 have r := r.i
 induction a using AV.casesOn with
 | c i => obtain ⟨_, rfl, _⟩ := r; exact rfl
 | v d =>
  have r := VR.i r
  induction d using SV.casesOn with
  | none => obtain rfl := r; exact rfl
  | bool b => obtain rfl := r; exact rfl
  | int i => obtain ⟨_, rfl⟩ := r; exact rfl
  | str i => obtain ⟨_, rfl⟩ := r; exact rfl
  | bytes i => obtain ⟨_, rfl⟩ := r; exact rfl
  | tup l => obtain ⟨_, _, _, rfl, _⟩ := r; exact rfl
  | lst l => obtain ⟨_, _, _, rfl, _⟩ := r; exact rfl
  | dic l => obtain ⟨_, _, _, rfl, _⟩ := r; exact rfl
  | rng a b c => obtain ⟨_, _, _, _, rfl, _⟩ := r; exact rfl
  | ref a => obtain rfl := r; exact rfl
  | bi b => obtain rfl := r; exact rfl
  | ty t => obtain rfl := r; exact rfl
theorem dY {op : CmpOp} {a b : AV} (O : X.Ok) (hU : 10 ≤ X.U) (h : iK op a b fun v => K (.v v) σ) : J2 X (compareOp op) a b σ K := by
 have other : (match (generalizing := false) a with | .v a => (match (generalizing := false) b with | .v b => eqD op a b (fun v => K (.v v) σ) | _ => False) | _ => False) → J2 X (compareOp op) a b σ K := fun h => by
  induction a using AV.casesOn with
  | c i => exact False.elim h
  | v a => induction b using AV.casesOn with
   | c i => exact False.elim h
   | v b => exact y8 O hU h
 induction op using CmpOp.casesOn with
 | Is => induction b using AV.casesOn with
  | c i => exact False.elim h
  | v b => induction b using SV.casesOn with
   | none =>
    intro ow ρ s va vb S ra rb Q E q
    obtain rfl := rb.inv.i
    exact is_none_gen (by rw [j7 ra]; exact ans S h q)
   | _ => exact False.elim h
 | IsNot => induction b using AV.casesOn with
  | c i => exact False.elim h
  | v b => induction b using SV.casesOn with
   | none =>
    intro ow ρ s va vb S ra rb Q E q
    obtain rfl := rb.inv.i
    exact isnot_none_gen (by rw [j7 ra]; exact ans S h q)
   | _ => exact False.elim h
 | In => induction b using AV.casesOn with
  | c i => exact False.elim h
  | v b => induction a using AV.casesOn with
   | c i => exact False.elim h
   | v a => exact tZ (n := false) O rfl h
 | NotIn => induction b using AV.casesOn with
  | c i => exact False.elim h
  | v b => induction a using AV.casesOn with
   | c i => exact False.elim h
   | v a => exact tZ (n := true) O rfl h
 | _ => exact other h
noncomputable def dy (a : AV) (k : Bool → Prop) : Prop := match a with
 | .v (.bool b) => k b
 | .v (.int i) => k (i != 0)
 | .v .none => k false
 | _ => False
theorem cJ {a : AV} {K : Bool → SS → Prop} (h : dy a fun b => K b σ) : JTr X a σ K := by
 intro ow ρ s va S ra Q E q
 induction a using AV.casesOn with
 | c i => exact False.elim h
 | v x => induction x using SV.casesOn with
  | bool b => obtain rfl := ra.inv.i; exact wpAny_truthy_bool (q _ _ σ ow ρ s.heap s.toks .refl S rfl h)
  | int i => obtain ⟨t, rfl⟩ := ra.inv.int_inv; exact PyProof.Rows.truthy_int (q _ _ σ ow ρ s.heap s.toks .refl S rfl h)
  | none => obtain rfl := ra.inv.i; exact truthy_none (q _ _ σ ow ρ s.heap s.toks .refl S rfl h)
  | _ => exact False.elim h
noncomputable def JTL (X : Fx) (op : BoolOp) (es : List Expr) (σ : SS) (K : Bool → SS → Prop) : Prop := ∀ ow ρ s, SR X ow ρ s.heap σ → aL X ow ρ s RB (allTrue op es X.env) K
section
variable {K : Bool → SS → Prop}
theorem zV {x : Expr} {pos : Pos} (h : JT X x σ fun b σ => K (!b) σ) : JT X (.UnaryOp .Not x pos) σ K := fun ow ρ s S Q E q =>
 isTrue_not (h ow ρ s S _ _ fun a b σ1 ow1 ρ1 hz1 tk1 ez1 S1 rz1 kz1 => q _ _ σ1 ow1 ρ1 hz1 tk1 ez1 S1 (by show (!a) = !b; rw [show a = b from rz1]) kz1)
theorem sm {op : BoolOp} {es : List Expr} {pos : Pos} (h : JTL X op es σ K) : JT X (.BoolOp op es pos) σ K := fun ow ρ s S Q E q => wpAny_isTrue_BoolOp (h ow ρ s S Q E q)
theorem wJ {op : BoolOp} (h : K (match op with | .And => true | .Or => false) σ) : JTL X op [] σ K := fun ow ρ s S Q E q => by
 induction op using BoolOp.casesOn
 ·exact wpAny_allTrue_And_nil (q _ _ σ ow ρ s.heap s.toks .refl S rfl h)
 ·exact wpAny_allTrue_Or_nil (q _ _ σ ow ρ s.heap s.toks .refl S rfl h)
theorem us {op : BoolOp} {x : Expr} {rest : List Expr} (h : JT X x σ fun b σ1 => match op with | .And => Br b (JTL X op rest σ1 K) (K false σ1) | .Or => Br b (K true σ1) (JTL X op rest σ1 K)) : JTL X op (x :: rest) σ K := fun ow ρ s S Q E q => by
 induction op using BoolOp.casesOn
 ·refine wpAny_allTrue_And_cons (h ow ρ s S _ _ fun a b σ1 ow1 ρ1 hz1 tk1 ez1 S1 rz1 kz1 => ?_)
  obtain rfl : a = b := rz1
  induction a using Bool.casesOn
  ·exact q _ _ σ1 ow1 ρ1 hz1 tk1 ez1 S1 rfl kz1
  ·exact kz1 ow1 ρ1 { s with heap := hz1, toks := tk1 } S1 _ _ fun v sv σ2 ow2 ρ2 hz2 tk2 ez2 S2 rz2 kz2 => q v sv σ2 ow2 ρ2 hz2 tk2 (ez1.trans ez2) S2 rz2 kz2
 ·refine wpAny_allTrue_Or_cons (h ow ρ s S _ _ fun a b σ1 ow1 ρ1 hz1 tk1 ez1 S1 rz1 kz1 => ?_)
  obtain rfl : a = b := rz1
  induction a using Bool.casesOn
  ·exact kz1 ow1 ρ1 { s with heap := hz1, toks := tk1 } S1 _ _ fun v sv σ2 ow2 ρ2 hz2 tk2 ez2 S2 rz2 kz2 => q v sv σ2 ow2 ρ2 hz2 tk2 (ez1.trans ez2) S2 rz2 kz2
  ·exact q _ _ σ1 ow1 ρ1 hz1 tk1 ez1 S1 rfl kz1
theorem t6 {l rz1 rz2 : Expr} {op1 op2 : CmpOp} {pos : Pos} (hm : behindInMarks op2 rz2 = false) (h : JE X l σ fun a σ1 => JE X rz1 σ1 fun b σ2 => J2 X (compareOp op1) a b σ2 fun c σ3 => JTr X c σ3 fun t σ4 =>
  Br t (b = b ∧ JE X rz2 σ4 fun d σ5 => J2 X (compareOp op2) b d σ5 fun e σ6 => JTr X e σ6 K) (K false σ4)) : JT X (.Compare l [op1, op2] [rz1, rz2] pos) σ K := by
 intro ow ρ s S Q E q
 refine isTrue_chain (h ow ρ s S _ _ fun va sa σ1 ow1 ρ1 hz1 tk1 ez1 S1 ra kz1 => ?_) (by show behindInMarks op2 rz2 = false; exact hm)
 refine test_link (kz1 ow1 ρ1 { s with heap := hz1, toks := tk1 } S1 _ _ fun vb sb σ2 ow2 ρ2 hz2 tk2 ez2 S2 rb kz2 => ?_)
 refine kz2 ow2 ρ2 { s with heap := hz2, toks := tk2 } va vb S2 (S1.ar ez2 ra) rb _ _ fun vc sc σ3 ow3 ρ3 hz3 tk3 ez3 S3 rc kz3 => ?_
 refine kz3 ow3 ρ3 { s with heap := hz3, toks := tk3 } vc S3 rc _ _ fun t t' σ4 ow4 ρ4 hz4 tk4 ez4 S4 rt kz4 => ?_
 obtain rfl : t = t' := rt
 induction t using Bool.casesOn
 ·exact q _ _ σ4 ow4 ρ4 hz4 tk4 (((ez1.trans ez2).trans ez3).trans ez4) S4 rfl kz4
 ·refine test_last (kz4.2 ow4 ρ4 { s with heap := hz4, toks := tk4 } S4 _ _ fun vd sd σ5 ow5 ρ5 hz5 tk5 ez5 S5 rd kz5 => ?_)
  refine kz5 ow5 ρ5 { s with heap := hz5, toks := tk5 } vb vd S5 (S4.ar ez5 (S3.ar ez4 (S2.ar ez3 rb))) rd _ _ fun ve se σ6 ow6 ρ6 hz6 tk6 ez6 Sz6 re kz6 => ?_
  exact kz6 ow6 ρ6 { s with heap := hz6, toks := tk6 } ve Sz6 re _ _ fun v sv σ7 ow7 ρ7 hz7 tk7 ez7 Sz7 rz7 kz7 => q v sv σ7 ow7 ρ7 hz7 tk7 ((((((ez1.trans ez2).trans ez3).trans ez4).trans ez5).trans ez6).trans ez7) Sz7 rz7 kz7
end
end
end
section
section
variable {X : Fx} {σ : SS} {K : AV → SS → Prop}
theorem km (hz0 h : Heap) (L : Addr) : ∃ news, News hz0 L h news ∧ ∀ b o, h.get? b = some o → b ≠ L → hz0.get? b = none → (b, o) ∈ news := by
 let f : Addr → Option (Addr × Obj) := fun b => match h.get? b with
  | some o => if b = L ∨ (hz0.get? b).isSome = true then none else some (b, o)
  | none => none
 have hf : ∀ b p, f b = some p → ∃ o, p = (b, o) ∧ h.get? b = some o ∧ b ≠ L ∧ hz0.get? b = none := fun b p e => by
  simp only [f] at e
  split at e
  ·rename_i o e1
   split at e
   ·cases e
   ·rename_i n
    cases e
    refine ⟨o, rfl, e1, fun q => n (.inl q), ?_⟩
    cases q : hz0.get? b with
    | none => rfl
    | some o' => exact absurd (.inr (by rw [q]; rfl)) n
  ·cases e
 refine ⟨(List.range h.objs.size).filterMap f, fun p hp => ?_, fun b o e n1 n2 => ?_⟩
 ·obtain ⟨b, _, e⟩ := List.mem_filterMap.mp hp
  obtain ⟨o, rfl, e1, e2, e3⟩ := hf b p e
  exact ⟨e1, e2, e3⟩
 ·refine List.mem_filterMap.mpr ⟨b, List.mem_range.mpr (Heap.lt_size e), ?_⟩
  simp only [f, e]
  rw [if_neg (fun q => q.elim n1 fun q => by rw [n2] at q; cases q)]
theorem SR.frame {ow : Addr → Prop} {ρ : List Addr} {h : Heap} (O : X.Ok) (S : SR X ow ρ h σ) : ∃ mf news, Fr X.hz0 X.L h mf ∧ News X.hz0 X.L h news ∧ (∀ D o, h.get? D = some o → D ≠ X.L → X.hz0.get? D = none → (∀ p ∈ news, p.1 < D) → False) ∧ ∀ h' news', Fr X.hz0 X.L h' mf → News X.hz0 X.L h' news' → (∀ p ∈ news, p ∈ news') → SR X ow ρ h' σ ∧ Ex X ow ρ h ow ρ h' := by
 obtain ⟨mf, ml, F, n, c1, c2, l⟩ := S.fr
 obtain ⟨news, N, all⟩ := km X.hz0 h X.L
 refine ⟨mf, news, F, N, fun D o e n1 n2 lt => Nat.lt_irrefl _ (lt _ (all D o e n1 n2)), fun h' news' F' N' sub => ?_⟩
 have kp : ∀ b o, h.get? b = some o → b ≠ X.L → h'.get? b = some o := fun b o e nb => by
  cases q : X.hz0.get? b with
  | some o' =>
   have := F.keep b o' q
   rw [e] at this; cases this
   exact F'.keep b _ q
  | none => exact (N' _ (sub _ (all b o e nb q))).1
 have lv : ∀ b o, h.get? b = some o → ∃ o', h'.get? b = some o' := fun b o e => by
  by_cases hb : b = X.L
  ·subst hb; obtain ⟨o', _, _, e', _⟩ := F'.ns; exact ⟨o', e'⟩
  ·exact ⟨o, kp b o e hb⟩
 have hp : ∀ b o, Pz h ow b o → Pz h' ow b o := fun b o e => ⟨kp b o e.1 (fun q => e.2 (q ▸ S.owL)), e.2⟩
 refine ⟨⟨?_, S.len, fun i a so e1 e2 => ?_, S.nd, S.off, S.owL, S.owl, fun a q => let ⟨o, e⟩ := S.low a q; lv a o e, S.var, fun a x e => hp a x (S.kf a x e)⟩, fun _ q => q, fun _ q => .inl q, pfx ρ, fun _ q => .inl q, fun b o e _ _ n3 => kp b o e n3, lv⟩
 ·have ln : ∀ y sv', lk y σ.loc = some sv' → ∃ v', ml y = some v' ∧ AR (Pz h' ow) X.w ρ v' sv' := fun y sv' e => let ⟨v', e1, e2⟩ := l y sv' e; ⟨v', e1, e2.mono hp (pfx ρ)⟩
  cases hc : X.comp with
  | none =>
   have hl := O.here hc
   obtain rfl := c1 hc
   exact ⟨_, _, F', by rw [hl]; exact F'.ns, fun _ => rfl, fun m q => (by cases q), ln⟩
  | some mm =>
   obtain ⟨t1, t2⟩ := O.there mm hc
   obtain ⟨o, es, ep, e, r⟩ := n
   exact ⟨mf, ml, F', ⟨o, es, ep, kp _ _ e t1, r⟩, fun q => (by cases q), fun m q => c2 m (hc.trans q), ln⟩
 ·obtain ⟨ob, e3, e4⟩ := S.cel i a so e1 e2
  exact ⟨ob, kp a ob e3 (S.off a (List.mem_of_getElem? e1)).2.2.1, e4.mono hp (pfx ρ)⟩
noncomputable def cU : List SV → Option (List Int)
 | [] => some []
 | .int y :: r => (cU r).map (y :: ·)
 | _ => none
theorem gy {P : Addr → Obj → Prop} {w : World} : ∀ {l : List SV} {vs : List Value} {ns : List Int}, VRs P w vs l → cU l = some ns → IntsAre vs ns := by
 intro l
 induction l with
 | nil =>
  intro vs ns r e
  obtain rfl := r.i
  obtain rfl := Option.some.inj e
  exact .nil
 | cons d ds ih =>
  intro vs ns r e
  obtain ⟨v, r', rfl, h, rs⟩ := r.i
  induction d using SV.casesOn with
  | int y =>
   obtain ⟨t, rfl⟩ := h.i
   change (cU ds).map (y :: ·) = some ns at e
   generalize q : cU ds = o at e
   induction o using Option.casesOn with
   | none => exact aw e
   | some l =>
    obtain rfl := Option.some.inj e
    exact .cons _ _ (ih rs q)
  | _ => exact aw e
noncomputable def isInt : SV → Option Bool
 | .int _ => some true
 | .bytes _ => some false
 | .tup _ => some false
 | _ => none
noncomputable def Bk : SV → Option Bool
 | .int _ => some false
 | .bytes _ => some false
 | .tup _ => some true
 | _ => none
noncomputable def mr (n : Int) : Bool := decide (0 ≤ n) && decide (n < 256)
noncomputable def Dk (a : AV) (k : SV → Prop) : Prop := match a with
 | .v (.lst l) => Gd (Nat.ble l.length 16384) (k (.int l.length))
 | .v (.tup l) => Gd (Nat.ble l.length 16384) (k (.int l.length))
 | .v (.bytes l) => Gd (Nat.ble l.length 1099511627776) (k (.int l.length))
 | _ => False
noncomputable def CH (as : List AV) (k : SV → Prop) : Prop := match as with
 | [.v (.int n)] => k (.rng 0 n 1)
 | [.v (.int a), .v (.int b)] => k (.rng a b 1)
 | [.v (.int a), .v (.int b), .v (.int c)] => Gd (!decide (c = 0) && smB c) (k (.rng a b c))
 | _ => False
noncomputable def oq (a : SV) (k : SV → Prop) : Prop := match a with
 | .lst l => (match cU l with | some ns => Gd (ns.all mr && Nat.ble ns.length 16384) (k (.bytes (ns.map fun n => n.toNat.toUInt8))) | none => False)
 | _ => False
noncomputable def DB (a : SV) (t : Ty) (k : SV → Prop) : Prop := match t with
 | .int => (match isInt a with | some b => k (.bool b) | none => False)
 | .tuple => (match Bk a with | some b => k (.bool b) | none => False)
 | _ => False
noncomputable def biD (f : Bi) (as : List AV) (k : SV → Prop) : Prop := match f with
 | .len => (match as with | [a] => Dk a k | _ => False)
 | .min => (match as with | [.v (.int a), .v (.int b)] => k (.int (match decide (b < a) with | true => b | false => a)) | _ => False)
 | .sum => (match as with | [.v (.lst l)] => (match cU l with | some ns => k (.int ns.sum) | none => False) | _ => False)
 | .isi => (match as with | [.v a, .v (.ty t)] => DB a t k | _ => False)
noncomputable def tyD (f : Ty) (as : List AV) (σ : SS) (k : SV → Prop) : Prop := match f with
 | .range => CH as k
 | .bytes => (match as with | [.v a] => oq a k | _ => False)
 | .tuple => (match as with
  | [.v (.lst l)] => Gd (Nat.ble l.length 16384) (k (.tup l))
  | [.c i] => (match σ.cel[i]? with | some (.lst l) => Gd (Nat.ble l.length 16384) (k (.tup l)) | _ => False)
  | _ => False)
 | .list => (match as with
  | [.v (.tup l)] => Gd (Nat.ble l.length 16384) (k (.lst l))
  | [.v (.lst l)] => Gd (Nat.ble l.length 16384) (k (.lst l))
  | _ => False)
 | .int => (match as with | [.v (.bool b)] => k (.int (match b with | true => 1 | false => 0)) | _ => False)
 | _ => False
theorem dK {ow : Addr → Prop} {ρ : List Addr} {s : Shared} (S : SR X ow ρ s.heap σ) {Q : Value → Shared → Prop} {v : Value} {d : SV} {tk : Nat} (r : VR (Pz s.heap ow) X.w v d) (k : K (.v d) σ)
  (q : ∀ (a : Value) (b : AV) (σ' : SS) (ow' : Addr → Prop) (ρ' : List Addr) (h' : Heap) (tk' : Nat), Ex X ow ρ s.heap ow' ρ' h' → SR X ow' ρ' h' σ' → RV X ow' ρ' h' a b → K b σ' → Q a { s with heap := h', toks := tk' }) : Q v { s with toks := tk } :=
 q _ _ σ ow ρ s.heap tk .refl S (.v r) k
theorem d0 {f : Value} {a : AV} (h : ∀ ow ρ s v, SR X ow ρ s.heap σ → AR (Pz s.heap ow) X.w ρ v a → aL X ow ρ s (RV X) (call f [v]) K) : aB X f [a] σ K := fun ow ρ s vs S R => by
 obtain ⟨v, _, rfl, r, rs⟩ := R.i
 obtain rfl := rs.i
 exact h ow ρ s v S r
theorem pd {f : Value} {a b : AV} (h : ∀ ow ρ s v u, SR X ow ρ s.heap σ → AR (Pz s.heap ow) X.w ρ v a → AR (Pz s.heap ow) X.w ρ u b → aL X ow ρ s (RV X) (call f [v, u]) K) : aB X f [a, b] σ K := fun ow ρ s vs S R => by
 obtain ⟨v, _, rfl, r, rs⟩ := R.i
 obtain ⟨u, _, rfl, r2, rs⟩ := rs.i
 obtain rfl := rs.i
 exact h ow ρ s v u S r r2
theorem y3 {f : Value} {a b c : AV} (h : ∀ ow ρ s v u x, SR X ow ρ s.heap σ → AR (Pz s.heap ow) X.w ρ v a → AR (Pz s.heap ow) X.w ρ u b → AR (Pz s.heap ow) X.w ρ x c → aL X ow ρ s (RV X) (call f [v, u, x]) K) : aB X f [a, b, c] σ K := fun ow ρ s vs S R => by
 obtain ⟨v, _, rfl, r, rs⟩ := R.i
 obtain ⟨u, _, rfl, r2, rs⟩ := rs.i
 obtain ⟨x, _, rfl, r3, rs⟩ := rs.i
 obtain rfl := rs.i
 exact h ow ρ s v u x S r r2 r3
theorem xQ {a : AV} (h : Dk a fun v => K (.v v) σ) : aB X (.builtin "len") [a] σ K := by
 refine d0 fun ow ρ s v S r Q E q => ?_
 induction a using AV.casesOn with
 | c i => exact False.elim h
 | v x => induction x using SV.casesOn with
  | lst l =>
   obtain ⟨g, h⟩ := Gd.out h
   obtain ⟨a, vs, n, rfl, e, r1⟩ := bF r.inv
   have g := Nat.le_of_ble_eq_true g
   refine len_list (ay e) (by rw [List.size_toArray, r1.length]; lia) ?_
   rw [List.size_toArray, r1.length]
   exact dK S (.int _ _) h q
  | tup l =>
   obtain ⟨g, h⟩ := Gd.out h
   obtain ⟨a, vs, n, rfl, e, r1⟩ := cD r.inv
   have g := Nat.le_of_ble_eq_true g
   refine len_tuple (bW e) (by rw [List.size_toArray, r1.length]; lia) ?_
   rw [List.size_toArray, r1.length]
   exact dK S (.int _ _) h q
  | bytes l =>
   obtain ⟨g, h⟩ := Gd.out h
   obtain ⟨t, rfl⟩ := r.inv.bytes_inv
   exact W.len_bytes (Nat.le_of_ble_eq_true g) (dK S (.int _ _) h q)
  | _ => exact False.elim h
theorem vG {as : List AV} (h : CH as fun v => K (.v v) σ) : aB X (.type "range") as σ K := by
 have fin : ∀ {ow : Addr → Prop} {ρ : List Addr} {s : Shared} {Q : Value → Shared → Prop} {a b c : Int} {t1 t2 t3 : Tok} {tk : Nat}, SR X ow ρ s.heap σ → (∀ (v : Value) (d : AV) (σ' : SS) (ow' : Addr → Prop) (ρ' : List Addr) (h' : Heap) (tk' : Nat), Ex X ow ρ s.heap ow' ρ' h' → SR X ow' ρ' h' σ' → RV X ow' ρ' h' v d → K d σ' → Q v { s with heap := h', toks := tk' }) →
   K (.v (.rng a b c)) σ → Q (.ref s.heap.objs.size) { s with heap := s.heap.push { cls := .type "range", data := .fields #[.int a t1, .int b t2, .int c t3] }, toks := tk } := fun S q k =>
  q _ _ σ _ _ _ _ (.push _) (S.push _) (.v (.rng (S.fresh _ rfl))) k
 induction as using List.casesOn with
 | nil => exact False.elim h
 | cons a as => induction a using AV.casesOn with
  | c i => exact False.elim h
  | v a => induction a using SV.casesOn with
   | int a => induction as using List.casesOn with
    | nil =>
     refine d0 fun ow ρ s v S r Q E q => ?_
     obtain ⟨t, rfl⟩ := r.inv.int_inv
     exact call_range_1 (fin S q h)
    | cons b as => induction b using AV.casesOn with
     | c i => exact False.elim h
     | v b => induction b using SV.casesOn with
      | int b => induction as using List.casesOn with
       | nil =>
        refine pd fun ow ρ s v u S r r2 Q E q => ?_
        obtain ⟨t, rfl⟩ := r.inv.int_inv
        obtain ⟨u, rfl⟩ := r2.inv.int_inv
        exact call_range_2 (fin S q h)
       | cons c as => induction c using AV.casesOn with
        | c i => exact False.elim h
        | v c => induction c using SV.casesOn with
         | int c => induction as using List.casesOn with
          | cons _ _ => exact False.elim h
          | nil =>
           obtain ⟨g, h⟩ := Gd.out h
           obtain ⟨g1, g2⟩ := Bool.and_eq_true_iff.mp g
           refine y3 fun ow ρ s v u x S r r2 r3 Q E q => ?_
           obtain ⟨t, rfl⟩ := r.inv.int_inv
           obtain ⟨u, rfl⟩ := r2.inv.int_inv
           obtain ⟨v, rfl⟩ := r3.inv.int_inv
           refine call_range_3 (by simpa using g1) (fin S q h) (.inl ?_)
           have h2 := li (Nat.le_of_ble_eq_true g2)
           unfold Builtin.divisionGoesByPylong
           have : (if (c == 0) = true then 0 else c.natAbs.log2 / 30 + 1) ≤ 300 := by split <;> lia
           simp only [Bool.and_eq_false_iff]
           left
           exact decide_eq_false (by lia)
         | _ => exact False.elim h
      | _ => exact False.elim h
   | _ => exact False.elim h
theorem rX {a : SV} (h : oq a fun v => K (.v v) σ) : aB X (.type "bytes") [.v a] σ K := by
 induction a using SV.casesOn with
 | lst l =>
  unfold oq at h
  dsimp only at h
  generalize e : cU l = o at h
  induction o using Option.casesOn with
  | none => exact False.elim h
  | some ns =>
   refine d0 fun ow ρ s v S r Q E q => ?_
   obtain ⟨g, h⟩ := Gd.out h
   obtain ⟨g1, g2⟩ := Bool.and_eq_true_iff.mp g
   have g2 := Nat.le_of_ble_eq_true g2
   obtain ⟨a, vs, n, rfl, e1, r1⟩ := bF r.inv
   have hi := gy r1 e
   refine call_bytes_ints (ay e1) hi (fun n hn => ?_) (by rw [hi.length]; exact Nat.le_trans g2 (by decide)) rfl fun h' t k hk => ?_
   ·have := List.all_eq_true.mp g1 n hn
    simpa [mr] using this
   ·exact q _ _ σ ow ρ h' k (.grow hk) (S.grow hk) (.v (.bytes _ _)) h
 | _ => exact False.elim h
theorem wK {a : SV} {t : Ty} (h : DB a t fun v => K (.v v) σ) : aB X (.builtin "isinstance") [.v a, .v (.ty t)] σ K := by
 refine pd fun ow ρ s v u S r r2 Q E q => ?_
 have r2 := r2.inv
 induction t using Ty.casesOn with
 | int =>
  obtain rfl := r2.i
  induction a using SV.casesOn with
  | int n => obtain ⟨t, rfl⟩ := r.inv.int_inv; exact kia_one (K := []) kitx_int (fun _ _ e => by cases e) trivial (by kernel_rfl) (fun e => nomatch e) fun tk => ans S h q
  | bytes n => obtain ⟨t, rfl⟩ := r.inv.bytes_inv; exact kia_one (K := []) kitx_bytes (fun _ _ e => by cases e) trivial (by kernel_rfl) (fun e => nomatch e) fun tk => ans S h q
  | tup l => obtain ⟨a, vs, n, rfl, p, r1⟩ := cD r.inv; exact kia_one (K := []) kitx_tuple (fun _ _ e => by cases e) ⟨_, p, rfl⟩ (by kernel_rfl) (fun e => nomatch e) fun tk => ans S h q
  | _ => exact False.elim h
 | tuple =>
  obtain rfl := r2.i
  induction a using SV.casesOn with
  | int n => obtain ⟨t, rfl⟩ := r.inv.int_inv; exact kia_one (K := []) kitx_int (fun _ _ e => by cases e) trivial (by kernel_rfl) (fun e => nomatch e) fun tk => ans S h q
  | bytes n => obtain ⟨t, rfl⟩ := r.inv.bytes_inv; exact kia_one (K := []) kitx_bytes (fun _ _ e => by cases e) trivial (by kernel_rfl) (fun e => nomatch e) fun tk => ans S h q
  | tup l => obtain ⟨a, vs, n, rfl, p, r1⟩ := cD r.inv; exact kia_one (K := []) kitx_tuple (fun _ _ e => by cases e) ⟨_, p, rfl⟩ (by kernel_rfl) (fun e => nomatch e) fun tk => ans S h q
  | _ => exact False.elim h
 | _ => exact False.elim h
theorem t9 {f : Bi} {as : List AV} (O : X.Ok) (h : biD f as fun v => K (.v v) σ) : aB X (.builtin f.id) as σ K := by
 induction f using Bi.casesOn with
 | len => induction as using List.casesOn with
  | nil => exact False.elim h
  | cons a as => induction as using List.casesOn with
   | nil => exact xQ h
   | cons _ _ => exact False.elim h
 | min => induction as using List.casesOn with
  | nil => exact False.elim h
  | cons a as => induction a using AV.casesOn with
   | c i => exact False.elim h
   | v a => induction a using SV.casesOn with
    | int x => induction as using List.casesOn with
     | nil => exact False.elim h
     | cons b as => induction b using AV.casesOn with
      | c i => exact False.elim h
      | v b => induction b using SV.casesOn with
       | int y => induction as using List.casesOn with
        | cons _ _ => exact False.elim h
        | nil =>
         refine pd fun ow ρ s v u S r r2 Q E q => ?_
         obtain ⟨t, rfl⟩ := r.inv.int_inv
         obtain ⟨u, rfl⟩ := r2.inv.int_inv
         refine Flt.min_two_num rfl (.int _ _) (.int _ _) fun h' tk hk => ?_
         show Q (if decide (y < x) = true then _ else _) _
         unfold biD at h
         dsimp only at h
         generalize decide (y < x) = d at h ⊢
         induction d using Bool.casesOn
         ·exact q _ _ σ ow ρ h' tk (.grow hk) (S.grow hk) (.v (.int _ _)) h
         ·exact q _ _ σ ow ρ h' tk (.grow hk) (S.grow hk) (.v (.int _ _)) h
       | _ => exact False.elim h
    | _ => exact False.elim h
 | sum => induction as using List.casesOn with
  | nil => exact False.elim h
  | cons a as => induction a using AV.casesOn with
   | c i => exact False.elim h
   | v a => induction a using SV.casesOn with
    | lst l => induction as using List.casesOn with
     | cons _ _ => exact False.elim h
     | nil =>
      unfold biD at h
      dsimp only at h
      generalize e : cU l = o at h
      induction o using Option.casesOn with
      | none => exact False.elim h
      | some ns =>
       refine d0 fun ow ρ s v S r Q E q => ?_
       obtain ⟨a, vs, n, rfl, e1, r1⟩ := bF r.inv
       obtain ⟨mf, news, F, N, new, back⟩ := S.frame O
       refine LSm.sum_ints F N rfl (ay e1) (gy r1 e) fun h' tk t' F' N' => ?_
       obtain ⟨S', ex⟩ := back h' news F' N' fun _ m => m
       exact q _ _ σ ow ρ h' tk ex S' (.v (.int _ _)) h
    | _ => exact False.elim h
 | isi => induction as using List.casesOn with
  | nil => exact False.elim h
  | cons a as => induction a using AV.casesOn with
   | c i => exact False.elim h
   | v a => induction as using List.casesOn with
    | nil => exact False.elim h
    | cons b as => induction b using AV.casesOn with
     | c i => exact False.elim h
     | v b => induction b using SV.casesOn with
      | ty t => induction as using List.casesOn with
       | cons _ _ => exact False.elim h
       | nil => exact wK h
      | _ => exact False.elim h
theorem ib {ow : Addr → Prop} {ρ : List Addr} {s : Shared} {a : Addr} {vs : List Value} {n : Nat} {l : List SV} (S : SR X ow ρ s.heap σ) (e1 : s.heap.get? a = some (listOf vs.toArray n)) (r1 : VRs (Pz s.heap ow) X.w vs l) (g : l.length ≤ 16384) (h : K (.v (.tup l)) σ) : aL X ow ρ s (RV X) (call (.type "tuple") [.ref a]) K := by
 intro Q E q
 refine call_tuple_list (ay e1) (fun h' hk => ?_) (by rw [List.size_toArray, r1.length]; exact Nat.le_trans g (by decide))
 have S' := S.grow hk
 exact q _ _ σ ow ρ _ s.toks ((Ex.grow hk).trans (.push _)) (S'.push _) (.v (.tup (S'.fresh (cB vs 0) rfl) (S'.vrs (.push _) (S.vrs (.grow hk) r1)))) h
theorem m5 {l : List SV} (h : Gd (Nat.ble l.length 16384) (K (.v (.tup l)) σ)) : aB X (.type "tuple") [.v (.lst l)] σ K := by
 obtain ⟨g, h⟩ := h.out
 refine d0 fun ow ρ s v S r => ?_
 obtain ⟨a, vs, n, rfl, e1, r1⟩ := bF r.inv
 exact ib S e1 r1 (Nat.le_of_ble_eq_true g) h
theorem lE {l : List SV} {i : Nat} (hl : σ.cel[i]? = some (.lst l)) (h : Gd (Nat.ble l.length 16384) (K (.v (.tup l)) σ)) : aB X (.type "tuple") [.c i] σ K := by
 obtain ⟨g, h⟩ := h.out
 refine d0 fun ow ρ s v S r => ?_
 obtain ⟨_, rfl, hr⟩ := r.i
 obtain ⟨ob, e1, e2⟩ := S.cel _ _ _ hr hl
 obtain ⟨_, _, rfl, r1⟩ := e2.i
 exact ib S e1 r1 (Nat.le_of_ble_eq_true g) h
theorem nn (O : X.Ok) {l : List SV} (h : Gd (Nat.ble l.length 16384) (K (.v (.lst l)) σ)) : aB X (.type "list") [.v (.tup l)] σ K := by
 obtain ⟨g, h⟩ := h.out
 refine d0 fun ow ρ s v S r Q E q => ?_
 obtain ⟨a, vs, n, rfl, e1, r1⟩ := cD r.inv
 obtain ⟨mf, news, F, N, new, back⟩ := S.frame O
 refine list_copyKT F N (bW e1) (fun D c h' F' N' lt => ?_) (by rw [List.size_toArray, r1.length]; exact Nat.le_trans (Nat.le_of_ble_eq_true g) (by decide))
 obtain ⟨S', ex⟩ := back h' _ F' N' fun _ m => .tail _ m
 have nD : ¬ ow D := fun hD => let ⟨o, e⟩ := S.low D hD; new D o e (N' _ (.head _)).2.1 (N' _ (.head _)).2.2 lt
 exact q _ _ σ ow ρ h' s.toks ex S' (.v (.lst ⟨(N' _ (.head _)).1, nD⟩ (S.vrs ex r1))) h
theorem nQ (O : X.Ok) {l : List SV} (h : Gd (Nat.ble l.length 16384) (K (.v (.lst l)) σ)) : aB X (.type "list") [.v (.lst l)] σ K := by
 obtain ⟨g, h⟩ := h.out
 refine d0 fun ow ρ s v S r Q E q => ?_
 obtain ⟨a, vs, n, rfl, e1, r1⟩ := bF r.inv
 obtain ⟨mf, news, F, N, new, back⟩ := S.frame O
 refine list_copyK F N (ay e1) (fun D c h' F' N' lt => ?_) (by rw [List.size_toArray, r1.length]; exact Nat.le_trans (Nat.le_of_ble_eq_true g) (by decide))
 obtain ⟨S', ex⟩ := back h' _ F' N' fun _ m => .tail _ m
 have nD : ¬ ow D := fun hD => let ⟨o, e⟩ := S.low D hD; new D o e (N' _ (.head _)).2.1 (N' _ (.head _)).2.2 lt
 exact q _ _ σ ow ρ h' s.toks ex S' (.v (.lst ⟨(N' _ (.head _)).1, nD⟩ (S.vrs ex r1))) h
theorem om {b : Bool} (h : K (.v (.int (match b with | true => 1 | false => 0))) σ) : aB X (.type "int") [.v (.bool b)] σ K := by
 refine d0 fun ow ρ s v S r Q E q => ?_
 obtain rfl := r.inv.i
 refine call_int_bool ?_
 induction b using Bool.casesOn
 ·exact dK S (.int _ _) h q
 ·exact dK S (.int _ _) h q
theorem zC {f : Ty} {as : List AV} (O : X.Ok) (h : tyD f as σ fun v => K (.v v) σ) : aB X (.type f.id) as σ K := by
 induction f using Ty.casesOn with
 | range => exact vG h
 | bytes => induction as using List.casesOn with
  | nil => exact False.elim h
  | cons a as => induction a using AV.casesOn with
   | c i => exact False.elim h
   | v a => induction as using List.casesOn with
    | nil => exact rX h
    | cons _ _ => exact False.elim h
 | tuple => induction as using List.casesOn with
  | nil => exact False.elim h
  | cons a as => induction as using List.casesOn with
   | cons _ _ => induction a using AV.casesOn with
    | c i => exact False.elim h
    | v a => induction a using SV.casesOn <;> exact False.elim h
   | nil => induction a using AV.casesOn with
    | c i =>
     unfold tyD at h
     dsimp only at h
     generalize hl : σ.cel[i]? = o at h
     induction o using Option.casesOn with
     | none => exact False.elim h
     | some o => induction o using aa.casesOn with
      | lst l => exact lE hl h
      | _ => exact False.elim h
    | v a => induction a using SV.casesOn with
     | lst l => exact m5 h
     | _ => exact False.elim h
 | list => induction as using List.casesOn with
  | nil => exact False.elim h
  | cons a as => induction a using AV.casesOn with
   | c i => exact False.elim h
   | v a => induction a using SV.casesOn with
    | tup l => induction as using List.casesOn with
     | nil => exact nn O h
     | cons _ _ => exact False.elim h
    | lst l => induction as using List.casesOn with
     | nil => exact nQ O h
     | cons _ _ => exact False.elim h
    | _ => exact False.elim h
 | int => induction as using List.casesOn with
  | nil => exact False.elim h
  | cons a as => induction a using AV.casesOn with
   | c i => exact False.elim h
   | v a => induction a using SV.casesOn with
    | bool b => induction as using List.casesOn with
     | nil => exact om h
     | cons _ _ => exact False.elim h
    | _ => exact False.elim h
 | _ => exact False.elim h
end
end
section
section
variable {X : Fx} {σ : SS} {K : AV → SS → Prop}
noncomputable def f7 (e : Expr) : Bool := exC false (e := e) (slice := fun _ _ _ _ => true)
theorem aU {slice : Expr} {o i : Value} (h : f7 slice = false) : subscripted slice false o i = operate [o, i] (getItem o i) := by
 induction slice using Expr.casesOn <;> first | rfl | cases h
noncomputable def xO (l : List SV) (i : SV) (k : SV → Prop) : Prop := eG i fun z => pD z fun j => dz l[j]? fun d => Gd (Nat.ble l.length 16384) (k d)
noncomputable def Fq (l : List (SV × SV)) (i : SV) (k : SV → Prop) : Prop := SV.casesOn (motive_1 := fun _ => Prop) i False (fun _ => False) (fun x => dz (oB x l) fun o => dz o k) (fun x => dz (jJ x l) fun o => dz o k) (fun _ => False) (fun _ => False) (fun _ => False) (fun _ => False) (fun _ _ _ => False) (fun _ => False) (fun _ => False) fun _ => False
noncomputable def Bl (a i : SV) (k : SV → Prop) : Prop := SV.casesOn (motive_1 := fun _ => Prop) a False (fun _ => False) (fun _ => False) (fun x => eG i fun z => pD z fun j => dz x.cps[j]? fun c => Gd (Nat.ble x.length 16384) (k (.str ⟨#[c]⟩)))
 (fun l => eG i fun n => Gd (decide (0 ≤ n) && decide (n < l.length) && Nat.ble l.length 1099511627776) (k (.int (l.getD n.toNat 0).toNat))) (fun l => xO l i k) (fun l => xO l i k) (fun l => Fq l i k) (fun _ _ _ => False) (fun _ => False) (fun _ => False) fun _ => False
noncomputable def getD (a i : AV) (σ : SS) (k : SV → Prop) : Prop := AV.casesOn a (fun a => asV i fun i => Bl a i k) fun n => dz σ.cel[n]? fun o => uR o fun l => asV i fun i => xO l i k
theorem ji {l : List SV} {i : SV} {k : SV → Prop} (h : xO l i k) : ∃ j d, i = .int (.ofNat j) ∧ l[j]? = some d ∧ l.length ≤ 16384 ∧ k d := by
 obtain ⟨_, rfl, h⟩ := bD h
 obtain ⟨j, rfl, h⟩ := dM h
 obtain ⟨d, e, h⟩ := aX h
 exact ⟨j, d, rfl, e, Nat.le_of_ble_eq_true h.out.1, h.out.2⟩
noncomputable def Cw (X : Fx) (value slice : Expr) (a i : AV) (σ : SS) (K : AV → SS → Prop) : Prop :=
 ∀ ow ρ s va vi, SR X ow ρ s.heap σ → AR (Pz s.heap ow) X.w ρ va a → AR (Pz s.heap ow) X.w ρ vi i → aL X ow ρ s (RV X) (subscriptTail value slice va vi) K
theorem ig {j n : Nat} (h : j < n) : seqIndex? (Int.ofNat j) n = some j := by
 unfold seqIndex?
 have h1 : ¬ (Int.ofNat j < 0) := by simp
 simp only [h1, if_false]
 have : (decide (0 ≤ Int.ofNat j) && decide (Int.ofNat j < (n : Int))) = true := by simp; lia
 rw [if_pos this]; rfl
theorem qh {value slice : Expr} (hs : f7 slice = false) {ow : Addr → Prop} {ρ : List Addr} {s : Shared} {a : Addr} {vs : List Value} {n : Nat} {l : List SV} {j : Nat} {u : Tok} {d : SV} (S : SR X ow ρ s.heap σ) (e : s.heap.get? a = some (listOf vs.toArray n)) (r1 : VRs (Pz s.heap ow) X.w vs l) (hd : l[j]? = some d) (g : l.length ≤ 16384) (h : K (.v d) σ) :
  aL X ow ρ s (RV X) (subscriptTail value slice (.ref a) (.int (.ofNat j) u)) K := by
 intro Q E q
 obtain ⟨v, e2, r2⟩ := r1.get hd
 have hj := (List.getElem?_eq_some_iff.mp hd).1
 exact tail_any (ay e).typeIs slot_list_getitem.lookup (wpAny_getItem_list (ay e) (by simp) (by simp; lia) (by simpa using e2) (dK S r2 h q)) (aU hs)
theorem wz {value slice : Expr} (hs : f7 slice = false) {a i : SV} (h : Bl a i fun v => K (.v v) σ) : Cw X value slice (.v a) (.v i) σ K := by
 intro ow ρ s va vi S ra ri
 replace ra := ra.inv
 replace ri := ri.inv
 refine hide fun Gz0 bk0 => ?_
 induction a using SV.casesOn with
 | tup l =>
  obtain ⟨j, d, rfl, hd, g, h⟩ := ji h
  obtain ⟨b, vs, n, rfl, e, r1⟩ := cD ra
  obtain ⟨u, rfl⟩ := ri.int_inv
  obtain ⟨v, e2, r2⟩ := r1.get hd
  have hj := (List.getElem?_eq_some_iff.mp hd).1
  refine bk0 fun Q E q => ?_
  exact tail_any (dJ e).typeIs slot_tuple_getitem.lookup (getItem_tuple (bW e) (by first | (simp; done) | (simp; lia)) (by simp; lia) (ig (by rw [List.size_toArray, r1.length]; exact hj)) (by simpa using e2) (dK S r2 h q)) (aU hs)
 | lst l =>
  obtain ⟨j, d, rfl, hd, g, h⟩ := ji h
  obtain ⟨b, vs, n, rfl, e, r1⟩ := bF ra
  obtain ⟨u, rfl⟩ := ri.int_inv
  exact bk0 (qh hs S e r1 hd g h)
 | bytes l =>
  obtain ⟨n, rfl, h⟩ := bD h
  obtain ⟨g, h⟩ := h.out
  obtain ⟨g, g3⟩ := Bool.and_eq_true_iff.mp g
  obtain ⟨g1, g2⟩ := Bool.and_eq_true_iff.mp g
  obtain ⟨t, rfl⟩ := ra.bytes_inv
  obtain ⟨u, rfl⟩ := ri.int_inv
  refine bk0 fun Q E q => ?_
  exact tail_any (typeIs_bytes _ _ _) FB.slot_bytes_getitem.lookup (getItem_bytes (Nat.le_of_ble_eq_true g3) (of_decide_eq_true g1) (of_decide_eq_true g2) (dK S (.int _ _) h q)) (aU hs)
 | dic l =>
  obtain ⟨b, es, m, rfl, e1, lo, dr⟩ := lm ra
  induction i using SV.casesOn with
  | str x =>
   obtain ⟨o, e, h⟩ := aX h
   obtain ⟨d, rfl, h⟩ := aX h
   obtain ⟨u, rfl⟩ := ri.str_inv
   obtain ⟨hk, v, hf, r2⟩ := dr.strs e
   have hm := wQ (w := X.w) e1 hk
   refine bk0 fun Q E q => ?_
   exact tail_any hm.typeIs slot_dict_getitem.lookup (wpAny_getItem_of (strKind_is _ _ _ u) hm hf (dK S r2 h q)) (aU hs)
  | int x =>
   obtain ⟨o, e, h⟩ := aX h
   obtain ⟨d, rfl, h⟩ := aX h
   obtain ⟨u, rfl⟩ := ri.int_inv
   obtain ⟨hk, v, hf, r2⟩ := dr.ints e
   have hm := zR (w := X.w) e1 hk
   refine bk0 fun Q E q => ?_
   exact tail_any hm.typeIs slot_dict_getitem.lookup (wpAny_getItem_of (intKind_is _ _ _ u) hm hf (dK S r2 h q)) (aU hs)
  | _ => exact False.elim h
 | str x =>
  obtain ⟨_, rfl, h⟩ := bD h
  obtain ⟨j, rfl, h⟩ := dM h
  obtain ⟨c, hc, h⟩ := aX h
  obtain ⟨g, h⟩ := h.out
  have g := Nat.le_of_ble_eq_true g
  obtain ⟨t, rfl⟩ := ra.str_inv
  obtain ⟨u, rfl⟩ := ri.int_inv
  have hj : j < x.length := (Array.getElem?_eq_some_iff.mp hc).1
  refine bk0 fun Q E q => ?_
  refine tail_any (typeIs_str s x t) PyProof.Rows.slot_str_getitem.lookup (PyProof.Rows.getItem_str (c := c) ?_ ?_ (dK S (.str _ _) h q)) (aU hs)
  ·simp; lia
  ·rw [ig hj]; exact hc
 | _ => exact False.elim h
theorem w6 {value slice : Expr} (hs : f7 slice = false) {a i : AV} (h : getD a i σ fun v => K (.v v) σ) : Cw X value slice a i σ K := by
 induction a using AV.casesOn with
 | v a =>
  obtain ⟨i, rfl, h⟩ := bj h
  exact wz hs h
 | c n =>
  intro ow ρ s va vi S ra ri
  refine hide fun Gz0 bk0 => ?_
  obtain ⟨o, hl, h⟩ := aX h
  obtain ⟨l, rfl, h⟩ := kt h
  obtain ⟨i, rfl, h⟩ := bj h
  obtain ⟨j, d, rfl, hd, g, h⟩ := ji h
  replace ra := ra.i; obtain ⟨_, rfl, hr⟩ := ra
  obtain ⟨ob, e1, e2⟩ := S.cel _ _ _ hr hl
  replace e2 := e2.i; obtain ⟨_, _, rfl, r1⟩ := e2
  obtain ⟨u, rfl⟩ := ri.inv.int_inv
  exact bk0 (qh hs S e1 r1 hd g h)
theorem zB {value slice : Expr} {pos : Pos} (hs : f7 slice = false) (h : JE X value σ fun a σ1 => JE X slice σ1 fun i σ2 => getD a i σ2 fun v => K (.v v) σ2) : JE X (.Subscript value slice pos) σ K := by
 intro ow ρ s S Q E q
 refine Subscript_ (h ow ρ s S _ _ fun a sa σ1 ow1 ρ1 hz1 tk1 ez1 S1 rz1 kz1 => kz1 ow1 ρ1 { s with heap := hz1, toks := tk1 } S1 _ _ fun b sb σ2 ow2 ρ2 hz2 tk2 ez2 S2 rz2 kz2 => ?_)
 exact w6 hs kz2 ow2 ρ2 { s with heap := hz2, toks := tk2 } a b S2 (S1.ar ez2 rz1) rz2 _ _ fun v sv σ3 ow3 ρ3 hz3 tk3 ez3 S3 rz3 kz3 => q v sv σ3 ow3 ρ3 hz3 tk3 ((ez1.trans ez2).trans ez3) S3 rz3 kz3
end
end
section
section
variable {X : Fx} {σ : SS} {K : AV → SS → Prop}
noncomputable def cV {α : Type} (l : List α) (lo hi : Option Int) : List α := (l.drop (lo.elim 0 (clipAt l.length))).take (hi.elim l.length (clipAt l.length) - lo.elim 0 (clipAt l.length))
noncomputable def yc (lo hi : Option Int) (k : Nat → Prop) : Prop := dz lo fun z => pD z fun n => Nat.casesOn n False fun j => Option.casesOn hi (k j) fun _ => False
theorem qW {lo hi : Option Int} {k : Nat → Prop} (h : yc lo hi k) : ∃ j, lo = some (.ofNat (j + 1)) ∧ hi = none ∧ k j := by
 replace h := aX h
 obtain ⟨z, rfl, h⟩ := h
 replace h := dM h
 obtain ⟨n, rfl, h⟩ := h
 induction n using Nat.casesOn with
 | zero => exact False.elim h
 | succ j => induction hi using Option.casesOn with
  | none => exact ⟨j, rfl, rfl, h⟩
  | some _ => exact False.elim h
noncomputable def yV (a : AV) (lo hi : Option Int) (k : SV → Prop) : Prop := AV.casesOn a (fun d => SV.casesOn (motive_1 := fun _ => Prop) d False (fun _ => False) (fun _ => False) (fun _ => False) (fun l => Gd (Nat.ble l.length 16777216) (k (.bytes (cV l lo hi))))
 (fun l => yc lo hi fun j => Gd (Nat.ble (j + 1) l.length && Nat.ble l.length 16384) (k (.tup (l.drop (j + 1))))) (fun l => Gd (Nat.ble l.length 16777216) (k (.lst (cV l lo hi)))) (fun _ => False) (fun _ _ _ => False) (fun _ => False) (fun _ => False) fun _ => False) fun _ => False
inductive Fn (a : AV) (lo hi : Option Int) (k : SV → Prop) : Prop
 | tup (l : List SV) (j : Nat) (_ : a = .v (.tup l)) (_ : lo = some (.ofNat (j + 1))) (_ : hi = none) (_ : j + 1 ≤ l.length) (_ : l.length ≤ 16384) (_ : k (.tup (l.drop (j + 1))))
 | lst (l : List SV) (_ : a = .v (.lst l)) (_ : l.length ≤ 16777216) (_ : k (.lst (cV l lo hi)))
 | bytes (l : List UInt8) (_ : a = .v (.bytes l)) (_ : l.length ≤ 16777216) (_ : k (.bytes (cV l lo hi)))
theorem ue {a : AV} {lo hi : Option Int} {k : SV → Prop} (h : yV a lo hi k) : Fn a lo hi k := by
 induction a using AV.casesOn with
 | c _ => exact False.elim h
 | v d => induction d using SV.casesOn with
  | tup l =>
   replace h := qW h
   obtain ⟨j, rfl, rfl, h⟩ := h
   replace h := h.out
   obtain ⟨g, h⟩ := h
   obtain ⟨g1, g2⟩ := Bool.and_eq_true_iff.mp g
   exact .tup l j rfl rfl rfl (Nat.le_of_ble_eq_true g1) (Nat.le_of_ble_eq_true g2) h
  | lst l => exact .lst l rfl (Nat.le_of_ble_eq_true (Gd.out h).1) (Gd.out h).2
  | bytes l => exact .bytes l rfl (Nat.le_of_ble_eq_true (Gd.out h).1) (Gd.out h).2
  | _ => exact False.elim h
noncomputable def gW (a : AV) (k : Int → Prop) : Prop := asV a fun d => eG d k
theorem gp {P : Addr → Obj → Prop} {w : World} {ρ : List Addr} {v : Value} {a : AV} {k : Int → Prop} (r : AR P w ρ v a) (h : gW a k) : ∃ i t, v = .int i t ∧ k i := by
 replace h := bj h
 obtain ⟨_, rfl, h⟩ := h
 replace h := bD h
 obtain ⟨i, rfl, h⟩ := h
 obtain ⟨t, rfl⟩ := r.inv.int_inv
 exact ⟨i, t, rfl, h⟩
noncomputable def ip (X : Fx) (o : Option Expr) (σ : SS) (K : Option Int → SS → Prop) : Prop := ∀ ow ρ s, SR X ow ρ s.heap σ → aL X ow ρ s (fun _ _ _ => IsPart) (evalPart o X.env) K
theorem nZ {K : Option Int → SS → Prop} (h : K none σ) : ip X none σ K := fun ow ρ s S Q E q => by
 rw [evalPart_none]; exact wpAny_pure (q _ _ σ ow ρ s.heap s.toks .refl S .none h)
theorem po {e : Expr} {K : Option Int → SS → Prop} (h : JE X e σ fun a σ1 => gW a fun i => K (some i) σ1) : ip X (some e) σ K := fun ow ρ s S Q E q => by
 rw [evalPart_some]
 refine h ow ρ s S _ _ fun a sa σ1 ow1 ρ1 hz1 tk1 ez1 S1 rz1 kz1 => ?_
 obtain ⟨i, t, rfl, k⟩ := gp rz1 kz1
 exact q _ _ σ1 ow1 ρ1 hz1 tk1 ez1 S1 (.int _ _) k
theorem pH {v : Value} {j : Int} (h : IsPart v (some j)) : ∃ t, v = .int j t := by cases h; exact ⟨_, rfl⟩
theorem nj {v : Value} (h : IsPart v none) : v = .none := by cases h; rfl
theorem sM {value : Expr} {lo hi : Option Expr} {p pos : Pos} (h : JE X value σ fun a σ1 => ip X lo σ1 fun i σ2 => ip X hi σ2 fun j σ3 => yV a i j fun v => K (.v v) σ3) : JE X (.Subscript value (.Slice lo hi none p) pos) σ K := by
 intro ow ρ s S Q E q
 refine Subscript_ (h ow ρ s S _ _ fun a sa σ1 ow1 ρ1 hz1 tk1 ez1 S1 rz1 kz1 => wpAny_Slice (kz1 ow1 ρ1 { s with heap := hz1, toks := tk1 } S1 _ _ fun vl i σ2 ow2 ρ2 hz2 tk2 ez2 S2 pl kz2 => kz2 ow2 ρ2 { s with heap := hz2, toks := tk2 } S2 _ _ fun vu j σ3 ow3 ρ3 hz3 tk3 ez3 S3 pu kz3 => ?_))
 rw [evalPart_none]
 refine wpAny_pure ?_
 have r := (S1.ar (ez2.trans ez3) rz1)
 have ex := (ez1.trans ez2).trans ez3
 have S' := S3.push { cls := .type "slice", data := .fields #[vl, vu, .none] }
 have r' := S3.ar (.push { cls := .type "slice", data := .fields #[vl, vu, .none] }) r
 have sl := Heap.IsSliceOf.new hz3 vl vu .none
 have hs : ∀ o, subscripted (.Slice lo hi none p) false o (.ref hz3.objs.size) = operate [.ref hz3.objs.size, o] (getItem o (.ref hz3.objs.size)) := fun o => rfl
 replace kz3 := ue kz3
 rcases kz3 with ⟨l, j, e1, e2, e3, g1, g2, k⟩ | ⟨l, e1, g, k⟩ | ⟨l, e1, g, k⟩
 ··refine hide fun Gz0 bk0 => ?_
   subst e1 e2 e3
   obtain ⟨b, vs, n, rfl, e, rr⟩ := cD r'.inv
   obtain ⟨t, rfl⟩ := pH pl
   obtain rfl := nj pu
   refine bk0 ?_; clear bk0 Gz0
   refine tail_any (dJ e).typeIs slot_tuple_getitem.lookup (getItem_tuple_from (a := j + 1) (bW e) sl (Nat.le_add_left 1 _) (by rw [List.size_toArray, rr.length]; exact g1) ?_ (by rw [List.size_toArray, rr.length]; exact Nat.le_trans g2 (by decide))) (hs _)
   exact q _ _ σ3 ow3 ρ3 _ _ ((ex.trans (.push _)).trans (.push _)) (S'.push _) (.v (.tup (S'.fresh (cB (vs.drop (j + 1)) 0) rfl) (S'.vrs (.push _) (rr.drop _)))) k
 ·refine hide fun Gz0 bk0 => ?_
  subst e1
  obtain ⟨b, vs, n, rfl, e, rr⟩ := bF r'.inv
  refine bk0 ?_; clear bk0 Gz0
  refine tail_any (ay e).typeIs slot_list_getitem.lookup (wpAny_getItem_list_slice (ay e) sl pl pu .none (by simp) ?_ (by rw [List.size_toArray, rr.length]; exact Nat.le_trans g (by decide))) (hs _)
  have hz : vs.toArray.size = l.length := by rw [List.size_toArray, rr.length]
  rw [slicePick_plain, hz]
  exact q _ _ σ3 ow3 ρ3 _ _ ((ex.trans (.push _)).trans (.push _)) (S'.push _) (.v (.lst (S'.fresh (listOf _ 0) rfl) (S'.vrs (.push _) ((rr.drop _).take _)))) k
 ·refine hide fun Gz0 bk0 => ?_
  subst e1
  obtain ⟨t, rfl⟩ := r.inv.bytes_inv
  refine bk0 ?_; clear bk0 Gz0
  refine tail_any (typeIs_bytes _ _ _) FB.slot_bytes_getitem.lookup (getItem_meets (typeIs_bytes _ _ _) (by decide) FB.slot_bytes_getitem FB.entry_bytes_getitem (FB.args_bytes_getitem_2 _ _) (KBc.meets_slice2 ⟨l⟩ t _ pl pu)
   ⟨sl, Nat.le_trans (KBc.size_picked_le _ _ _) (Nat.le_trans g (by decide)), fun t' tk => ?_⟩) (hs _)
  have e : KBy.picked ⟨l⟩ i j = ⟨cV l i j⟩ := KBc.picked_eq _ _ _
  rw [e]
  exact q _ _ σ3 ow3 ρ3 _ _ (ex.trans (.push _)) S' (.v (.bytes _ _)) k
theorem SR.ground {ow : Addr → Prop} {ρ : List Addr} {h : Heap} (O : X.Ok) (S : SR X ow ρ h σ) : ∃ mf, Fr X.hz0 X.L h mf ∧ ∀ (h' : Heap) (ρ' : List Addr) (σc : List aa), Fr X.hz0 X.L h' mf → (∀ a ∈ ρ', a ∈ ρ) → (∀ b o, h.get? b = some o → b ≠ X.L → b ∉ ρ' → h'.get? b = some o) → (∀ b o, h.get? b = some o → ∃ o', h'.get? b = some o') →
  ρ.length = σc.length → (∀ (i : Nat) (a : Addr) (o : aa), ρ[i]? = some a → σc[i]? = some o → ∃ ob, h'.get? a = some ob ∧ OR (Pz h' ow) X.w ρ ob o) → SR X ow ρ h' ⟨σ.loc, σc⟩ ∧ Ex X ow ρ h ow ρ h' := by
 obtain ⟨mf, ml, F, n, c1, c2, l⟩ := S.fr
 refine ⟨mf, F, fun h' ρ' σc F' sub kp lv len cel => ?_⟩
 have hp : ∀ b o, Pz h ow b o → Pz h' ow b o := fun b o e => ⟨kp b o e.1 (fun q => e.2 (q ▸ S.owL)) (fun m => e.2 (S.off b (sub b m)).1), e.2⟩
 refine ⟨⟨?_, len, cel, S.nd, S.off, S.owL, S.owl, fun a q => let ⟨o, e⟩ := S.low a q; lv a o e, S.var, fun a x e => hp a x (S.kf a x e)⟩, fun _ q => q, fun _ q => .inl q, pfx ρ, fun _ q => .inl q, fun b o e n1 _ n3 => kp b o e n3 fun m => n1 (sub b m), lv⟩
 have ln : ∀ y sv', lk y σ.loc = some sv' → ∃ v', ml y = some v' ∧ AR (Pz h' ow) X.w ρ v' sv' := fun y sv' e => let ⟨v', e1, e2⟩ := l y sv' e; ⟨v', e1, e2.mono hp (pfx ρ)⟩
 cases hc : X.comp with
 | none =>
  have hl := O.here hc
  obtain rfl := c1 hc
  exact ⟨_, _, F', by rw [hl]; exact F'.ns, fun _ => rfl, fun m q => (by cases q), ln⟩
 | some mm =>
  obtain ⟨t1, t2⟩ := O.there mm hc
  obtain ⟨o, es, ep, e, r⟩ := n
  exact ⟨mf, ml, F', ⟨o, es, ep, kp _ _ e t1 (fun m => (S.off _ (sub _ m)).2.2.2 rfl), r⟩, fun q => (by cases q), fun m q => c2 m (hc.trans q), ln⟩
noncomputable def flk (x : Str) : List (Str × SV) → Option SV
 | [] => none
 | p :: r => match Fast.sEq x p.1 with
  | true => some p.2
  | false => flk x r
noncomputable def rZ (x : Str) (v : SV) : List (Str × SV) → List (Str × SV)
 | [] => [(x, v)]
 | p :: r => match Fast.sEq x p.1 with
  | true => (p.1, v) :: r
  | false => p :: rZ x v r
theorem kM (x y : Str) (t : Tok) : (Value.str y t).isStr x = Fast.sEq x y := by
 show (y == x) = _
 rw [iC]
 by_cases h : y = x
 ·subst h; rfl
 ·rw [cT h, cT (Ne.symm h)]
theorem ER.noRef {P : Addr → Obj → Prop} {w : World} {es : List DictEntry} {fs : List (Str × SV)} (h : ER P w es fs) : es.any (·.refKey) = false := by
 induction h with
 | nil => rfl
 | cons _ _ ih => rw [List.any_cons, ih]; rfl
theorem ER.getL {P : Addr → Obj → Prop} {w : World} {x : Str} {es : List DictEntry} {fs : List (Str × SV)} (h : ER P w es fs) : (match flk x fs with | some d => ∃ v, getL x es = some (some v) ∧ VR P w v d | none => getL x es = some none) := by
 induction h with
 | nil => rfl
 | cons hv r ih =>
  rename_i y t v sv es fs
  have e : W.getL x (⟨PyData.keyHash w.params y, .str y t, v⟩ :: es) = if Fast.sEq x y = true then some (some v) else W.getL x es := by
   have nr := r.noRef
   unfold W.getL
   rw [List.find?_cons]
   rw [kM]
   cases Fast.sEq x y
   ·simp only [List.any_cons, nr]
    rfl
   ·rfl
  show (match (match Fast.sEq x y with | true => some sv | false => flk x fs) with | some d => ∃ v', W.getL x _ = some (some v') ∧ VR P w v' d | none => W.getL x _ = some none)
  rw [e]
  cases Fast.sEq x y
  ·exact ih
  ·exact ⟨_, rfl, hv⟩
end
end
section
section
variable {X : Fx} {σ : SS} {K : AV → SS → Prop}
structure dT (w : World) (C : Addr) (name : Str) : Prop where
 g : plainGet (tp.heap_1 w.params) C name = true
 h : hasDictIn (tp.heap_1 w.params) C = true
 a : ∃ attr, findIn (tp.heap_1 w.params) (.ref C) name = some attr ∧ noGet (tp.heap_1 w.params) attr = true
 s : findIn (tp.heap_1 w.params) (.ref C) "__setattr__" = some (some (.builtin "object.__setattr__"))
 p : plainOver (tp.heap_1 w.params) C = true
 t : takerIn (tp.heap_1 w.params) C name = some none
structure dD (w : World) (C : Addr) (name : Str) (f : Addr) : Prop where
 g : plainGet (tp.heap_1 w.params) C name = true
 m : findIn (tp.heap_1 w.params) (.ref C) name = some (some (.ref f))
 t : isFn (tp.heap_1 w.params) (.ref f) = true
 k : keepIn (tp.heap_1 w.params) (.ref f) = true
theorem VR.handed {P : Addr → Obj → Prop} {w : World} {v : Value} {d : SV} (r : VR P w v d) (hb : ∀ b, d ≠ .bi b) : handedIn v = true := by
 induction r using VR.casesOn <;> first | rfl | exact absurd rfl (hb _)
theorem l5 {ow : Addr → Prop} {ρ : List Addr} {h : Heap} {i C j : Nat} {a : Addr} {fs : List (Str × SV)} (S : SR X ow ρ h σ) (hr : ρ[i]? = some a) (h1 : σ.cel[i]? = some (.inst C j)) (h2 : σ.cel[j]? = some (.idict fs)) :
  ∃ dx es n, ρ[j]? = some dx ∧ h.get? a = some (instObj C dx) ∧ h.get? dx = some (dictOf es n) ∧ ER (Pz h ow) X.w es fs ∧ InstAt h a (instObj C dx) C (some (dictOf es n)) := by
 obtain ⟨ob, e1, e2⟩ := S.cel i a _ hr h1
 replace e2 := e2.i; obtain ⟨_, rfl, hj⟩ := e2
 obtain ⟨ob2, e3, e4⟩ := S.cel j _ _ hj h2
 replace e4 := e4.i; obtain ⟨_, _, rfl, r⟩ := e4
 exact ⟨_, _, _, hj, e1, e3, r, e1, rfl, rfl, e3⟩
noncomputable def vL : SV → Bool
 | .bi _ => true
 | _ => false
noncomputable def JAt (X : Fx) (name : Str) (a : AV) (σ : SS) (K : AV → SS → Prop) : Prop := ∀ ow ρ s va, SR X ow ρ s.heap σ → AR (Pz s.heap ow) X.w ρ va a → aL X ow ρ s (RV X) (getAttr va name true) K
inductive BH (a : AV) (σ : SS) (k : Addr → Nat → List (Str × SV) → Prop) : Prop
 | mk (i : Nat) (C : Addr) (j : Nat) (fs : List (Str × SV)) (_ : a = .c i) (_ : σ.cel[i]? = some (.inst C j)) (_ : σ.cel[j]? = some (.idict fs)) (_ : k C j fs)
noncomputable def kD (a : AV) (σ : SS) (k : Addr → Nat → List (Str × SV) → Prop) : Prop := AV.casesOn a (fun _ => False) fun i => dz σ.cel[i]? fun o => aa.casesOn o (fun _ => False) (fun C j => dz σ.cel[j]? fun o => aa.casesOn o (fun _ => False) (fun _ _ => False) (k C j) (fun _ => False) False fun _ => False) (fun _ => False) (fun _ => False) False fun _ => False
theorem fy {a : AV} {σ : SS} {k : Addr → Nat → List (Str × SV) → Prop} (h : kD a σ k) : BH a σ k := by
 induction a using AV.casesOn with
 | v _ => exact False.elim h
 | c i =>
  obtain ⟨o, e1, h⟩ := aX h
  induction o using aa.casesOn with
  | inst C j =>
   obtain ⟨o, e2, h⟩ := aX h
   induction o using aa.casesOn <;> first | exact False.elim h | exact ⟨_, _, _, _, rfl, e1, e2, h⟩
  | _ => exact False.elim h
theorem fR {a : AV} {σ : SS} {k k' : Addr → Nat → List (Str × SV) → Prop} (h : kD a σ k) (f : ∀ C j fs, k C j fs → k' C j fs) : kD a σ k' := by
 obtain ⟨i, C, j, fs, rfl, e1, e2, h'⟩ := fy h
 show dz σ.cel[i]? _
 rw [e1]
 show dz σ.cel[j]? _
 rw [e2]
 exact f _ _ _ h'
theorem rP {α : Type} {o : Option α} {k k' : α → Prop} (h : dz o k) (f : ∀ x, k x → k' x) : dz o k' := by
 induction o using Option.casesOn with
 | none => exact h
 | some x => exact f x h
noncomputable def rk (name : Str) (a : AV) (σ : SS) (k : Addr → SV → Prop) : Prop := kD a σ fun C _ fs => dz (flk name fs) (k C)
theorem pX {name : Str} {a : AV} (O : X.Ok) (h : rk name a σ fun C d => dT X.w C name ∧ vL d = false ∧ K (.v d) σ) : JAt X name a σ K := by
 intro ow ρ s va S ra Q E q
 refine hide fun Gz0 bk0 => ?_
 replace h := fy h
 obtain ⟨i, C, j, fs, rfl, h1, h2, h⟩ := h
 obtain ⟨d, e, h⟩ := aX h
 replace ra := ra.i; obtain ⟨_, rfl, hr⟩ := ra
 obtain ⟨dx, es, n, _, _, _, er, I⟩ := l5 S hr h1 h2
 obtain ⟨fo, hb, k⟩ := h
 have gl := er.getL (x := name)
 rw [e] at gl
 obtain ⟨v, gl, rv⟩ := gl
 obtain ⟨attr, a1, a2⟩ := fo.a
 obtain ⟨mf, F, _⟩ := S.ground O
 exact bk0 (get_own F O.K I fo.g fo.h a1 a2 gl (rv.handed fun b q => by rw [q] at hb; cases hb) (dK S rv k q))
theorem wD {value : Expr} {attr : Str} {pos : Pos} (he : ∀ env, eval (.Attribute value attr pos) env = (do let o ← eval value env; standAt pos.atName; let r ← holding [o] (getAttr o attr true); letTemporaryGo value o r; pure r)) (h : JE X value σ fun a σ1 => JAt X attr a σ1 K) : JE X (.Attribute value attr pos) σ K := by
 intro ow ρ s S Q E q
 refine Attribute_any_ (h ow ρ s S _ _ fun a sa σ1 ow1 ρ1 hz1 tk1 ez1 S1 rz1 kz1 => ?_) (he _)
 exact kz1 ow1 ρ1 { s with heap := hz1, toks := tk1 } a S1 rz1 _ _ fun v sv σ2 ow2 ρ2 hz2 tk2 ez2 S2 rz2 kz2 => q v sv σ2 ow2 ρ2 hz2 tk2 (ez1.trans ez2) S2 rz2 kz2
theorem sN {x attr : Str} {px pos : Pos} (h : JE X (.Name x px) σ fun a σ1 => JAt X attr a σ1 K) : JE X (.Attribute (.Name x px) attr pos) σ K := wD (fun _ => rfl) h
theorem xw {P : Addr → Obj → Prop} {w : World} {x : Str} {hsh : Int} {t : Tok} {v : Value} {d : SV} (hh : hsh = PyData.keyHash w.params x) (rv : VR P w v d) {es : List DictEntry} {fs : List (Str × SV)} (h : ER P w es fs) : ER P w (putL x hsh (.str x t) v es) (rZ x d fs) := by
 induction h with
 | nil => subst hh; exact .cons rv .nil
 | cons hv r ih =>
  rename_i y t' v' sv es fs
  show ER P w (if (Value.str y t').isStr x = true then _ else _) (match Fast.sEq x y with | true => _ | false => _)
  rw [kM]
  cases Fast.sEq x y
  ·exact .cons hv ih
  ·exact .cons rv r
theorem im (x : Str) (v : SV) : ∀ fs : List (Str × SV), (rZ x v fs).length ≤ fs.length + 1
 | [] => Nat.le_refl _
 | p :: r => by
  unfold rZ
  cases Fast.sEq x p.1
  ·exact Nat.succ_le_succ (im x v r)
  ·exact Nat.le_succ _
theorem ER.length {P : Addr → Obj → Prop} {w : World} {es : List DictEntry} {fs : List (Str × SV)} (h : ER P w es fs) : es.length = fs.length := by
 induction h with
 | nil => rfl
 | cons _ _ ih => rw [List.length_cons, List.length_cons, ih]
theorem ER.some_get {P : Addr → Obj → Prop} {w : World} {x : Str} {es : List DictEntry} {fs : List (Str × SV)} (h : ER P w es fs) : (W.getL x es).isSome = true := by
 have := h.getL (x := x)
 split at this
 ·obtain ⟨v, e, _⟩ := this; rw [e]; rfl
 ·rw [this]; rfl
noncomputable def oH (name : Str) (a : AV) (v : SV) (σ : SS) (k : Addr → SS → Prop) : Prop := kD a σ fun C j fs => Gd (Nat.ble fs.length 900) (k C ⟨σ.loc, σ.cel.set j (.idict (rZ name v fs))⟩)
noncomputable def kN (X : Fx) (name : Str) (a : AV) (v : AV) (σ : SS) (K : SS → Prop) : Prop := ∀ ow ρ s va vv, SR X ow ρ s.heap σ → AR (Pz s.heap ow) X.w ρ va a → AR (Pz s.heap ow) X.w ρ vv v → aL X ow ρ s RU (setAttr va name vv) (fun _ => K)
theorem wx {name : Str} {a : AV} {v : SV} {K : SS → Prop} (O : X.Ok) (h : oH name a v σ fun C σ' => dT X.w C name ∧ K σ') : kN X name a (.v v) σ K := by
 intro ow ρ s va vv S ra rv Q E q
 replace rv := rv.inv
 refine hide fun Gz0 bk0 => ?_
 replace h := fy h
 obtain ⟨i, C, j, fs, rfl, h1, h2, h⟩ := h
 obtain ⟨g, fo, k⟩ := h.out
 have g := Nat.le_of_ble_eq_true g
 replace ra := ra.i; obtain ⟨_, rfl, hr⟩ := ra
 rename_i a
 refine bk0 ?_; clear bk0 Gz0
 obtain ⟨dx, es, n, hj, ea, ed, er, I⟩ := l5 S hr h1 h2
 obtain ⟨mf, F, back⟩ := S.ground O
 obtain ⟨news, N, all⟩ := km X.hz0 s.heap X.L
 have od := S.off dx (List.mem_of_getElem? hj)
 have N' : News X.hz0 X.L s.heap ((dx, dictOf es n) :: news.filter fun p => !Nat.beq p.1 dx) := fun p hp => by
  rcases List.mem_cons.mp hp with rfl | hp
  ·exact ⟨ed, od.2.2.1, od.2.1⟩
  ·exact N p (List.mem_filter.mp hp).1
 have er' := xw (t := s.toks + 1) (hsh := PyData.keyHash X.w.params name) rfl rv er
 refine set_dict (es' := putL name (PyData.keyHash X.w.params name) (.str name (s.toks + 1)) vv es) (n' := putN name es n) F O.K N' I rfl fo.s fo.p fo.t fo.h er.some_get rfl (.head fun p hp e => ?_) (by rw [er'.length]; have := im name v fs; lia) fun h' F' M' => ?_
 ·have := (List.mem_filter.mp hp).2
  rw [e, Nat.beq_refl] at this; cases this
 ·have kp : ∀ b o, s.heap.get? b = some o → b ≠ X.L → b ∉ [dx] → h'.get? b = some o := fun b o e nb nd => by
   cases q : X.hz0.get? b with
   | some o' =>
    have := F.keep b o' q
    rw [e] at this; cases this
    exact F'.keep b _ q
   | none =>
    refine (M' (b, o) (.tail _ (List.mem_filter.mpr ⟨all b o e nb q, ?_⟩))).1
    cases z : Nat.beq b dx with
    | false => rfl
    | true => exact absurd (List.mem_singleton.mpr (Nat.eq_of_beq_eq_true z)) nd
  have gd := (M' _ (.head _)).1
  have lv : ∀ b o, s.heap.get? b = some o → ∃ o', h'.get? b = some o' := fun b o e => by
   by_cases hb : b = X.L
   ·obtain ⟨o', _, _, e', _⟩ := F'.ns; exact ⟨o', hb ▸ e'⟩
   ·by_cases hd : b = dx
    ·exact ⟨_, hd ▸ gd⟩
    ·exact ⟨o, kp b o e hb (fun m => hd (List.mem_singleton.mp m))⟩
  have sub : ∀ b ∈ [dx], b ∈ ρ := fun b m => by rw [List.mem_singleton.mp m]; exact List.mem_of_getElem? hj
  have hp : ∀ b o, Pz s.heap ow b o → Pz h' ow b o := fun b o e => ⟨kp b o e.1 (fun q => e.2 (q ▸ S.owL)) (fun m => e.2 (S.off b (sub b m)).1), e.2⟩
  obtain ⟨S', ex⟩ := back h' [dx] (σ.cel.set j (.idict (rZ name v fs))) F' sub kp lv (by rw [List.length_set]; exact S.len) fun m b o f1 f2 => by
   by_cases hm : j = m
   ·subst hm
    rw [hj] at f1; cases f1
    rw [List.getElem?_set_self (List.getElem?_eq_some_iff.mp h2).1] at f2; cases f2
    exact ⟨_, gd, .idict (er'.mono hp)⟩
   ·rw [List.getElem?_set_ne hm] at f2
    obtain ⟨ob, e3, e4⟩ := S.cel m b o f1 f2
    refine ⟨ob, kp b ob e3 (S.off b (List.mem_of_getElem? f1)).2.2.1 (fun z => hm ?_), e4.mono hp (pfx ρ)⟩
    rw [List.mem_singleton.mp z] at f1
    obtain ⟨l1, g1⟩ := List.getElem?_eq_some_iff.mp hj
    obtain ⟨l2, g2⟩ := List.getElem?_eq_some_iff.mp f1
    exact (List.getElem_inj S.nd).mp (g1.trans g2.symm)
  exact q () () _ ow ρ h' _ ex S' trivial k
theorem xX {o : Expr} {attr : Str} {pos : Pos} {v : AV} {K : SS → Prop} (h : JE X o σ fun a σ1 => kN X attr a v σ1 K) : JA X (.Attribute o attr pos) v σ K := by
 intro ow ρ s va S r Q E q
 refine kas_attr (h ow ρ s S _ _ fun a sa σ1 ow1 ρ1 hz1 tk1 ez1 S1 rz1 kz1 => ?_)
 exact kz1 ow1 ρ1 { s with heap := hz1, toks := tk1 } a va S1 rz1 (S.ar ez1 r) _ _ fun _ _ σ2 ow2 ρ2 hz2 tk2 ez2 S2 _ kz2 => q () () σ2 ow2 ρ2 hz2 tk2 (ez1.trans ez2) S2 trivial kz2
end
end
section
section
variable {X : Fx} {σ : SS} {K : AV → SS → Prop}
theorem gV {x : Str} {k : Nat} {pos : Pos} (h : K (.v (.str x)) σ) : JE X (.Constant (.str x) k pos) σ K := fun ow ρ s S Q E q => wpAny_Constant_str (dK S (.str _ _) h q)
theorem vP {k : Nat} {pos : Pos} (h : K (.v .none) σ) : JE X (.Constant .none k pos) σ K := fun ow ρ s S Q E q => wpAny_Constant_none (q _ _ σ ow ρ s.heap s.toks .refl S (.v .none) h)
theorem wi {b : Bool} {k : Nat} {pos : Pos} (h : K (.v (.bool b)) σ) : JE X (.Constant (.bool b) k pos) σ K := fun ow ρ s S Q E q => wpAny_Constant_bool (q _ _ σ ow ρ s.heap s.toks .refl S (.v (.bool b)) h)
theorem u6 {x : List UInt8} {k : Nat} {pos : Pos} (h : K (.v (.bytes x)) σ) : JE X (.Constant (.bytes x) k pos) σ K := fun ow ρ s S Q E q => Constant_bytes (dK S (.bytes x _) h q)
theorem yP {a b : Expr} {pos : Pos} (h : JE X a σ fun v σ1 => JTr X v σ1 fun c σ2 => Br c (v = v ∧ K v σ2) (JE X b σ2 K)) : JE X (.BoolOp .Or [a, b] pos) σ K := by
 intro ow ρ s S Q E q
 refine BoolOp_or (h ow ρ s S _ _ fun va sa σ1 ow1 ρ1 hz1 tk1 ez1 S1 rz1 kz1 => ?_)
 refine kz1 ow1 ρ1 { s with heap := hz1, toks := tk1 } va S1 rz1 _ _ fun c c' σ2 ow2 ρ2 hz2 tk2 ez2 S2 rz2 kz2 => ?_
 obtain rfl : c = c' := rz2
 induction c using Bool.casesOn
 ·rw [if_neg (by decide)]
  have one : eval (.BoolOp .Or [b] pos) X.env = eval b X.env := rfl
  rw [one]
  exact kz2 ow2 ρ2 { s with heap := hz2, toks := tk2 } S2 _ _ fun v sv σ3 ow3 ρ3 hz3 tk3 ez3 S3 rz3 kz3 => q v sv σ3 ow3 ρ3 hz3 tk3 ((ez1.trans ez2).trans ez3) S3 rz3 kz3
 ·rw [if_pos rfl]
  exact q va sa σ2 ow2 ρ2 hz2 tk2 (ez1.trans ez2) S2 (S1.ar ez2 rz1) kz2.2
theorem zq {x : Expr} {pos : Pos} (h : JE X x σ fun v σ1 => JTr X v σ1 fun b σ2 => K (.v (.bool (!b))) σ2) : JE X (.UnaryOp .Not x pos) σ K := jr (h.mono fun v σ1 k ow ρ s va S r Q E q =>
 not_value (k ow ρ s va S r _ _ fun b b' σ2 ow2 ρ2 hz2 tk2 ez2 S2 rz2 kz2 => by
  obtain rfl : b = b' := rz2
  exact q _ _ σ2 ow2 ρ2 hz2 tk2 ez2 S2 (.v (.bool _)) kz2))
theorem wL {x : Expr} {pos : Pos} (h : JE X x σ fun v σ1 => gW v fun i => K (.v (.int (-i))) σ1) : JE X (.UnaryOp .USub x pos) σ K := jr (h.mono fun v σ1 k ow ρ s va S r Q E q => by
 obtain ⟨i, t, rfl, k⟩ := gp r k
 exact PyProof.Rows.neg_int (dK S (.int _ _) k q))
noncomputable def mOk (args : List Expr) (apos pos : Pos) : Bool := az args && Nat.ble args.length 20 && Nat.beq apos.endLine pos.line
noncomputable def gH (e : Expr) : Bool := exC false (e := e) (name := fun _ _ => true) (con := fun _ _ _ => true)
theorem ya {env : Env} {args : List Expr} {apos pos : Pos} (h : mOk args apos pos = true) : methodCallForm (args.length + ([] : List Keyword).length) (backTo pos (starEach args env)) (backToKw pos (keywordEach [] env)) = true := by
 unfold mOk at h
 obtain ⟨h, h3⟩ := Bool.and_eq_true_iff.mp h
 obtain ⟨h1, h2⟩ := Bool.and_eq_true_iff.mp h
 have h2 := Nat.le_of_ble_eq_true h2
 have np := aC (env := env) (pos := pos) h1
 unfold methodCallForm
 have e1 : (backTo pos (starEach args env)).all (!·.1) = true := by
  rw [List.all_eq_true]
  intro x hx
  have := List.any_eq_false.mp np x hx
  simpa using this
 have e2 : (backToKw pos (keywordEach [] env)) = [] := rfl
 rw [e1, e2]
 simp
 omega
theorem yy {o : Expr} {name : Str} {apos pos : Pos} {args : List Expr} {env : Env} {M : Model} {A : Around} {s : Shared} {Q E : Value → Shared → Prop} (hb : gH o = true) (h : mOk args apos pos = true)
  (k : ∀ pl, wpAny M A (eval o env) (fun ov s₁ => wpAny M A (getMethod ov name pl) (fun fx sz2 => wpAny M A (callWith pos fx.1 fx.2 (backTo pos (starEach args env)) []) Q E sz2) E s₁) E s) : wpAny M A (eval (.Call (.Attribute o name apos) args [] pos) env) Q E s := by
 have ab : attributeBase o name env (eval o env) = eval o env := by induction o using Expr.casesOn <;> first | rfl | cases hb
 have e : eval (.Call (.Attribute o name apos) args [] pos) env = (do
  let ov ← attributeBase o name env (eval o env)
  standAt apos.atName
  methodCall o name apos pos env ov (args.length + ([] : List Keyword).length) (backTo pos (starEach args env)) (backToKw pos (keywordEach [] env))) := rfl
 have hl : (apos.endLine == pos.line) = true := by
  unfold mOk at h
  have := (Bool.and_eq_true_iff.mp h).2
  rw [Nat.eq_of_beq_eq_true this]; simp
 rw [e, ab]
 refine wpAny_bind (wpAny_mono (k (do return (← importBound o env).getD true)) (fun ov s₁ hz1 => wpAny_bind (wpAny_standAt ?_)) fun _ _ x => x)
 unfold methodCall
 rw [ya h]
 unfold calleeOf methodCallPos
 rw [hl]
 exact wpAny_bind (wpAny_holding (wpAny_mono hz1 (fun fx sz2 hz2 => wpAny_bind (wpAny_pure hz2)) fun _ _ x => x))
noncomputable def qu {α : Type} (o : Option α) (k : Prop) : Prop := Option.casesOn o k fun _ => False
theorem rS {α : Type} {o : Option α} {k : Prop} (h : qu o k) : o = none ∧ k := by
 induction o using Option.casesOn with
 | none => exact ⟨rfl, h⟩
 | some _ => exact False.elim h
theorem o7 {α : Type} {o : Option α} {k k' : Prop} (h : qu o k) (f : k → k') : qu o k' := by
 induction o using Option.casesOn with
 | none => exact f h
 | some _ => exact h
noncomputable def j8 (name : Str) (a : AV) (σ : SS) (k : Addr → Prop) : Prop := kD a σ fun C _ fs => qu (flk name fs) (k C)
theorem u9 {name : Str} {a : AV} {σ : SS} {C' : Addr → Prop} {ow : Addr → Prop} {ρ : List Addr} {s : Shared} {va : Value} {pl : Sem Bool} (O : X.Ok) (S : SR X ow ρ s.heap σ) (ra : AR (Pz s.heap ow) X.w ρ va a) (h : j8 name a σ C') : ∃ C, C' C ∧ ∀ f, dD X.w C name f → ∀ (Q : Value × List Value → Shared → Prop) (E : Value → Shared → Prop), Q (.ref f, [va]) s → wpAny (model af X.w) X.A (getMethod va name pl) Q E s := by
 replace h := fy h
 obtain ⟨i, C, j, fs, rfl, h1, h2, h⟩ := h
 obtain ⟨e, h⟩ := rS h
 replace ra := ra.i; obtain ⟨_, rfl, hr⟩ := ra
 obtain ⟨dx, es, n, _, _, _, er, I⟩ := l5 S hr h1 h2
 refine ⟨_, h, fun f m Q E q => ?_⟩
 have gl := er.getL (x := name)
 rw [e] at gl
 obtain ⟨mf, F, _⟩ := S.ground O
 exact method_inst F O.K I m.g m.m m.t gl q
noncomputable def JGm (X : Fx) (name : Str) (a : AV) (σ : SS) (id : String) : Prop := ∀ ow ρ s va pl, SR X ow ρ s.heap σ → AR (Pz s.heap ow) X.w ρ va a → ∀ (Q : Value × List Value → Shared → Prop) (E : Value → Shared → Prop), Q (.builtin id, [va]) s → wpAny (model af X.w) X.A (getMethod va name pl) Q E s
theorem mS {name : Str} {id : String} {i : Nat} {l : List SV} (slot : Slot "list" name id) (hty : typeOf (.builtin id) = pure (.type "method_descriptor")) (hl : σ.cel[i]? = some (.lst l)) : JGm X name (.c i) σ id := by
 intro ow ρ s va pl S ra Q E q
 replace ra := ra.i; obtain ⟨_, rfl, hr⟩ := ra
 obtain ⟨ob, e1, e2⟩ := S.cel _ _ _ hr hl
 replace e2 := e2.i; obtain ⟨_, _, rfl, r⟩ := e2
 exact getMethod_builtin ⟨_, e1, rfl⟩ PySem.F.plainAttrs_list slot hty (fun a e => by cases e; exact ⟨_, e1, rfl⟩) q
theorem v9 {l : List (SV × SV)} : JGm X "get" (.v (.dic l)) σ "dict.get" := by
 intro ow ρ s va pl S ra Q E q
 obtain ⟨a, es, n, rfl, e1, lo, dr⟩ := lm ra.inv
 exact getMethod_builtin ⟨_, e1, rfl⟩ PySem.F.plainAttrs_dict PySem.F.slot_dict_get PySem.F.type_dict_get (fun a e => by cases e; exact ⟨_, e1, rfl⟩) q
theorem wO {l : List SV} : JGm X "index" (.v (.tup l)) σ "tuple.index" := by
 intro ow ρ s va pl S ra Q E q
 obtain ⟨a, es, n, rfl, e1, dr⟩ := cD ra.inv
 exact getMethod_builtin ⟨_, e1, rfl⟩ PySem.F.plainAttrs_tuple PySem.F.slot_tuple_index PySem.F.type_tuple_index (fun a e => by cases e; exact ⟨_, e1, rfl⟩) q
theorem fU {h : Heap} {a : Addr} {vs : List Value} {n : Nat} (e : h.get? a = some (listOf vs.toArray n)) (f : Array Value → Array Value) : ∃ m, (h.update a (Obj.mapSeq f)).get? a = some (listOf (f vs.toArray) m) := ⟨_, IsL.update e f⟩
theorem oA {i : Nat} {l : List SV} {d : SV} (hl : σ.cel[i]? = some (.lst l)) (hz : l.length ≤ 1000) (h : K (.v .none) ⟨σ.loc, σ.cel.set i (.lst (l ++ [d]))⟩) : aB X (.builtin "list.append") [.c i, .v d] σ K := by
 intro ow ρ s vs S R Q E q
 replace R := R.i; obtain ⟨_, _, rfl, r, rs⟩ := R; replace rs := rs.i; obtain ⟨_, _, rfl, r2, rs⟩ := rs; replace rs := rs.i; obtain rfl := rs
 replace r := r.i; obtain ⟨_, rfl, hr⟩ := r
 rename_i a
 replace r2 := r2.inv
 rename_i v2
 obtain ⟨ob, e1, e2⟩ := S.cel _ _ _ hr hl
 replace e2 := e2.i; obtain ⟨_, _, rfl, r1⟩ := e2
 rename_i vs n
 refine call_meets PySem.F.slot_list_append ⟨_, e1, rfl⟩ PySem.F.entry_list_append (PySem.F.args_list_append_2 _ _) (list_append a vs.toArray n v2 (by rw [List.size_toArray, r1.length]; exact Nat.le_trans hz (by decide))) ⟨e1, ?_⟩
 obtain ⟨m, em⟩ := fU e1 (fun x => x.push v2)
 have e : vs.toArray.push v2 = (vs ++ [v2]).toArray := by simp
 rw [e] at em
 obtain ⟨S', ex⟩ := S.setCell hr (Heap.SameBut.update ..) em (.lst (r1.append (.cons r2 .nil)))
 exact q _ _ _ _ _ _ s.toks ex S' (.v .none) h
theorem oU {i : Nat} {l l2 : List SV} (hl : σ.cel[i]? = some (.lst l)) (hz : l.length + l2.length ≤ 1000) (h : K (.v .none) ⟨σ.loc, σ.cel.set i (.lst (l ++ l2))⟩) : aB X (.builtin "list.extend") [.c i, .v (.lst l2)] σ K := by
 intro ow ρ s vs S R Q E q
 replace R := R.i; obtain ⟨_, _, rfl, r, rs⟩ := R; replace rs := rs.i; obtain ⟨_, _, rfl, r2, rs⟩ := rs; replace rs := rs.i; obtain rfl := rs
 replace r := r.i; obtain ⟨_, rfl, hr⟩ := r
 rename_i a
 obtain ⟨b, ws, m, rfl, eb, r2⟩ := bF r2.inv
 obtain ⟨ob, e1, e2⟩ := S.cel _ _ _ hr hl
 replace e2 := e2.i; obtain ⟨_, _, rfl, r1⟩ := e2
 rename_i vs n
 have hsz' : vs.toArray.size + ws.toArray.size ≤ sizeLine := by rw [List.size_toArray, List.size_toArray, r1.length, r2.length]; exact Nat.le_trans hz (by decide)
 refine call_meets PySem.F.slot_list_extend ⟨_, e1, rfl⟩ PySem.F.entry_list_extend (PySem.F.args_list_extend_2 _ _) (AutoSeq1.list_extend_list_list_0 a vs.toArray n b ws.toArray m (extend_door hsz') (Nat.le_trans (Nat.le_add_right _ _) hsz')) ⟨e1, eb, ?_⟩
 obtain ⟨k, em⟩ := fU e1 (fun x => x ++ ws.toArray)
 have e : vs.toArray ++ ws.toArray = (vs ++ ws).toArray := by simp
 rw [e] at em
 obtain ⟨S', ex⟩ := S.setCell hr (Heap.SameBut.update ..) em (.lst (r1.append r2))
 exact q _ _ _ _ _ _ s.toks ex S' (.v .none) h
theorem vy {l : List (SV × SV)} {x : Str} {d : SV} {o : Option SV} (ho : jJ x l = some o) (h : K (.v (o.getD d)) σ) : aB X (.builtin "dict.get") [.v (.dic l), .v (.str x), .v d] σ K := by
 intro ow ρ s vs S R Q E q
 replace R := R.i; obtain ⟨_, _, rfl, r, rs⟩ := R; replace rs := rs.i; obtain ⟨_, _, rfl, r2, rs⟩ := rs; replace rs := rs.i; obtain ⟨_, _, rfl, r3, rs⟩ := rs; replace rs := rs.i; obtain rfl := rs
 obtain ⟨a, es, n, rfl, e1, lo, dr⟩ := lm r.inv
 obtain ⟨t, rfl⟩ := r2.inv.str_inv
 replace r3 := r3.inv
 obtain ⟨hk, hf⟩ := dr.strs ho
 have hm := wQ (w := X.w) e1 hk
 refine call_meetsIn PySem.F.slot_dict_get hm.typeIs PySem.F.entry_dict_get (PySem.F.args_dict_get_3 _ _ _) (meets_dict_get_default _ a (strKind_is _ _ x t) lo _) ⟨_, hm, ?_⟩
 induction o using Option.casesOn with
 | none =>
  have hf : findBy Value.isStrOf es.toArray x = none := hf
  rw [hf]
  exact dK S r3 h q
 | some d' =>
  obtain ⟨v, hf, rv⟩ := hf
  rw [hf]
  exact dK S rv h q
end
end
section
section
variable {X : Fx} {σ : SS} {K : AV → SS → Prop}
theorem jK {prog : Program} {w : World} {A : Around} {E : Value → Shared → Prop} {s : Shared} {l : Addr} {items : Array Value} {n : Nat} {k : Int} {t : Tok} {v : Value} {Q : Unit → Shared → Prop} (ho : s.heap.get? l = some (listOf items n)) (h0 : 0 ≤ k) (hfit : k < 2 ^ 63) (hn : k < items.size)
  (hQ : ∀ h' m, h'.get? l = some (listOf (items.setIfInBounds k.toNat v) m) → Heap.SameBut l s.heap h' → Q () { s with heap := h' }) :
  wpAny (model prog w) A (setItem (.ref l) (.int k t) v) Q E s := by
 have hl : s.heap.IsList l items := ⟨_, ho, rfl, n, rfl⟩
 unfold setItem
 try with_reducible refine wpAny_holding ?_
 first | refine wpAny_bind (wpAny_pure ?_) | skip
 refine wpAny_bind (wpAny_sequenceKey hl.typeIs (by decide) ?_)
 refine wpAny_bind (wpAny_callSpecial?_slot (name := Str.ofString "__setitem__") hl.typeIs PySem.slot_list_setitem
  (wpAny_call_entry PySem.slot_list_setitem hl.typeIs PySem.entry_list_setitem ?_ (PySem.args_list_setitem _ _ _)))
 show wpAny _ _ (Builtin.List.listSubscript? (.int k t) >>= _) _ _ s
 refine wpAny_bind (wpAny_listSubscript_int (fitsIndex_of h0 hfit) ?_)
 clear hfit
 obtain ⟨j, rfl⟩ := Int.eq_ofNat_of_zero_le h0
 have hj : j < items.size := by lia
 have hx' : items[j]? = some items[j] := Array.getElem?_eq_getElem hj
 refine wpAny_bind (wpAny_bind (wpAny_seqItemAt ho rfl (wpAny_pure ?_)))
 rw [hx']
 have hfin := IsL.update (l := l) (items := items) (n := n) ho (·.setIfInBounds j v)
 refine wpAny_bind (wpAny_setSeqItemAt ho rfl ?_)
 first
  | exact wpAny_bind (wpAny_pure (wpAny_pure ⟨.none, rfl, wpAny_pure (hQ _ _ hfin (Heap.SameBut.update ..))⟩))
  | exact wpAny_pure ⟨.none, rfl, wpAny_pure (hQ _ _ hfin (Heap.SameBut.update ..))⟩
noncomputable def tg (a i : AV) (v : SV) (σ : SS) (k : SS → Prop) : Prop := AV.casesOn a (fun _ => False) fun n => dz σ.cel[n]? fun o => uR o fun l => asV i fun d => eG d fun z => pD z fun j => Gd (Nat.blt j l.length && Nat.ble l.length 1000) (k ⟨σ.loc, σ.cel.set n (.lst (l.set j v))⟩)
theorem VRs.set {P : Addr → Obj → Prop} {w : World} {v : Value} {d : SV} (rv : VR P w v d) : ∀ {vs : List Value} {l : List SV} (j : Nat), VRs P w vs l → VRs P w (vs.set j v) (l.set j d)
 | _, _, _, .nil => .nil
 | _, _, 0, .cons _ r => .cons rv r
 | _, _, j + 1, .cons h r => .cons h (VRs.set rv j r)
noncomputable def nU (X : Fx) (a i v : AV) (σ : SS) (K : SS → Prop) : Prop := ∀ ow ρ s va vi vv, SR X ow ρ s.heap σ → AR (Pz s.heap ow) X.w ρ va a → AR (Pz s.heap ow) X.w ρ vi i → AR (Pz s.heap ow) X.w ρ vv v → aL X ow ρ s RU (setItem va vi vv) (fun _ => K)
theorem j0 {a i : AV} {v : SV} {K : SS → Prop} (h : tg a i v σ K) : nU X a i (.v v) σ K := by
 intro ow ρ s va vi vv S ra ri rv Q E q
 replace rv := rv.inv
 induction a using AV.casesOn with
 | v _ => exact False.elim h
 | c n =>
  refine hide fun Gz0 bk0 => ?_
  replace h := aX h
  obtain ⟨o, hl, h⟩ := h
  replace h := kt h
  obtain ⟨l, rfl, h⟩ := h
  replace h := bj h
  obtain ⟨_, rfl, h⟩ := h
  replace h := bD h
  obtain ⟨_, rfl, h⟩ := h
  replace h := dM h
  obtain ⟨j, rfl, h⟩ := h
  replace h := h.out
  obtain ⟨g, h⟩ := h
  obtain ⟨g1, g2⟩ := Bool.and_eq_true_iff.mp g
  have g1 := Nat.le_of_ble_eq_true g1
  have g2 := Nat.le_of_ble_eq_true g2
  replace ra := ra.i; obtain ⟨_, rfl, hr⟩ := ra
  obtain ⟨u, rfl⟩ := ri.inv.int_inv
  obtain ⟨ob, e1, e2⟩ := S.cel _ _ _ hr hl
  replace e2 := e2.i; obtain ⟨vs, n, rfl, r1⟩ := e2
  refine bk0 ?_; clear bk0 Gz0
  refine jK e1 (Int.natCast_nonneg j) (by simp; lia) (by rw [List.size_toArray, r1.length]; simp; exact g1) fun h' m em hs => ?_
  have e : vs.toArray.setIfInBounds (Int.ofNat j).toNat vv = (vs.set j vv).toArray := by simp
  rw [e] at em
  obtain ⟨S', ex⟩ := S.setCell hr hs em (.lst (VRs.set rv j r1))
  exact q () () _ _ _ _ s.toks ex S' trivial h
theorem xR {o value : Expr} {attr : Str} {tpos pos : Pos} {K : SF → SS → Prop} (h : JE X o σ fun a σ1 => JAt X attr a σ1 fun old σ2 => JE X value σ2 fun v σ3 => gW old fun x => gW v fun y => kN X attr a (.v (.int (x + y))) σ3 fun σ4 => K .next σ4) : JS X (.AugAssign (.Attribute o attr tpos) .Add value pos) σ K := by
 intro ow ρ s S Q E q
 refine wpAny_AugAssign_AttributeAny (h ow ρ s S _ _ fun a sa σ1 ow1 ρ1 hz1 tk1 ez1 S1 rz1 kz1 => ?_)
 refine kz1 ow1 ρ1 { s with heap := hz1, toks := tk1 } a S1 rz1 _ _ fun b sb σ2 ow2 ρ2 hz2 tk2 ez2 S2 rz2 kz2 => ?_
 refine kz2 ow2 ρ2 { s with heap := hz2, toks := tk2 } S2 _ _ fun c sc σ3 ow3 ρ3 hz3 tk3 ez3 S3 rz3 kz3 => ?_
 refine hide fun Gz0 bk0 => ?_
 obtain ⟨x, t, rfl, kz3⟩ := gp rz2 kz3
 obtain ⟨y, u, rfl, kz3⟩ := gp rz3 kz3
 refine bk0 ?_; clear bk0 Gz0
 refine iadd_int ?_
 have ex := (ez1.trans ez2).trans ez3
 exact kz3 ow3 ρ3 { s with heap := hz3, toks := tk3 + 1 } a _ S3 (S1.ar (ez2.trans ez3) rz1) (.v (.int _ _)) _ _ fun _ _ σ4 ow4 ρ4 hz4 tk4 ez4 S4 _ kz4 => q .next .next σ4 ow4 ρ4 hz4 tk4 (ex.trans ez4) S4 .next kz4
noncomputable def vw {α : Type} (c : Const) (str : Str → Option α) (int : Int → Option α) : Option α := match c with
 | .str x => str x
 | .int i => int i
 | _ => none
noncomputable def kW (v : Expr) : Option SV := exC none (e := v) (con := fun c _ _ => vw c (fun x => some (.str x)) fun i => some (.int i))
noncomputable def dQ : List (Option Expr) → List Expr → Option (List (Str × SV))
 | [], [] => some []
 | k :: ks, v :: vs => Option.casesOn k none fun k => exC none (e := k) (con := fun c _ _ => vw c (fun x => (kW v).bind fun d => (dQ ks vs).map ((x, d) :: ·)) fun _ => none)
 | _, _ => none
theorem nO {α : Type} {f : Const → Nat → Pos → Option α} {v : Expr} {d : α} (h : exC none (e := v) (con := f) = some d) : ∃ c a b, v = .Constant c a b ∧ f c a b = some d := by
 induction v using Expr.casesOn with
 | Constant c a b => exact ⟨c, a, b, rfl, h⟩
 | _ => exact aw h
theorem ki {α : Type} {c : Const} {f : Str → Option α} {g : Int → Option α} {d : α} (h : vw c f g = some d) : (∃ x, c = .str x ∧ f x = some d) ∨ (∃ i, c = .int i ∧ g i = some d) := by
 induction c using Const.casesOn with
 | str x => exact .inl ⟨x, rfl, h⟩
 | int i => exact .inr ⟨i, rfl, h⟩
 | _ => exact aw h
inductive eO : List (Value × Value) → List (Str × SV) → Prop
 | nil : eO [] []
 | cons {x : Str} {t : Tok} {v : Value} {d : SV} {vs : List (Value × Value)} {ds : List (Str × SV)} : (∀ P w, VR P w v d) → eO vs ds → eO ((.str x t, v) :: vs) ((x, d) :: ds)
theorem ox {v : Expr} {d : SV} (e : kW v = some d) : (∃ x a b, v = .Constant (.str x) a b ∧ d = .str x) ∨ (∃ i a b, v = .Constant (.int i) a b ∧ d = .int i) := by
 obtain ⟨c, a, b, rfl, e⟩ := nO e
 rcases ki e with ⟨x, rfl, e⟩ | ⟨i, rfl, e⟩
 ·exact .inl ⟨x, a, b, rfl, (Option.some.inj e).symm⟩
 ·exact .inr ⟨i, a, b, rfl, (Option.some.inj e).symm⟩
theorem ik {k : Option Expr} {ks : List (Option Expr)} {v : Expr} {vs : List Expr} {l : List (Str × SV)} (e : dQ (k :: ks) (v :: vs) = some l) : ∃ x a b d l', k = some (.Constant (.str x) a b) ∧ kW v = some d ∧ dQ ks vs = some l' ∧ l = (x, d) :: l' := by
 induction k using Option.casesOn with
 | none => exact aw e
 | some k =>
  obtain ⟨c, a, b, rfl, e⟩ := nO (f := fun c _ _ => vw c (fun x => (kW v).bind fun d => (dQ ks vs).map ((x, d) :: ·)) fun _ => none) e
  rcases ki e with ⟨x, rfl, e⟩ | ⟨i, rfl, e⟩
  ·obtain ⟨d, q1, e⟩ := Option.bind_eq_some_iff.mp e
   obtain ⟨l', q2, e⟩ := Option.map_eq_some_iff.mp e
   exact ⟨x, a, b, d, l', rfl, q1, q2, e.symm⟩
  ·exact aw e
theorem lK : ∀ {ks : List (Option Expr)} {vs : List Expr} {l : List (Str × SV)}, dQ ks vs = some l → ks.all (·.isSome) = true ∧ ks.length = vs.length ∧ ks.length = l.length := by
 intro ks
 induction ks with
 | nil =>
  intro vs l e
  induction vs using List.casesOn with
  | nil => obtain rfl := Option.some.inj e; exact ⟨rfl, rfl, rfl⟩
  | cons _ _ => exact aw e
 | cons k ks ih =>
  intro vs l e
  induction vs using List.casesOn with
  | nil => exact aw e
  | cons v vs =>
   refine hide fun Gz0 bk0 => ?_
   obtain ⟨x, a, b, d, l', rfl, _, q, rfl⟩ := ik e
   obtain ⟨a, b, c⟩ := ih q
   refine bk0 ?_; clear bk0 Gz0
   exact ⟨by rw [List.all_cons, a]; rfl, by rw [List.length_cons, List.length_cons, b], by rw [List.length_cons, List.length_cons, c]⟩
theorem pO {prog : Program} {w : World} {A : Around} {E : Value → Shared → Prop} {env : Env} {pos : Pos} : ∀ {ks : List (Option Expr)} {vs : List Expr} {l : List (Str × SV)}, dQ ks vs = some l → ∀ {s : Shared} {Q : List (Value × Value) → Shared → Prop}, (∀ ps tk, eO ps l → Q ps { s with toks := tk }) → wpAny (model prog w) A (evalPairs (pairTrees ks vs env pos)) Q E s := by
 intro ks
 induction ks with
 | nil =>
  intro vs l e s Q q
  induction vs using List.casesOn with
  | nil => obtain rfl := Option.some.inj e; exact pairTrees_nil_walk (q [] s.toks .nil)
  | cons _ _ => exact aw e
 | cons k ks ih =>
  intro vs l e s Q q
  induction vs using List.casesOn with
  | nil => exact aw e
  | cons v vs =>
   refine hide fun Gz0 bk0 => ?_
   obtain ⟨x, a, b, d, l', rfl, hv, q3, rfl⟩ := ik e
   refine bk0 ?_; clear bk0 Gz0
   refine pairTrees_cons_walk (wpAny_Constant_str ?_)
   rcases ox hv with ⟨y, a, b, rfl, rfl⟩ | ⟨y, a, b, rfl, rfl⟩
   ·exact wpAny_Constant_str (ih q3 fun ps tk c => q _ tk (.cons (fun P w => .str _ _) c))
   ·exact wpAny_Constant_int (ih q3 fun ps tk c => q _ tk (.cons (fun P w => .int _ _) c))
theorem eO.all {ps : List (Value × Value)} {l : List (Str × SV)} (c : eO ps l) : allStrKeys ps = true ∧ (strPairs ps).map (·.1) = l.map (·.1) := by
 induction c with
 | nil => exact ⟨rfl, rfl⟩
 | cons _ _ ih => exact ⟨ih.1, by show _ :: _ = _ :: _; rw [ih.2]⟩
theorem eO.drs {P : Addr → Obj → Prop} {w : World} {ps : List (Value × Value)} {l : List (Str × SV)} (c : eO ps l) : ∀ {es : List DictEntry}, Pairs (strKind af w) es (strPairs ps) → (∀ e ∈ es, ∃ k, (strKind af w).is k e.key = true ∧ e.hash = (strKind af w).hash k) → DRs P w es (l.map fun p => (.str p.1, p.2)) := by
 induction c with
 | nil => intro es p _; cases p; exact .nil
 | cons hv _ ih =>
  rename_i x t v d vs ds c
  intro es p hk
  have p : Pairs (strKind af w) es ((x, v) :: strPairs vs) := p
  cases p with
  | cons h1 h2 h3 =>
   rename_i e es
   obtain ⟨u, hu⟩ := Value.isStrOf_shape h1
   obtain ⟨k, f1, f2⟩ := hk e (.head _)
   obtain ⟨u', hu'⟩ := Value.isStrOf_shape f1
   rw [hu] at hu'
   cases hu'
   exact .cons (.str hu f2) (by rw [h2]; exact hv _ _) (ih h3 fun e m => hk e (.tail _ m))
theorem uh {keys : List (Option Expr)} {values : List Expr} {pos : Pos} {l : List (Str × SV)} (O : X.Ok) (hc : dQ keys values = some l) (hn : (hO (l.map (·.1)) && Nat.ble l.length 15 && Nat.ble 1 l.length) = true) (h : K (.v (.dic (l.map fun p => (.str p.1, p.2)))) σ) : JE X (.Dict keys values pos) σ K := by
 intro ow ρ s S Q E q
 obtain ⟨a1, a2, a3⟩ := lK hc
 replace hn := Bool.and_eq_true_iff.mp hn
 obtain ⟨hn, n3⟩ := hn
 obtain ⟨n1, n2⟩ := Bool.and_eq_true_iff.mp hn
 have n2 := Nat.le_of_ble_eq_true n2
 have n3 := Nat.le_of_ble_eq_true n3
 have S' := S.push { cls := .type "dict", data := .dict #[] }
 refine wpAny_Dict_walk (knd := strKind af X.w) a1 a2 (fun e => by rw [e] at a3; simp at a3; lia) (by lia) ?_
 refine pO hc fun ps tk c => ?_
 obtain ⟨c1, c2⟩ := c.all
 refine display_done_str c1 (by rw [c2]; exact gJ n1) (Heap.DictOf.new (knd := strKind af X.w) s.heap) fun h' hd hs => ?_
 refine hide fun Gz0 bk0 => ?_
 obtain ⟨o, es, ep, ho, ⟨x1, x2, x3⟩, hd, hk, hp, _⟩ := hd
 refine bk0 ?_; clear bk0 Gz0
 have eo : o = dictOf es.toList ep := by
  obtain ⟨oc, od, odt, osl⟩ := o
  simp only at x1 x2 x3 hd
  subst x1 x2 x3 hd
  simp
 have up : ∀ b x, s.heap.get? b = some x → h'.get? b = some x := fun b x e => (hs.2 b (Nat.ne_of_lt (Heap.lt_size e))).trans (Heap.get?_push_of_some _ e)
 have nw : ¬ ow s.heap.objs.size := fun q => let ⟨_, e⟩ := S.low _ q; ao e (aA s.heap)
 have lo : (s.heap.objs.size == sysModules) = false := by
  refine hide fun Gz0 bk0 => ?_
  obtain ⟨mf, F, _⟩ := S.ground O
  obtain ⟨mean, mg, mb, T⟩ := O.T
  refine bk0 ?_; clear bk0 Gz0
  have := F.notModules (modules_low T.nolimit)
  simpa using this
 exact q _ _ σ ow ρ h' _ (.grow up) (S.grow up) (.v (.dic ⟨by rw [ho, eo], nw⟩ lo (c.drs hp fun e m => hk e (by simpa using m)))) h
end
end
section
section
variable {X : Fx} {σ : SS} {K : SF → SS → Prop}
theorem SR.hid {ow0 ow ow' : Addr → Prop} {ρ0 ρ : List Addr} {hs h h' : Heap} {wr : List Addr} (S : SR X ow ρ h σ) (e : Ex X ow0 ρ0 hs ow ρ h) (kp : ∀ b o, b ∉ wr → h.get? b = some o → h'.get? b = some o)
  (hw : ∀ a ∈ wr, ow a ∧ hs.get? a = none ∧ a ∉ ρ ∧ a ≠ X.L ∧ a ≠ X.env.locals ∧ X.hz0.get? a = none) (h1 : ∀ b, ow' b → ow b) (h2 : ∀ b, ow b → ow' b ∨ (b ∉ ρ ∧ b ≠ X.L ∧ b ≠ X.env.locals ∧ ¬ ow0 b)) (h3 : ∀ b, ow' b → b ∈ wr → ∃ o, h'.get? b = some o) : SR X ow' ρ h' σ ∧ Ex X ow0 ρ0 hs ow' ρ h' := by
 have hp : ∀ b o, Pz h ow b o → Pz h' ow' b o := fun b o p => ⟨kp b o (fun m => p.2 (hw b m).1) p.1, fun q => p.2 (h1 b q)⟩
 have nsk : ∀ {a : Addr} {m : Str → Option Value}, a ∉ wr → h.Ns a m → h'.Ns a m := fun na hn => by
  obtain ⟨o, es, ep, e, r⟩ := hn; exact ⟨o, es, ep, kp _ _ na e, r⟩
 obtain ⟨mf, ml, F, n, c1, c2, l⟩ := S.fr
 refine ⟨⟨⟨mf, ml, ⟨nsk (fun m => (hw _ m).2.2.2.1 rfl) F.ns, fun b o e => kp b o (fun m => ao e (hw b m).2.2.2.2.2) (F.keep b o e), F.above⟩, nsk (fun m => (hw _ m).2.2.2.2.1 rfl) n, c1, c2, fun x sv e' => let ⟨v, e1, e2⟩ := l x sv e'; ⟨v, e1, e2.mono hp (pfx ρ)⟩⟩,
  S.len, fun i a so e1 e2 => ?_, S.nd, fun a ha => ⟨((h2 a (S.off a ha).1).resolve_right fun q => q.1 ha), (S.off a ha).2⟩, (h2 _ S.owL).resolve_right fun q => q.2.1 rfl, (h2 _ S.owl).resolve_right fun q => q.2.2.1 rfl, fun a q => ?_, S.var, fun a x e => hp a x (S.kf a x e)⟩,
  fun b q => (h2 b (e.own b q)).resolve_right fun z => z.2.2.2 q, fun b q => e.new b (h1 b q), e.pre, e.fresh, fun b o e' n1 n2 n3 => kp b o (fun m => ao e' (hw b m).2.1) (e.keep b o e' n1 n2 n3), fun b o e' => ?_⟩
 ·obtain ⟨ob, e3, e4⟩ := S.cel i a so e1 e2
  exact ⟨ob, kp a ob (fun m => (hw a m).2.2.1 (List.mem_of_getElem? e1)) e3, e4.mono hp (pfx ρ)⟩
 ·by_cases m : a ∈ wr
  ·exact h3 a q m
  ·obtain ⟨o, e'⟩ := S.low a (h1 a q); exact ⟨o, kp a o m e'⟩
 ·obtain ⟨o', e''⟩ := e.live b o e'
  exact ⟨o', kp b o' (fun m => ao e' (hw b m).2.1) e''⟩
theorem SR.hide {ow : Addr → Prop} {ρ : List Addr} {h : Heap} (S : SR X ow ρ h σ) (o : Obj) (hf : o.isFreed = false) : SR X (fun b => ow b ∨ b = h.objs.size) ρ (h.push o) σ ∧ Ex X ow ρ h (fun b => ow b ∨ b = h.objs.size) ρ (h.push o) := by
 have up := iG (h := h) o
 have nz := aA h
 have hp : ∀ b x, Pz h ow b x → Pz (h.push o) (fun b => ow b ∨ b = h.objs.size) b x := fun b x e => ⟨up b x e.1, fun q => q.elim e.2 fun (q : b = h.objs.size) => ao (q ▸ e.1) nz⟩
 obtain ⟨mf, ml, F, n, c1, c2, l⟩ := S.fr
 refine ⟨⟨⟨mf, ml, F.push o, by obtain ⟨o', es, ep, e, r⟩ := n; exact ⟨o', es, ep, up _ _ e, r⟩, c1, c2, fun x sv e => let ⟨v, e1, e2⟩ := l x sv e; ⟨v, e1, e2.mono hp (pfx ρ)⟩⟩,
  S.len, fun i a so e1 e2 => let ⟨ob, e3, e4⟩ := S.cel i a so e1 e2; ⟨ob, up _ _ e3, e4.mono hp (pfx ρ)⟩, S.nd, fun a ha => ⟨.inl (S.off a ha).1, (S.off a ha).2⟩, .inl S.owL, .inl S.owl, fun a q => ?_, S.var, fun a x e => hp a x (S.kf a x e)⟩,
  fun b q => .inl q, fun b q => q.imp id fun (q : b = h.objs.size) => q ▸ nz, pfx ρ, fun b q => .inl q, fun b x e _ _ _ => up b x e, fun b x e => ⟨x, up b x e⟩⟩
 rcases q with q | q
 ·obtain ⟨x, e⟩ := S.low a q; exact ⟨x, up a x e⟩
 ·exact ⟨o, by rw [q]; exact Heap.get?_push_size _ hf⟩
noncomputable def fj (o : Obj) : Bool := match o.cls, o.data with
 | .type n, .fields _ => !(["enumerate", "zip", "dict_itemiterator", "dict_reverseitemiterator", "odict_iterator", "itertools.zip_longest", "itertools.pairwise"].contains n)
 | _, _ => true
theorem eY {M : Model} {A : Around} {E : Value → Shared → Prop} {s : Shared} {Q : Unit → Shared → Prop} {target : Expr} {I : Addr} {v : Value} {o : Obj} (ho : s.heap.get? I = some o) (hq : fj o = true) (h : Q () s) : wpAny M A (letOwnedTupleGo target (.ref I) v) Q E s := by
 have key : wpAny M A (match (Value.ref I, v) with
  | (.ref r, .ref a) => (do
   let o ← load r
   match o.cls, o.data with
   | .type n, .fields vs =>
    if ["enumerate", "zip", "dict_itemiterator", "dict_reverseitemiterator", "odict_iterator", "itertools.zip_longest", "itertools.pairwise"].contains n && vs[0]? == some (rawInt a) then
     rule "for.unpacks-the-owned-tuple"
     updateField r 0 .none
   | _, _ => pure ())
  | _ => (pure () : Sem Unit)) Q E s := by
  induction v using Value.casesOn <;> try exact wpAny_pure h
  refine wpAny_bind (wpAny_load ho ?_)
  have hq : (match o.cls, o.data with
   | .type n, .fields _ => !(["enumerate", "zip", "dict_itemiterator", "dict_reverseitemiterator", "odict_iterator", "itertools.zip_longest", "itertools.pairwise"].contains n)
   | _, _ => true) = true := hq
  generalize o.cls = c at hq ⊢
  generalize o.data = dt at hq ⊢
  induction c using Value.casesOn <;> try exact wpAny_pure h
  induction dt using Data.casesOn <;> try exact wpAny_pure h
  rename_i n vs
  have hq : (["enumerate", "zip", "dict_itemiterator", "dict_reverseitemiterator", "odict_iterator", "itertools.zip_longest", "itertools.pairwise"].contains n) = false := by simpa using hq
  dsimp only
  rw [hq, Bool.false_and, if_neg Bool.false_ne_true]
  exact wpAny_pure h
 induction target using Expr.casesOn with
 | Tuple _ _ _ => exact key
 | List _ _ => exact key
 | _ => exact wpAny_pure h
structure gG (X : Fx) (ow : Addr → Prop) (h : Heap) (va : Value) (its : List SV) (I : Addr) (fp : List Addr) (P : Nat → Value → Prop) (St : Nat → Heap → Prop) : Prop where
 W : Walks af X.w X.A I fp [I] its.length P St
 fp : ∀ b ∈ fp, b = I ∨ ∃ o, Pz h ow b o
 alive : ∀ i h, St i h → ∃ o, h.get? I = some o ∧ fj o = true
 val : ∀ i v, P i v → ∃ d, its[i]? = some d ∧ VR (Pz h ow) X.w v d
noncomputable def eM (X : Fx) (a : AV) (σ : SS) (its : List SV) : Prop := ∀ ow ρ s va, SR X ow ρ s.heap σ → AR (Pz s.heap ow) X.w ρ va a → ∀ (Q : Value → Shared → Prop) (E : Value → Shared → Prop),
 (∀ o fp P St, o.isFreed = false → gG X ow s.heap va its s.heap.objs.size fp P St → St 0 (s.heap.push o) → Q (.ref s.heap.objs.size) { s with heap := s.heap.push o }) → wpAny (model af X.w) X.A (pyIter va) Q E s
noncomputable def cu (a c : Int) : Nat → List SV
 | 0 => []
 | n + 1 => .int a :: cu (a + c) c n
theorem gc : ∀ (n : Nat) (a c : Int) (i : Nat), i < n → (cu a c n)[i]? = some (.int (a + i * c))
 | n + 1, a, c, 0, _ => by show some _ = some _; simp
 | n + 1, a, c, i + 1, h => by
  show (cu (a + c) c n)[i]? = _
  rw [gc n (a + c) c i (by lia)]
  congr 2
  have : ((i + 1 : Nat) : Int) = (i : Int) + 1 := by lia
  rw [this, Int.add_mul, Int.one_mul]; lia
theorem eg : ∀ (n : Nat) (a c : Int), (cu a c n).length = n
 | 0, _, _ => rfl
 | n + 1, a, c => by rw [cu, List.length_cons, eg n]
theorem gO {l : List SV} (O : X.Ok) : eM X (.v (.lst l)) σ l := by
 intro ow ρ s va S ra Q E q
 refine hide fun Gz0 bk0 => ?_
 obtain ⟨a, vs, n, rfl, e, r⟩ := bF ra.inv
 refine bk0 ?_; clear bk0 Gz0
 have nw : ¬ ow a := by cases ra.inv with | lst p _ => exact p.2
 have ha := Heap.lt_size e
 have W := Walks.list (prog := af) (w := X.w) (A := X.A) rfl s.heap.objs.size a (Nat.ne_of_lt ha) vs.toArray
 have hz : vs.toArray.size = l.length := by rw [List.size_toArray, r.length]
 rw [hz] at W
 have it : gG X ow s.heap (.ref a) l s.heap.objs.size [s.heap.objs.size, a] (fun i v => vs.toArray[i]? = some v) (fun i h => h.IsListIter s.heap.objs.size a i ∧ h.IsList a vs.toArray) := by
  refine ⟨W, fun b hb => ?_, fun i h st => ?_, fun i v p => ?_⟩
  ·rcases List.mem_cons.mp hb with h | hb
   ·exact .inl h
   ·exact .inr ⟨_, by rw [List.mem_singleton.mp hb]; exact ⟨e, nw⟩⟩
  ·obtain ⟨o, e, c, d⟩ := st.1; exact ⟨o, e, by unfold fj; rw [c, d]; rfl⟩
  ·exact r.get' (by simpa using p)
 exact wpAny_pyIter_list (ay e) (q _ _ _ _ rfl it ⟨⟨_, Heap.get?_push_size _ rfl, rfl, rfl⟩, (ay e).push _⟩)
theorem r7 {l : List SV} (O : X.Ok) : eM X (.v (.tup l)) σ l := by
 intro ow ρ s va S ra Q E q
 refine hide fun Gz0 bk0 => ?_
 obtain ⟨a, vs, n, rfl, e, r⟩ := cD ra.inv
 refine bk0 ?_; clear bk0 Gz0
 have nw : ¬ ow a := by cases ra.inv with | tup p _ => exact p.2
 have ha := Heap.lt_size e
 have W := Walks.tuple (prog := af) (w := X.w) (A := X.A) rfl s.heap.objs.size a (Nat.ne_of_lt ha) vs.toArray
 have hz : vs.toArray.size = l.length := by rw [List.size_toArray, r.length]
 rw [hz] at W
 have it : gG X ow s.heap (.ref a) l s.heap.objs.size [s.heap.objs.size, a] (fun i v => vs.toArray[i]? = some v) (fun i h => h.IsTupleIter s.heap.objs.size a i ∧ h.IsTuple a vs.toArray) := by
  refine ⟨W, fun b hb => ?_, fun i h st => ?_, fun i v p => ?_⟩
  ·rcases List.mem_cons.mp hb with h | hb
   ·exact .inl h
   ·exact .inr ⟨_, by rw [List.mem_singleton.mp hb]; exact ⟨e, nw⟩⟩
  ·obtain ⟨o, e, c, d⟩ := st.1; exact ⟨o, e, by unfold fj; rw [c, d]; rfl⟩
  ·exact r.get' (by simpa using p)
 exact wpAny_pyIter_tuple (dJ e) (q _ _ _ _ rfl it ⟨⟨_, Heap.get?_push_size _ rfl, rfl, rfl⟩, (dJ e).push _⟩)
theorem qT {a b c : Int} (O : X.Ok) (hs : Builtin.Range.small a b c = true) (h0 : 0 ≤ Builtin.Range.rangeSize a b c) : eM X (.v (.rng a b c)) σ (cu a c (Builtin.Range.rangeSize a b c).toNat) := by
 intro ow ρ s va S ra Q E q
 cases ra.inv with
 | rng p =>
  have W := Walks.range (prog := af) (w := X.w) (A := X.A) rfl s.heap.objs.size a c (Builtin.Range.rangeSize a b c).toNat
  have it : ∀ va, gG X ow s.heap va (cu a c (Builtin.Range.rangeSize a b c).toNat) s.heap.objs.size [s.heap.objs.size] (fun i v => ∃ t, v = .int (a + i * c) t ∧ i < (Builtin.Range.rangeSize a b c).toNat) (fun i h => IsRangeIter h s.heap.objs.size (a + (i : Nat) * c) (((Builtin.Range.rangeSize a b c).toNat : Int) - (i : Nat)) c) := by
   intro va
   refine ⟨?_, fun b hb => .inl (List.mem_singleton.mp hb), fun i h st => ⟨_, st, rfl⟩, fun i v ⟨t, e, hi⟩ => ?_⟩
   ·rw [eg]
    exact { sub := W.sub, frame := W.frame, item := fun i s Q E hi st hQ => W.item i s Q E hi st fun v h' tk ⟨t, e⟩ => hQ v h' tk ⟨t, e, hi⟩, done := W.done, self := W.self }
   ·subst e
    exact ⟨_, gc _ _ _ _ hi, .int _ _⟩
  refine wpAny_pyIter_range p.1 hs (q _ _ _ _ rfl (it _) ?_)
  have e1 : a + ((0 : Nat) : Int) * c = a := by simp
  have e2 : (((Builtin.Range.rangeSize a b c).toNat : Int) - ((0 : Nat) : Int)) = Builtin.Range.rangeSize a b c := by lia
  show IsRangeIter _ _ (a + ((0 : Nat) : Int) * c) (((Builtin.Range.rangeSize a b c).toNat : Int) - ((0 : Nat) : Int)) c
  rw [e1, e2]
  exact Heap.get?_push_size _ rfl
noncomputable def jB (X : Fx) (target : Expr) (body : List Stmt) : List SV → SS → (SF → SS → Prop) → Prop
 | [], σ, K => K .next σ
 | d :: ds, σ, K => JA X target (.v d) σ fun σ1 => JB X body σ1 fun f σ2 => match f with
  | .next => jB X target body ds σ2 K
  | .cont => jB X target body ds σ2 K
  | .brk => K .next σ2
  | .ret v => K (.ret v) σ2
theorem gG.notOw {ow : Addr → Prop} {h : Heap} {va : Value} {its : List SV} {I : Addr} {fp : List Addr} {P : Nat → Value → Prop} {St : Nat → Heap → Prop} (it : gG X ow h va its I fp P St) {b : Addr} (hb : b ∈ fp) : b = I ∨ ¬ ow b := (it.fp b hb).imp id fun ⟨_, p⟩ => p.2
structure FrA (X : Fx) (ow : Addr → Prop) (ρ : List Addr) (a : Addr) : Prop where
 no : ¬ ow a
 L : a ≠ X.L
 l : a ≠ X.env.locals
 g : X.hz0.get? a = none
 r : a ∉ ρ
theorem SR.frA {X : Fx} {ow : Addr → Prop} {ρ : List Addr} {h : Heap} {σ : SS} (S : SR X ow ρ h σ) {a : Addr} (na : h.get? a = none) : FrA X ow ρ a := by
 have no : ¬ ow a := fun z => let ⟨_, e⟩ := S.low _ z; ao e na
 refine ⟨no, fun z => no (z ▸ S.owL), fun z => no (z ▸ S.owl), ?_, fun m => no (S.off _ m).1⟩
 obtain ⟨mf, _, F, _⟩ := S.fr
 cases z : X.hz0.get? a with
 | none => rfl
 | some o => exact ao (F.keep _ _ z) na
inductive sk (X : Fx) (ow1 : Addr → Prop) (ρ1 : List Addr) (hz1 : Heap) (s : Shared) (St : Nat → Heap → Prop) (its : List SV) (J : List SV → SS → Prop) : Nat → Shared → Prop
 | mk {i : Nat} {ow' : Addr → Prop} {ρ' : List Addr} {σ' : SS} {h' : Heap} {tk' : Nat} (le : i ≤ its.length) (S : SR X ow' ρ' h' σ') (e : Ex X ow1 ρ1 hz1 ow' ρ' h') (st : St i h') (oI : ow' hz1.objs.size) (nI : hz1.objs.size ∉ ρ') (j : J (its.drop i) σ') : sk X ow1 ρ1 hz1 s St its J (its.length - i) { s with heap := h', toks := tk' }
theorem nB {ow1 : Addr → Prop} {ρ1 : List Addr} {hz1 : Heap} {σ1 : SS} {s : Shared} {va : Value} {its : List SV} {fp : List Addr} {P : Nat → Value → Prop} {St : Nat → Heap → Prop} {J : List SV → SS → Prop} {Q : Option Value → Shared → Prop} {E : Value → Shared → Prop} {n : Nat} {s' : Shared}
  (S1 : SR X ow1 ρ1 hz1 σ1) (it : gG X ow1 hz1 va its hz1.objs.size fp P St) (inv : sk X ow1 ρ1 hz1 s St its J n s')
  (hdone : ∀ ow' ρ' h' tk' σ', Ex X ow1 ρ1 hz1 ow' ρ' h' → SR X ow' ρ' h' σ' → J [] σ' → Q none { s with heap := h', toks := tk' })
  (hitem : ∀ v d ds ow' ρ' h' tk' σ' oI, SR X ow' ρ' h' σ' → AR (Pz h' ow') X.w ρ' v (.v d) → h'.get? hz1.objs.size = some oI → fj oI = true → J (d :: ds) σ' →
   (∀ ow4 ρ4 hz4 tk4 σ4, Ex X ow' ρ' h' ow4 ρ4 hz4 → SR X ow4 ρ4 hz4 σ4 → Ex X ow1 ρ1 hz1 ow4 ρ4 hz4 ∧ (J ds σ4 → ∃ m, m < n ∧ sk X ow1 ρ1 hz1 s St its J m { s with heap := hz4, toks := tk4 })) → Q (some v) { s with heap := h', toks := tk' }) :
  wpAny (model af X.w) X.A (pyNext (.ref hz1.objs.size)) Q E s' := by
 induction inv using sk.casesOn
 rename_i i ow' ρ' σ' h' tk' hle S' e' st oI nI jf
 have f := S1.frA (aA hz1)
 have hw : ∀ a ∈ [hz1.objs.size], ow' a ∧ hz1.get? a = none ∧ a ∉ ρ' ∧ a ≠ X.L ∧ a ≠ X.env.locals ∧ X.hz0.get? a = none := fun a m => by
  rw [List.mem_singleton.mp m]; exact ⟨oI, aA hz1, nI, f.L, f.l, f.g⟩
 by_cases hlt : i < its.length
 ·refine it.W.item i _ _ _ hlt st fun v h'' tk'' hP st' kp => ?_
  refine hide fun Gz0 bk0 => ?_
  obtain ⟨d, hd, rv⟩ := it.val i v hP
  obtain ⟨oI', eI', qI'⟩ := it.alive _ _ st'
  obtain ⟨S'', e''⟩ := S'.hid e' (h' := h'') kp hw (fun _ z => z) (fun _ z => .inl z) (fun b _ m => by rw [List.mem_singleton.mp m]; exact ⟨_, eI'⟩)
  refine bk0 ?_; clear bk0 Gz0
  rw [show its.drop i = d :: its.drop (i + 1) by rw [List.drop_eq_getElem_cons hlt, (List.getElem?_eq_some_iff.mp hd).2]] at jf
  refine hitem v d _ ow' ρ' h'' tk'' σ' oI' S'' (.v (S1.vr e'' rv)) eI' qI' jf fun ow3 ρ3 hz3 tk3 σ3 ex S3 => ⟨e''.trans ex, fun j => ⟨_, Nat.sub_succ_lt_self _ _ hlt, .mk hlt S3 (e''.trans ex) (it.W.frame _ _ _ st' fun b hb o e => ?_) (ex.own _ oI) (fun m => (ex.fresh _ m).elim nI fun z => ao eI' z) j⟩⟩
  rcases it.notOw hb with z | nb
  ·rw [z] at e ⊢; exact ex.keep _ o e nI f.l f.L
  ·refine ex.keep b o e (fun m => ?_) (fun z => nb (z ▸ S1.owl)) (fun z => nb (z ▸ S1.owL))
   obtain ⟨o', p⟩ := (it.fp b hb).resolve_left (fun z => nI (z ▸ m))
   exact (e''.new b (S''.off b m).1).elim nb fun z => ao p.1 z
 ·obtain rfl : i = its.length := Nat.le_antisymm hle (Nat.le_of_not_lt hlt)
  rw [List.drop_length] at jf
  refine it.W.done _ _ _ st fun h'' tk'' kp => ?_
  obtain ⟨S'', e''⟩ := S'.hid e' (h' := h'') (ow' := fun b => ow' b ∧ b ≠ hz1.objs.size) kp hw (fun _ z => z.1) (fun b z => (Classical.em (b = hz1.objs.size)).elim (fun hb => .inr (by rw [hb]; exact ⟨nI, f.L, f.l, f.no⟩)) fun hb => .inl ⟨z, hb⟩) (fun b z m => absurd (List.mem_singleton.mp m) z.2)
  exact hdone _ _ _ _ _ e'' S'' jf
theorem uQ {target iter : Expr} {body : List Stmt} {pos : Pos} (O : X.Ok) (hs : ∀ x, foldedSetIterable iter X.env x = pure x) (h : JE X iter σ fun a σ1 => ∃ its, eM X a σ1 its ∧ jB X target body its σ1 K) : JS X (.For target iter body [] pos) σ K := by
 intro ow ρ s S Q E q
 refine wpAny_For (h ow ρ s S _ _ fun a sa σ1 ow1 ρ1 hz1 tk1 ez1 S1 rz1 kz1 => ?_) hs
 obtain ⟨its, hi, jf⟩ := kz1
 refine hi ow1 ρ1 { s with heap := hz1, toks := tk1 } a S1 rz1 _ _ fun o fp P St hof it st0 => ?_
 obtain ⟨S2, ez2⟩ := S1.hide o hof
 refine codeAny_forLoop_any (sk X ow1 ρ1 hz1 s St its fun ds σ => jB X target body ds σ K) (fun n s' inv => ?_) its.length (.mk (i := 0) (Nat.zero_le _) S2 ez2 st0 (.inr rfl) (S1.frA (aA hz1)).r jf)
 refine nB S1 it inv (fun ow' ρ' h' tk' σ' e S j => wpAny_execs_nil (q _ _ _ _ _ _ tk' (ez1.trans e) S .next j)) fun v d ds ow' ρ' h' tk' σ' oI S' rv eI qI j back => ?_
 refine eY (s := { s with heap := h', toks := tk' }) eI qI ?_
 refine j ow' ρ' { s with heap := h', toks := tk' } v S' rv _ _ fun _ _ σ3 ow3 ρ3 hz3 tk3 ez3 S3 _ kz3 => ?_
 refine kz3 ow3 ρ3 { s with heap := hz3, toks := tk3 } S3 _ _ fun f sf σ4 ow4 ρ4 hz4 tk4 ez4 S4 rz4 kz4 => ?_
 obtain ⟨ex, again⟩ := back _ _ _ tk4 _ (ez3.trans ez4) S4
 induction rz4 using RF.casesOn with
 | next => exact again kz4
 | cont => exact again kz4
 | brk => exact q _ _ _ _ _ _ tk4 (ez1.trans ex) S4 .next kz4
 | ret r => exact q _ _ _ _ _ _ tk4 (ez1.trans ex) S4 (.ret r) kz4
end
end
section
noncomputable def frees : List (Str × NameKind) → List Str
 | [] => []
 | (n, .free) :: r => n :: frees r
 | _ :: r => frees r
noncomputable def eK (env : Env) : List (Str × NameKind) → List (Str × Addr) → List (Str × Addr)
 | [], acc => acc
 | (n, .free) :: r, acc => eK env r ((n, (env.cells.lookup n).getD 0) :: acc)
 | _ :: r, acc => eK env r acc
noncomputable def zt (names : List (Str × NameKind)) (vid : List (Str × Nat)) : List (Str × Nat) := (frees names).filterMap fun n => (lkN n vid).map fun i => (n, i)
noncomputable def cG (names : List (Str × NameKind)) (vid : List (Str × Nat)) : Bool := (frees names).all fun n => (lkN n vid).isSome
noncomputable def BL (outer names : List (Str × NameKind)) : List (Str × NameKind) := names.map fun p => match p.2, outer.lookup p.1 with
 | .free, some .cell => (p.1, .cell)
 | k, _ => (p.1, k)
theorem jS {scope : Scope} {env : Env} (h : ∀ n ∈ frees scope.names, ∃ c, env.cells.lookup n = some c) : closureFor scope env = pure (eK env scope.names []) := by
 have go : ∀ (names : List (Str × NameKind)) (acc : List (Str × Addr)) (f : Str × NameKind → List (Str × Addr) → Sem (ForInStep (List (Str × Addr)))),
   (∀ n k cs, f (n, k) cs = if (k == .free) = true then (do let c ← cellOf env n; pure (ForInStep.yield ((n, c) :: cs))) else pure (ForInStep.yield cs)) → (∀ n ∈ frees names, ∃ c, env.cells.lookup n = some c) → forIn names acc f = (pure (eK env names acc) : Sem _) := by
  intro names
  induction names with
  | nil => intro acc f hf _; rfl
  | cons p r ih =>
   obtain ⟨n, k⟩ := p
   intro acc f hf hc
   rw [List.forIn_cons, hf]
   induction k using NameKind.casesOn with
   | free =>
    obtain ⟨c, ec⟩ := hc n (.head _)
    have e0 : ((NameKind.free == NameKind.free) = true) = True := by simp
    simp only [e0, if_true]
    have e1 : cellOf env n = pure c := by unfold cellOf; rw [ec]
    rw [e1, pure_bind, pure_bind]
    show forIn r ((n, c) :: acc) f = _
    rw [ih _ f hf fun m hm => hc m (.tail _ hm)]
    show pure (eK env r ((n, c) :: acc)) = pure (eK env r ((n, (env.cells.lookup n).getD 0) :: acc))
    rw [ec]; rfl
   | «local» => rw [if_neg (by decide), pure_bind]; show forIn r acc f = _; rw [ih _ f hf fun m hm => hc m hm]; rfl
   | cell => rw [if_neg (by decide), pure_bind]; show forIn r acc f = _; rw [ih _ f hf fun m hm => hc m hm]; rfl
   | globalExplicit => rw [if_neg (by decide), pure_bind]; show forIn r acc f = _; rw [ih _ f hf fun m hm => hc m hm]; rfl
   | globalImplicit => rw [if_neg (by decide), pure_bind]; show forIn r acc f = _; rw [ih _ f hf fun m hm => hc m hm]; rfl
 show (forIn scope.names ([] : List (Str × Addr)) _ >>= fun s => (pure s : Sem _)) = _
 rw [go scope.names [] _ (fun n k cs => by induction k using NameKind.casesOn <;> rfl) h]
 rfl
theorem bz {env : Env} {x : Str} {c : Addr} (hc : env.cells.lookup x = some c) : ∀ (names : List (Str × NameKind)) (acc : List (Str × Addr)), (x ∈ frees names ∨ acc.lookup x = some c) → (∀ a, acc.lookup x = some a → a = c) → (eK env names acc).lookup x = some c
 | [], acc, h, _ => h.resolve_left (fun m => nomatch m)
 | (n, .free) :: r, acc, h, u => by
  by_cases hn : x = n
  ·subst hn
   have e : (((x, (env.cells.lookup x).getD 0) :: acc).lookup x) = some c := by rw [List.lookup_cons, beq_self_eq_true, hc]; rfl
   exact bz hc r _ (.inr e) fun a ha => by rw [e] at ha; cases ha; rfl
  ·have e : (((n, (env.cells.lookup n).getD 0) :: acc).lookup x) = acc.lookup x := by rw [List.lookup_cons, beq_eq_false_iff_ne.mpr hn]
   refine bz hc r _ (h.imp (fun m => ?_) fun q => e.trans q) fun a ha => u a (e.symm.trans ha)
   rcases List.mem_cons.mp m with m | m
   ·exact absurd m hn
   ·exact m
 | (n, .local) :: r, acc, h, u => bz hc r acc h u
 | (n, .cell) :: r, acc, h, u => bz hc r acc h u
 | (n, .globalExplicit) :: r, acc, h, u => bz hc r acc h u
 | (n, .globalImplicit) :: r, acc, h, u => bz hc r acc h u
theorem u3 {x : Str} {i : Nat} {vid : List (Str × Nat)} : ∀ {ns : List Str}, lkN x (ns.filterMap fun n => (lkN n vid).map fun i => (n, i)) = some i → x ∈ ns ∧ lkN x vid = some i := by
 intro its0
 induction its0 with
 | nil =>
  intro e
  cases e
 | cons n r ih =>
  intro e
  rw [List.filterMap_cons] at e
  cases q : lkN n vid with
  | none => rw [q] at e; obtain ⟨a, b⟩ := ih e; exact ⟨.tail _ a, b⟩
  | some j =>
   rw [q] at e
   simp only [Option.map] at e
   rw [mJ] at e
   by_cases hx : x = n
   ·subst hx; rw [if_pos rfl] at e; cases e; exact ⟨.head _, q⟩
   ·rw [if_neg hx] at e; obtain ⟨a, b⟩ := ih e; exact ⟨.tail _ a, b⟩
structure dN (X X' : Fx) (scope : Scope) : Prop where
 ok : X'.Ok
 w : X'.w = X.w
 D : X'.D = X.D
 U : X'.U = X.U
 names : X'.env.scope.names = BL X.env.scope.names scope.names
 vid : X'.vid = zt scope.names X.vid
noncomputable def ET (X : Fx) : List Expr → SS → (Bool → SS → Prop) → Prop
 | [], σ, K => K true σ
 | [c], σ, K => JT X c σ K
 | _, _, _ => False
noncomputable def gA (X : Fx) (x : Str) (ifs : List Expr) (elt : Expr) : List SV → List SV → List aa → (List SV → List aa → Prop) → Prop
 | [], acc, cel, K => K acc cel
 | d :: ds, acc, cel, K => ET X ifs ⟨[(x, .v d)], cel⟩ fun b σ1 => Br b (JE X elt σ1 fun v σ2 => asV v fun sv => gA X x ifs elt ds (acc ++ [sv]) σ2.cel K) (gA X x ifs elt ds acc σ1.cel K)
theorem SR.forget {X : Fx} {ow : Addr → Prop} {ρ : List Addr} {h : Heap} {σ : SS} (S : SR X ow ρ h σ) : SR X ow ρ h ⟨[], σ.cel⟩ := by
 obtain ⟨mf, ml, F, n, c1, c2, l⟩ := S.fr
 exact ⟨⟨mf, ml, F, n, c1, c2, fun x sv e => by cases e⟩, S.len, S.cel, S.nd, S.off, S.owL, S.owl, S.low, S.var, S.kf⟩
structure dR (X : Fx) (σ : SS) (ow1 : Addr → Prop) (ρ1 : List Addr) (hz1 : Heap) (K : List SV → List aa → Prop) (D C : Addr) (h' : Heap) : Prop where
 out : ∃ ow' ρ' acc cel', SR X ow' ρ' h' ⟨σ.loc, cel'⟩ ∧ Ex X ow1 ρ1 hz1 ow' ρ' h' ∧ VR (Pz h' ow') X.w (.ref D) (.lst acc) ∧ K acc cel' ∧ ow' C ∧ C ∉ ρ'
 fresh : hz1.get? C = none
 ns : ∃ m, h'.Ns C m
theorem lF {h h' : Heap} {a : Addr} {m m' : Str → Option Value} (x1 : h.Ns a m) (x2 : h'.Ns a m') (kp : ∀ o, h.get? a = some o → h'.get? a = some o) : m' = m := by
 obtain ⟨o, es, ep, e1, e2, _, e3⟩ := x1
 obtain ⟨o', es', ep', f1, f2, _, f3⟩ := x2
 obtain rfl := Option.some.inj ((kp _ e1).symm.trans f1)
 cases e2.symm.trans f2
 exact funext fun z => (f3 z).symm.trans (e3 z)
noncomputable def XC (X : Fx) (scope : Scope) (C : Addr) (ml : Str → Option Value) : Fx := { X with env := compEnvC scope (eK X.env scope.names []) C X.env, comp := some ml, vid := zt scope.names X.vid }
theorem isC {X : Fx} (O : X.Ok) {scope : Scope} (hkind : scope.kind = .function) {C : Addr} {ml : Str → Option Value} (h1 : C ≠ X.L) (h2 : X.hz0.get? C = none) : dN X (XC X scope C ml) scope := by
 refine { ok := { below := O.below, K := O.K, T := O.T, ck := O.ck, kind := hkind, glob := O.glob, bins := O.bins, here := fun e => (by cases e), there := fun m e => ⟨h1, h2⟩, room := O.room, units := O.units }, w := rfl, D := rfl, U := rfl, names := ?_, vid := rfl }
 refine List.map_congr_left fun p hp => ?_
 obtain ⟨n, k⟩ := p
 dsimp only
 have hk : X.env.kindOf n = X.env.scope.names.lookup n := rfl
 rw [hk, O.kind]
 induction k using NameKind.casesOn <;> cases q : X.env.scope.names.lookup n <;> first | rfl | (rename_i v; induction v using NameKind.casesOn <;> rfl)
section
variable {X : Fx} {σ : SS} {ow1 ow : Addr → Prop} {ρ1 ρ : List Addr} {h h' : Heap} {scope : Scope} {C : Addr} {ml : Str → Option Value}
theorem Ex.ofC (nC : h.get? C = none) (e : Ex (XC X scope C ml) ow1 ρ1 h ow ρ h') : Ex X ow1 ρ1 h ow ρ h' :=
 ⟨e.own, e.new, e.pre, e.fresh, fun b o e1 n1 n2 n3 => e.keep b o e1 n1 (fun z => ao ((congrArg h.get? (z : b = C)).symm.trans e1) nC) n3, e.live⟩
theorem Ex.toC (l : X.env.locals = X.L) (e : Ex X ow1 ρ1 h ow ρ h') : Ex (XC X scope C ml) ow1 ρ1 h ow ρ h' :=
 ⟨e.own, e.new, e.pre, e.fresh, fun b o e1 n1 n2 n3 => e.keep b o e1 n1 (fun z => n3 (z.trans l)) n3, e.live⟩
theorem SR.toC (S : SR X ow ρ h σ) (m : h.Ns X.L ml) (hns : h.Ns C fun x => List.lookup x [].reverse) (oC : ow C) (rC : C ∉ ρ) : SR (XC X scope C ml) ow ρ h ⟨[], σ.cel⟩ := by
 obtain ⟨mf, _, F, _, _, _, _⟩ := S.fr
 obtain rfl : ml = mf := lF F.ns m fun _ e => e
 refine ⟨.mk ml _ F hns (fun e => nomatch e) (fun m e => Option.some.inj e) (fun x sv e => nomatch e), S.len, S.cel, S.nd, fun a ha => ⟨(S.off a ha).1, (S.off a ha).2.1, (S.off a ha).2.2.1, fun z => rC ((show a = C from z) ▸ ha)⟩, S.owL, oC, S.low, fun y i e => ?_, S.kf⟩
 obtain ⟨m, e⟩ := u3 e
 obtain ⟨c, e1, e2⟩ := S.var y i e
 exact ⟨c, bz e1 scope.names [] (.inl m) (fun a ha => nomatch ha), e2⟩
structure CS (X : Fx) (σ : SS) (ow1 : Addr → Prop) (ρ1 : List Addr) (h : Heap) (scope : Scope) (I D C : Addr) (ml : Str → Option Value) : Prop where
 O : X.Ok
 hc : X.comp = none
 S : SR X ow1 ρ1 h σ
 m : h.Ns X.L ml
 nI : h.get? I = none
 nD : h.get? D = none
 nC : h.get? C = none
 IC : I ≠ C
 DC : D ≠ C
 ID : I ≠ D
 ic : dN X (XC X scope C ml) scope
inductive mZ (X' : Fx) (ow1 : Addr → Prop) (ρ1 : List Addr) (s : Shared) (St : Nat → Heap → Prop) (I D : Addr) (its : List SV) (J : List SV → List SV → List aa → Prop) : Nat → Shared → Prop
 | mk {i : Nat} {ow' : Addr → Prop} {ρ' : List Addr} {acc : List SV} {cel : List aa} {vs : List Value} {k : Nat} {h' : Heap} {tk' : Nat} (le : i ≤ its.length) (al : acc.length ≤ i) (S : SR X' ow' ρ' h' ⟨[], cel⟩) (e : Ex X' ow1 ρ1 s.heap ow' ρ' h') (st : St i h')
  (oI : ow' I) (oD : ow' D) (mI : I ∉ ρ') (mD : D ∉ ρ') (gD : h'.get? D = some (listOf vs.toArray k)) (rvs : VRs (Pz h' ow') X'.w vs acc) (j : J (its.drop i) acc cel) : mZ X' ow1 ρ1 s St I D its J (its.length - i) { s with heap := h', toks := tk' }
end
section
variable {X : Fx} {σ : SS} {ow1 : Addr → Prop} {ρ1 : List Addr} {scope : Scope}
theorem mQ {h hz4 : Heap} {oI : Obj} (O : X.Ok) (hc : X.comp = none) (hkind : scope.kind = .function) (S1 : SR X ow1 ρ1 h σ) (hof : oI.isFreed = false)
  (hns : hz4.Ns ((h.push oI).push (listOf ([] : List Value).toArray 0)).objs.size fun x => List.lookup x [].reverse)
  (hsb : Heap.SameBut ((h.push oI).push (listOf ([] : List Value).toArray 0)).objs.size (((h.push oI).push (listOf ([] : List Value).toArray 0)).push { cls := .type "dict", data := .dict #[] }) hz4)
  {s : Shared} (hs : s.heap = h) {St : Nat → Heap → Prop} (st : (∀ b o, (h.push oI).get? b = some o → hz4.get? b = some o) → St 0 hz4) {G : Prop}
  (k : ∀ ml, CS X σ ow1 ρ1 h scope h.objs.size (h.push oI).objs.size ((h.push oI).push (listOf ([] : List Value).toArray 0)).objs.size ml → St 0 hz4 →
   (∀ (its : List SV) (J : List SV → List SV → List aa → Prop) (tk : Nat), J its [] σ.cel → mZ (XC X scope ((h.push oI).push (listOf ([] : List Value).toArray 0)).objs.size ml) ow1 ρ1 s St h.objs.size (h.push oI).objs.size its J its.length { s with heap := hz4, toks := tk }) → G) : G := by
 subst hs
 have szD : (s.heap.push oI).objs.size = s.heap.objs.size + 1 := Heap.size_push ..
 have szC : ((s.heap.push oI).push (listOf ([] : List Value).toArray 0)).objs.size = s.heap.objs.size + 1 + 1 := (Heap.size_push ..).trans (congrArg (· + 1) szD)
 obtain ⟨S2, ez2⟩ := S1.hide oI hof
 obtain ⟨S3, ez3⟩ := S2.hide (listOf ([] : List Value).toArray 0) rfl
 obtain ⟨S4, ez4⟩ := S3.hide { cls := .type "dict", data := .dict #[] } rfl
 have e4' := (ez2.trans ez3).trans ez4
 clear ez2 ez3 ez4 S2 S3
 have nI : s.heap.get? s.heap.objs.size = none := aA _
 have nD : s.heap.get? (s.heap.push oI).objs.size = none := Heap.get?_none_of_le (szD ▸ Nat.le_succ _)
 have nC : s.heap.get? ((s.heap.push oI).push (listOf ([] : List Value).toArray 0)).objs.size = none := Heap.get?_none_of_le (szC ▸ Nat.le_succ_of_le (Nat.le_succ _))
 have fC := S1.frA nC
 obtain ⟨oC, r⟩ := id hns
 have gC : ∃ o, hz4.get? ((s.heap.push oI).push (listOf ([] : List Value).toArray 0)).objs.size = some o := let ⟨_, _, e, _⟩ := r; ⟨_, e⟩
 clear r
 obtain ⟨S5, ez5⟩ := S4.hid e4' (h' := hz4) (wr := [((s.heap.push oI).push (listOf ([] : List Value).toArray 0)).objs.size]) (fun b o nb e => (hsb.2 b (fun z => nb (z ▸ .head _))).trans e) (fun a m => by
  obtain rfl := kr m; exact ⟨.inr rfl, nC, fC.r, fC.L, fC.l, fC.g⟩) (fun _ z => z) (fun _ z => .inl z) (fun b _ m => List.mem_singleton.mp m ▸ gC)
 have old : ∀ b o, ((s.heap.push oI).push (listOf ([] : List Value).toArray 0)).get? b = some o → hz4.get? b = some o := fun b o e => (hsb.2 b (fun z => ao (z ▸ e) (aA _))).trans (Heap.get?_push_of_some _ e)
 obtain ⟨_, ml, F1, _, _, _, _⟩ := S1.fr
 obtain ⟨_, _, F5, _, _, _, _⟩ := S5.fr
 have m4 := F5.ns
 obtain rfl := lF F1.ns m4 fun o e => old _ _ (Heap.get?_push_of_some _ (Heap.get?_push_of_some _ e))
 have IC : s.heap.objs.size ≠ ((s.heap.push oI).push (listOf ([] : List Value).toArray 0)).objs.size := by rw [szC]; lia
 have DC : (s.heap.push oI).objs.size ≠ ((s.heap.push oI).push (listOf ([] : List Value).toArray 0)).objs.size := by rw [szC, szD]; lia
 have ID : s.heap.objs.size ≠ (s.heap.push oI).objs.size := by rw [szD]; lia
 have st := st fun b o e => old _ _ (Heap.get?_push_of_some _ e)
 exact k _ ⟨O, hc, S1, F1.ns, nI, nD, nC, IC, DC, ID, isC O hkind fC.L fC.g⟩ st fun its J tk j => .mk (i := 0) (Nat.zero_le _) (Nat.le_refl _) (S5.toC m4 hns (.inr rfl) fC.r) (ez5.toC (O.here hc)) st
  (.inl (.inl (.inr rfl))) (.inl (.inr rfl)) (S1.frA nI).r (S1.frA nD).r (old _ _ (Heap.get?_push_size _ rfl)) .nil j
end
section
variable {X : Fx} {σ : SS} {ow1 : Addr → Prop} {ρ1 : List Addr} {scope : Scope} {I D C : Addr} {ml : Str → Option Value} {s : Shared} {va : Value} {its : List SV} {fp : List Addr} {P : Nat → Value → Prop} {St : Nat → Heap → Prop} {J : List SV → List SV → List aa → Prop} {K : List SV → List aa → Prop}
theorem CS.done (c : CS X σ ow1 ρ1 s.heap scope I D C ml) {ow' : Addr → Prop} {ρ' : List Addr} {acc : List SV} {cel : List aa} {vs : List Value} {k : Nat} {h' h'' : Heap} (S : SR (XC X scope C ml) ow' ρ' h' ⟨[], cel⟩) (e : Ex (XC X scope C ml) ow1 ρ1 s.heap ow' ρ' h')
  (oI : ow' I) (mI : I ∉ ρ') (mD : D ∉ ρ') (gD : h'.get? D = some (listOf vs.toArray k)) (rvs : VRs (Pz h' ow') X.w vs acc) (j : K acc cel) (kp : ∀ b o, b ∉ [I] → h'.get? b = some o → h''.get? b = some o) : dR X σ ow1 ρ1 s.heap K D C h'' := by
 have fI := c.S.frA c.nI
 have fD := c.S.frA c.nD
 obtain ⟨S7, e7⟩ := S.hid e (h' := h'') (ow' := fun b => ow' b ∧ b ≠ I ∧ b ≠ D) kp (fun a m => by
   obtain rfl := kr m; exact ⟨oI, c.nI, mI, fI.L, c.IC, fI.g⟩) (fun _ z => z.1) (fun b z => by
  by_cases hb : b = I
  ·subst hb; exact .inr ⟨mI, fI.L, c.IC, fI.no⟩
  ·by_cases hb' : b = D
   ·subst hb'; exact .inr ⟨mD, fD.L, c.DC, fD.no⟩
   ·exact .inl ⟨z, hb, hb'⟩) (fun b z m => absurd (List.mem_singleton.mp m) z.2.1)
 have gD7 := kp D _ (fun m => c.ID (List.mem_singleton.mp m).symm) gD
 have rvs7 : VRs (Pz h'' fun b => ow' b ∧ b ≠ I ∧ b ≠ D) X.w vs acc := rvs.mono fun b o p => ⟨kp b o (fun m => p.2 (List.mem_singleton.mp m ▸ oI)) p.1, fun z => p.2 z.1⟩
 have e8 := e7.ofC c.nC
 obtain ⟨mf, ml', F7, n7, _, d2, _⟩ := S7.fr
 obtain rfl := d2 ml rfl
 obtain ⟨_, mf1, F1, _, b1, _, lz1⟩ := c.S.fr
 obtain rfl := b1 c.hc
 obtain rfl := lF F1.ns c.m fun _ e => e
 have lL := c.O.here c.hc
 refine ⟨⟨_, ρ', acc, cel, ⟨.mk _ _ F7 (lL ▸ F7.ns) (fun _ => rfl) (fun m e => nomatch c.hc.symm.trans e) (fun y sv e => let ⟨v, f1, f2⟩ := lz1 y sv e; ⟨v, f1, c.S.ar e8 f2⟩), S7.len, S7.cel, S7.nd, fun a ha => ⟨(S7.off a ha).1, (S7.off a ha).2.1, (S7.off a ha).2.2.1, lL ▸ (S7.off a ha).2.2.1⟩, S7.owL, lL ▸ S7.owL, S7.low, fun y i e => ?_, S7.kf⟩, e8, .lst ⟨gD7, fun z => z.2.2 rfl⟩ rvs7, j, ⟨S.owl, c.IC.symm, c.DC.symm⟩, fun m => (S7.off _ m).2.2.2 rfl⟩, c.nC, ⟨ml', n7⟩⟩
 obtain ⟨c', f1, f2⟩ := c.S.var y i e
 obtain ⟨t, rfl⟩ := e8.pre
 exact ⟨c', f1, (List.getElem?_append_left (List.getElem?_eq_some_iff.mp f2).1).trans f2⟩
theorem CS.turn (c : CS X σ ow1 ρ1 s.heap scope I D C ml) {x : Str} {px : Pos} (hx : scope.names.lookup x = some .local) (it : gG X ow1 s.heap va its I fp P St) (hz : its.length ≤ 16384) {n : Nat} {s' : Shared} (inv : mZ (XC X scope C ml) ow1 ρ1 s St I D its J n s')
  {B : Shared → Prop} {E : Value → Shared → Prop} {Q : Option Value → Shared → Prop} (hK : ∀ acc cel, J [] acc cel → K acc cel)
  (hn : ∀ h' tk, dR X σ ow1 ρ1 s.heap K D C h' → Q none { s with heap := h', toks := tk })
  (hs : ∀ v s₁, wpAny (model af X.w) X.A (assign (.Name x px) (XC X scope C ml).env v) (fun _ sz3 => B sz3) E s₁ → Q (some v) s₁)
  (hB : ∀ ow3 ρ3 hz3 tk3 d acc cel ds, SR (XC X scope C ml) ow3 ρ3 hz3 ⟨[(x, .v d)], cel⟩ → J (d :: ds) acc cel →
   (∀ ow4 ρ4 hz4 tk4 σ4, Ex (XC X scope C ml) ow3 ρ3 hz3 ow4 ρ4 hz4 → SR (XC X scope C ml) ow4 ρ4 hz4 σ4 → J ds acc σ4.cel → ∃ m, m < n ∧ mZ (XC X scope C ml) ow1 ρ1 s St I D its J m { s with heap := hz4, toks := tk4 }) →
   (∀ ow4 ρ4 hz4 tk4 σ4 y sv, Ex (XC X scope C ml) ow3 ρ3 hz3 ow4 ρ4 hz4 → SR (XC X scope C ml) ow4 ρ4 hz4 σ4 → VR (Pz hz4 ow4) X.w y sv → J ds (acc ++ [sv]) σ4.cel →
    wpAny (model af X.w) X.A (call (.builtin "list.append") [.ref D, y]) (fun _ sz5 => ∃ m, m < n ∧ mZ (XC X scope C ml) ow1 ρ1 s St I D its J m sz5) E { s with heap := hz4, toks := tk4 }) → B { s with heap := hz3, toks := tk3 }) :
  wpAny (model af X.w) X.A (pyNext (.ref I)) Q E s' := by
 induction inv using mZ.casesOn
 rename_i i ow' ρ' acc cel vs k h' tk' hle hal S6 e6 st oI oD mI mD gD rvs jc
 by_cases hlt : i < its.length
 ·refine it.W.item i _ _ _ hlt st fun v h'' tk'' hP st' kp => hs _ _ ?_
  obtain ⟨d, hd, rv⟩ := it.val i v hP
  have fI := c.S.frA c.nI
  have fD := c.S.frA c.nD
  obtain ⟨S7, e7⟩ := S6.hid e6 (h' := h'') kp (fun a m => by
   obtain rfl := kr m; exact ⟨oI, c.nI, mI, fI.L, c.IC, fI.g⟩) (fun _ z => z) (fun _ z => .inl z) (fun b _ m => List.mem_singleton.mp m ▸ let ⟨o, e, _⟩ := it.alive _ _ st'; ⟨o, e⟩)
  have gD7 := kp D _ (fun m => c.ID (List.mem_singleton.mp m).symm) gD
  have rvs7 : VRs (Pz h'' ow') X.w vs acc := rvs.mono fun b o p => ⟨kp b o (fun m => p.2 (List.mem_singleton.mp m ▸ oI)) p.1, p.2⟩
  have dr : its.drop i = d :: its.drop (i + 1) := by rw [List.drop_eq_getElem_cons hlt, (List.getElem?_eq_some_iff.mp hd).2]
  rw [dr] at jc
  have keepSt : ∀ {ow3 ρ3 hz3}, Ex (XC X scope C ml) ow' ρ' h'' ow3 ρ3 hz3 → St (i + 1) hz3 := fun {ow3 ρ3 hz3} ex => by
   refine it.W.frame _ _ _ st' fun b hb o e => ?_
   rcases it.notOw hb with rfl | nb
   ·exact ex.keep _ o e mI c.IC fI.L
   ·by_cases bI : b = I
    ·subst bI; exact ex.keep _ o e mI c.IC fI.L
    obtain ⟨o', p⟩ := (it.fp b hb).resolve_left bI
    exact ex.keep b o e (fun m => (e7.new b (S7.off b m).1).elim nb fun z => ao p.1 z) (fun z => ao ((congrArg s.heap.get? (show b = C from z)).symm.trans p.1) c.nC) (fun z => nb (z ▸ c.S.owL))
  have fI' : ∀ {ow3 ρ3 hz3}, Ex (XC X scope C ml) ow' ρ' h'' ow3 ρ3 hz3 → I ∉ ρ3 := fun ex m => (ex.fresh _ m).elim mI fun z => let ⟨_, e, _⟩ := it.alive _ _ st'; ao e z
  have fD' : ∀ {ow3 ρ3 hz3}, Ex (XC X scope C ml) ow' ρ' h'' ow3 ρ3 hz3 → D ∉ ρ3 := fun ex m => (ex.fresh _ m).elim mD fun z => ao gD7 z
  have lt : its.length - (i + 1) < its.length - i := by lia
  refine dU (bS c.ic.ok (lookup_relabel_local hx) (K := fun σ' => σ' = ⟨[(x, .v d)], cel⟩) rfl) ow' ρ' { s with heap := h'', toks := tk'' } v S7 (.v (c.S.vr (e7.ofC c.nC) rv)) _ _ fun _ _ σ3 ow3 ρ3 hz3 tk3 ez3 S3 _ kz3 => ?_
  subst kz3
  refine hB ow3 ρ3 hz3 tk3 d acc cel _ S3 jc (fun ow4 ρ4 hz4 tk4 σ4 ez4 S4 j => ?_) fun ow4 ρ4 hz4 tk4 σ4 y sv ez4 S4 ry j => ?_
  ·have e := ez3.trans ez4
   exact ⟨_, lt, .mk hlt (Nat.le_succ_of_le hal) S4.forget (e7.trans e) (keepSt e) (e.own _ oI) (e.own _ oD) (fI' e) (fD' e) (e.keep _ _ gD7 mD c.DC fD.L) (S7.vrs e rvs7) j⟩
  ·have e := ez3.trans ez4
   have a4 := e.keep _ _ gD7 mD c.DC fD.L
   have hvl : vs.toArray.size ≤ sizeLine := by rw [List.size_toArray, rvs.length]; exact Nat.le_trans (Nat.le_trans hal (Nat.le_trans hle hz)) (by decide)
   refine call_meets PySem.F.slot_list_append ⟨_, a4, rfl⟩ PySem.F.entry_list_append (PySem.F.args_list_append_2 _ _) (list_append D vs.toArray k y hvl) ⟨a4, ?_⟩
   obtain ⟨m, em⟩ := fU a4 (fun x => x.push y)
   have ee : vs.toArray.push y = (vs ++ [y]).toArray := by simp
   rw [ee] at em
   have kpD : ∀ b o, b ∉ [D] → hz4.get? b = some o → (hz4.update D (Obj.mapSeq fun x => x.push y)).get? b = some o := fun b o nb e => ((Heap.SameBut.update ..).2 b (fun z => nb (z ▸ .head _))).trans e
   have a2 := e.own _ oD
   obtain ⟨S8, e8⟩ := S4.hid (e7.trans e) (wr := [D]) kpD (fun a m => by obtain rfl := kr m; exact ⟨a2, c.nD, fD' e, fD.L, c.DC, fD.g⟩) (fun _ z => z) (fun _ z => .inl z) (fun b _ m => by obtain rfl := kr m; exact ⟨_, em⟩)
   have up : ∀ b o, Pz hz4 ow4 b o → Pz (hz4.update D (Obj.mapSeq fun x => x.push y)) ow4 b o := fun b o p => ⟨kpD b o (fun m => p.2 (List.mem_singleton.mp m ▸ a2)) p.1, p.2⟩
   have stD : St (i + 1) (hz4.update D (Obj.mapSeq fun x => x.push y)) := it.W.frame _ _ _ (keepSt e) fun b hb o e => kpD b o (fun m => by
    obtain rfl := kr m
    rcases it.fp _ hb with z | ⟨_, p⟩
    ·exact c.ID z.symm
    ·exact ao p.1 c.nD) e
   exact ⟨_, lt, .mk hlt (by rw [List.length_append]; exact Nat.succ_le_succ hal) S8.forget e8 stD (e.own _ oI) a2 (fI' e) (fD' e) em (((S7.vrs e rvs7).mono up).append (.cons (ry.mono up) .nil)) j⟩
 ·obtain rfl : i = its.length := by lia
  rw [List.drop_length] at jc
  exact it.W.done _ _ _ st fun h'' tk'' kp => hn _ _ (c.done S6 e6 oI mI mD gD rvs (hK _ _ jc) kp)
theorem CS.loop (c : CS X σ ow1 ρ1 s.heap scope I D C ml) {x : Str} {px : Pos} {elt iter : Expr} {ifs : List Expr} {pos : Pos} (hx : scope.names.lookup x = some .local) (it : gG X ow1 s.heap va its I fp P St) (hz : its.length ≤ 16384) {R : Result → Shared → Prop}
  (hRR : ∀ h' tk, dR X σ ow1 ρ1 s.heap K D C h' → R (.ok .next) { s with heap := h', toks := tk }) {s' : Shared} (inv0 : mZ (XC X scope C ml) ow1 ρ1 s St I D its (fun ds acc cel => gA (XC X scope C ml) x ifs elt ds acc cel K) its.length s') :
  codeAny (model af X.w) X.A (.compLoop (.ListComp elt [⟨.Name x px, iter, ifs, 0⟩] scope pos) 0 (.ref I) (.ref D) (XC X scope C ml).env) R s' := by
 refine codeAny_compLoop_tests _ (fun n s' inv => ?_) its.length inv0
 refine c.turn hx it hz inv (fun _ _ k => k) (fun h' tk co => hRR _ _ co) (fun _ _ k => k) fun ow3 ρ3 hz3 tk3 d acc cel ds S3 jc step0 step1 => ?_
 have tests : aL (XC X scope C ml) ow3 ρ3 { s with heap := hz3, toks := tk3 } RB (forIn ifs true fun c r => if r = true then do let ok ← isTrue c (XC X scope C ml).env (eval c (XC X scope C ml).env); pure (ForInStep.yield ok) else pure (ForInStep.yield r)) (fun b σ1 => Br b (JE (XC X scope C ml) elt σ1 fun v σ2 => asV v fun sv => gA (XC X scope C ml) x ifs elt ds (acc ++ [sv]) σ2.cel K) (gA (XC X scope C ml) x ifs elt ds acc σ1.cel K)) := by
  intro Q E q
  induction ifs using List.casesOn with
  | nil => exact wpAny_tests_nil (q true true _ _ _ _ tk3 .refl S3 rfl jc)
  | cons a l => induction l using List.casesOn with
   | nil => exact wpAny_tests_one (jc ow3 ρ3 { s with heap := hz3, toks := tk3 } S3 Q E q)
   | cons _ _ => exact False.elim jc
 refine tests _ _ fun b b' σ4 ow4 ρ4 h4' tk4 ez4 S4 rz4 kz4 => ?_
 obtain rfl : b = b' := rz4
 induction b using Bool.casesOn with
 | false => exact step0 _ _ _ _ _ ez4 S4 kz4
 | true =>
  refine kz4 ow4 ρ4 { s with heap := h4', toks := tk4 } S4 _ _ fun y sy σ5 ow5 ρ5 hz5 tk5 ez5 S5 rz5 kz5 => ?_
  obtain ⟨sv, rfl, kz5⟩ := bj kz5
  exact step1 _ _ _ _ _ _ _ (ez4.trans ez5) S5 rz5.inv kz5
end
section
variable {X : Fx} {σ : SS}
theorem m8 (O : X.Ok) (hcomp : X.comp = none) {elt iter : Expr} {x : Str} {px : Pos} {ifs : List Expr} {scope : Scope} {pos : Pos} {ow1 : Addr → Prop} {ρ1 : List Addr} {s : Shared} {va : Value} {its : List SV} {oI : Obj} {fp : List Addr} {P : Nat → Value → Prop} {St : Nat → Heap → Prop} {K : List SV → List aa → Prop} {E : Value → Shared → Prop} {RR : Value → Addr → Result → Shared → Prop}
  (hcell : ∀ y ∈ scope.names, y.2 ≠ .cell) (hkind : scope.kind = .function) (hx : scope.names.lookup x = some .local) (hfr : cG scope.names X.vid = true)
  (S1 : SR X ow1 ρ1 s.heap σ) (hof : oI.isFreed = false) (it : gG X ow1 s.heap va its s.heap.objs.size fp P St) (st0 : St 0 (s.heap.push oI)) (hz : its.length ≤ 16384)
  (jc : ∀ X', dN X X' scope → gA X' x ifs elt its [] σ.cel K)
  (hRR : ∀ D C h' tk, dR X σ ow1 ρ1 s.heap K D C h' → RR (.ref D) C (.ok .next) { s with heap := h', toks := tk }) :
  wpAny (model af X.w) X.A (newList []) (fun acc sz3 => wpAny (model af X.w) X.A (newFunctionEnv scope X.env.globals (eK X.env scope.names []) [] X.env.qual none .none (some X.env)) (fun cenv sz4 =>
   codeAny (model af X.w) X.A (.compStart (.ListComp elt [⟨.Name x px, iter, ifs, 0⟩] scope pos) 0 (.ref s.heap.objs.size) acc { cenv with scope := relabel scope X.env }) (RR acc cenv.locals) sz4) E sz3) E { s with heap := s.heap.push oI } := by
 refine wpAny_newObj_type (wpAny_newFunctionEnv hcell (fun y hy => nomatch hy) (fun hz4 hns hsb => ?_) hkind)
 refine mQ O hcomp hkind S1 hof hns hsb (s := s) rfl (fun up => it.W.frame _ _ _ st0 fun b _ o e => up b o e) fun ml c st4 inv0 => ?_
 have lp := c.loop hx it hz (pos := pos) (px := px) (iter := iter) (R := RR _ _) (fun _ _ co => hRR _ _ _ _ co) (inv0 _ _ s.toks (jc _ c.ic))
 exact codeAny_compStart_list lp (it.W.self 0 { s with heap := hz4, toks := s.toks } _ _ st4 lp)
end
end
section
section
variable {X : Fx} {σ : SS}
noncomputable def d7 (sc : Scope) (x : Str) : Bool := sc.names.all (fun p => match p.2 with
  | .cell => false
  | .local => decide (sc.names.lookup p.1 = some .local)
  | _ => true) && decide (sc.kind = .function) && decide (sc.names.lookup x = some .local)
theorem eU {sc : Scope} {x : Str} (h : d7 sc x = true) : (∀ y ∈ sc.names, y.2 ≠ .cell) ∧ (∀ y ∈ sc.names, y.2 = .local → sc.names.lookup y.1 = some .local) ∧ sc.kind = .function ∧ sc.names.lookup x = some .local := by
 obtain ⟨h, h3⟩ := Bool.and_eq_true_iff.mp h
 obtain ⟨h1, h2⟩ := Bool.and_eq_true_iff.mp h
 refine ⟨fun y hy e => ?_, fun y hy e => ?_, of_decide_eq_true h2, of_decide_eq_true h3⟩
 ·have := List.all_eq_true.mp h1 y hy
  rw [e] at this; cases this
 ·have := List.all_eq_true.mp h1 y hy
  rw [e] at this; exact of_decide_eq_true this
theorem lB {ow : Addr → Prop} {ρ : List Addr} {h : Heap} (S : SR X ow ρ h σ) {sc : Scope} (hf : cG sc.names X.vid = true) : closureFor sc X.env = pure (eK X.env sc.names []) := jS fun n hn => by
 have := List.all_eq_true.mp hf n hn
 obtain ⟨i, e⟩ := Option.isSome_iff_exists.mp this
 obtain ⟨c, e1, _⟩ := S.var n i e
 exact ⟨c, e1⟩
theorem sC {K : List SV → List aa → Prop} {ow1 : Addr → Prop} {ρ1 : List Addr} {hz1 h' h'' : Heap} {D C : Addr} (S1 : SR X ow1 ρ1 hz1 σ) (co : dR X σ ow1 ρ1 hz1 K D C h') (hs : Heap.SameBut C h' h'') : ∃ ow' ρ' acc cel', SR X ow' ρ' h'' ⟨σ.loc, cel'⟩ ∧ Ex X ow1 ρ1 hz1 ow' ρ' h'' ∧ VR (Pz h'' ow') X.w (.ref D) (.lst acc) ∧ K acc cel' := by
 obtain ⟨⟨ow', ρ', acc, cel', S, e, v, k, oC, nC⟩, fr, _⟩ := co
 have no : ¬ ow1 C := fun z => let ⟨_, e⟩ := S1.low _ z; ao e fr
 have cL : C ≠ X.L := fun z => no (z ▸ S1.owL)
 have cl : C ≠ X.env.locals := fun z => no (z ▸ S1.owl)
 have ch : X.hz0.get? C = none := by
  obtain ⟨mf, _, F, _⟩ := S1.fr
  cases z : X.hz0.get? C with
  | none => rfl
  | some o => exact ao (F.keep _ _ z) fr
 have kp : ∀ b o, b ∉ [C] → h'.get? b = some o → h''.get? b = some o := fun b o nb e => (hs.2 b (fun z => nb (by rw [z]; exact .head _))).trans e
 obtain ⟨S', e'⟩ := S.hid e (h' := h'') (wr := [C]) (ow' := fun b => ow' b ∧ b ≠ C) kp (fun a m => by rw [List.mem_singleton.mp m]; exact ⟨oC, fr, nC, cL, cl, ch⟩) (fun _ z => z.1) (fun b z => by
  by_cases hb : b = C
  ·subst hb; exact .inr ⟨nC, cL, cl, no⟩
  ·exact .inl ⟨z, hb⟩) (fun b z m => absurd (List.mem_singleton.mp m) z.2)
 exact ⟨_, ρ', acc, cel', S', e', v.mono fun b o p => ⟨kp b o (fun m => p.2 (by rw [List.mem_singleton.mp m]; exact oC)) p.1, fun z => p.2 z.1⟩, k⟩
theorem mY {K : AV → SS → Prop} {elt iter : Expr} {x : Str} {px : Pos} {ifs : List Expr} {scope : Scope} {pos : Pos} (O : X.Ok) (hcomp : X.comp = none) (hok : d7 scope x = true) (hfr : cG scope.names X.vid = true) (hs : ∀ v, foldedSetIterable iter X.env v = pure v)
  (h : JE X iter σ fun a σ1 => ∃ its, eM X a σ1 its ∧ its.length ≤ 16384 ∧ ∀ X', dN X X' scope → gA X' x ifs elt its [] σ1.cel fun acc cel => K (.v (.lst acc)) ⟨σ1.loc, cel⟩) : JE X (.ListComp elt [⟨.Name x px, iter, ifs, 0⟩] scope pos) σ K := by
 obtain ⟨a1, a2, a3, a4⟩ := eU hok
 intro ow ρ s S Q E q
 rw [eval_ListComp]
 refine wpAny_comprehension_free (use := none) rfl hs (lB S hfr) a3 a2 (h ow ρ s S _ _ fun a sa σ1 ow1 ρ1 hz1 tk1 ez1 S1 rz1 kz1 => ?_)
 obtain ⟨its, hi, hz, jc⟩ := kz1
 refine hi ow1 ρ1 { s with heap := hz1, toks := tk1 } a S1 rz1 _ _ fun o fp P St hof it st0 => ?_
 refine m8 (RR := fun acc C => compPost (model af X.w) X.A E none Q acc C) (s := { s with heap := hz1, toks := tk1 }) O hcomp a1 a3 a4 hfr S1 hof it st0 hz jc fun D C h' tk co => ?_
 obtain ⟨m', hn⟩ := co.ns
 refine ⟨m', hn, fun h'' hs => ?_⟩
 obtain ⟨ow', ρ', acc, cel', S', e', v, k⟩ := sC S1 co hs
 exact q _ _ _ _ _ _ tk (ez1.trans e') S' (.v v) k
theorem oO {elt : Expr} {gens : List Comprehension} {scope : Scope} {pos py : Pos} {y : Str} {line : Nat} {env : Env} (hk : env.scope.kind = .function) (hy : env.kindOf y = some .local) (hl : Nat.beq py.line pos.line = true) (hn : (scope.names.any fun p => Fast.sEq p.1 y && (p.2 == .local || p.2 == .cell)) = false) : swapsWith (.ListComp elt gens scope pos) (some (.Name y py)) line env = pure true := by
 have e : swapsWith (.ListComp elt gens scope pos) (some (.Name y py)) line env = pure (env.blockKind == .function && env.kindOf y == some .local && py.line == (Expr.ListComp elt gens scope pos).pos.line && !(scope.names.any fun (n, k) => n == y && (k == .local || k == .cell))) := rfl
 have h1 : (scope.names.any fun (n, k) => n == y && (k == .local || k == .cell)) = false := by
  rw [← hn]
  congr 1
  funext p
  rw [← iC]
 have h2 : env.blockKind = .function := by unfold Env.blockKind; rw [hk]; rfl
 have h3 : py.line = (Expr.ListComp elt gens scope pos).pos.line := Nat.eq_of_beq_eq_true hl
 rw [e, h1, h2, hy, h3]
 simp
theorem jX {K : SF → SS → Prop} {elt iter : Expr} {x y : Str} {px py : Pos} {ifs : List Expr} {scope : Scope} {pos spos : Pos} (O : X.Ok) (hcomp : X.comp = none) (hok : d7 scope x = true) (hfr : cG scope.names X.vid = true) (hs : ∀ v, foldedSetIterable iter X.env v = pure v)
  (hy : X.env.kindOf y = some .local) (hl : Nat.beq py.line pos.line = true) (hn : (scope.names.any fun p => Fast.sEq p.1 y && (p.2 == .local || p.2 == .cell)) = false)
  (h : JE X iter σ fun a σ1 => ∃ its, eM X a σ1 its ∧ its.length ≤ 16384 ∧ ∀ X', dN X X' scope → gA X' x ifs elt its [] σ1.cel fun acc cel => K .next ⟨(y, .v (.lst acc)) :: σ1.loc, cel⟩) : JS X (.Assign [.Name y py] (.ListComp elt [⟨.Name x px, iter, ifs, 0⟩] scope pos) spos) σ K := by
 obtain ⟨a1, a2, a3, a4⟩ := eU hok
 intro ow ρ s S Q E q
 rw [exec_Assign_Name_used _ _ _ _ (oO O.kind hy hl hn)]
 refine wpAny_bind (wpAny_standAt (wpAny_bind ?_))
 refine wpAny_bind (wpAny_mono (wpAny_comprehension_free (use := some (assign (.Name y py) X.env)) (Q := fun _ s' => Q .next s') rfl hs (lB S hfr) a3 a2
  (h ow ρ s S _ _ fun a sa σ1 ow1 ρ1 hz1 tk1 ez1 S1 rz1 kz1 => ?_)) (fun _ s' hq => wpAny_pure (wpAny_pure hq)) fun _ _ e => e)
 obtain ⟨its, hi, hz, jc⟩ := kz1
 refine hi ow1 ρ1 { s with heap := hz1, toks := tk1 } a S1 rz1 _ _ fun o fp P St hof it st0 => ?_
 refine m8 (RR := fun acc C => compPost (model af X.w) X.A E (some (assign (.Name y py) X.env)) (fun _ s' => Q .next s') acc C) (s := { s with heap := hz1, toks := tk1 }) O hcomp a1 a3 a4 hfr S1 hof it st0 hz jc fun D C h' tk co => ?_
 obtain ⟨⟨ow', ρ', acc, cel', S', e', v, k, oC, nC⟩, fr, m', hnC⟩ := co
 have no : ¬ ow1 C := fun z => let ⟨_, e⟩ := S1.low _ z; ao e fr
 have cl : C ≠ X.env.locals := fun z => no (z ▸ S1.owl)
 refine dU (bS O hy (K := fun σ' => σ' = ⟨(y, .v (.lst acc)) :: σ1.loc, cel'⟩) rfl) ow' ρ' { s with heap := h', toks := tk } (.ref D) S' (.v v) _ _ fun _ _ σ3 ow3 ρ3 hz3 tk3 ez3 S3 _ kz3 => ?_
 subst kz3
 have cL : C ≠ X.L := fun z => no (z ▸ S1.owL)
 have oC3 := ez3.own C oC
 have nC3 : C ∉ ρ3 := fun m => (ez3.fresh C m).elim nC fun z => by obtain ⟨o, _, _, e, _⟩ := hnC; exact ao e z
 obtain ⟨oc, es, ep, gC, rC⟩ := hnC
 have gC3 := ez3.keep C oc gC nC cl cL
 refine ⟨m', ⟨oc, es, ep, gC3, rC⟩, fun hz4 hs4 => ?_⟩
 have kp : ∀ b o, b ∉ [C] → hz3.get? b = some o → hz4.get? b = some o := fun b o nb e => (hs4.2 b (fun z => nb (by rw [z]; exact .head _))).trans e
 have ch : X.hz0.get? C = none := by
  obtain ⟨mf, _, F, _⟩ := S1.fr
  cases z : X.hz0.get? C with
  | none => rfl
  | some o => exact ao (F.keep _ _ z) fr
 obtain ⟨S4, ez4⟩ := S3.hid (e'.trans ez3) (h' := hz4) (wr := [C]) (ow' := fun b => ow3 b ∧ b ≠ C) kp (fun a m => by rw [List.mem_singleton.mp m]; exact ⟨oC3, fr, nC3, cL, cl, ch⟩) (fun _ z => z.1) (fun b z => by
  by_cases hb : b = C
  ·subst hb; exact .inr ⟨nC3, cL, cl, no⟩
  ·exact .inl ⟨z, hb⟩) (fun b z m => absurd (List.mem_singleton.mp m) z.2)
 exact q _ _ _ _ _ _ tk3 (ez1.trans ez4) S4 .next k
end
end
section
section
variable {X : Fx} {σ : SS}
theorem JT.mono {e : Expr} {K K' : Bool → SS → Prop} (h : JT X e σ K) (k : ∀ b σ, K b σ → K' b σ) : JT X e σ K' := fun ow ρ s S => (h ow ρ s S).mono k
theorem JL.mono {pos : Pos} {e : List Expr} {K K' : List AV → SS → Prop} (h : JL X pos e σ K) (k : ∀ b σ, K b σ → K' b σ) : JL X pos e σ K' := fun ow ρ s S => (h ow ρ s S).mono k
theorem JS.mono {e : Stmt} {K K' : SF → SS → Prop} (h : JS X e σ K) (k : ∀ b σ, K b σ → K' b σ) : JS X e σ K' := fun ow ρ s S => (h ow ρ s S).mono k
theorem JB.mono {e : List Stmt} {K K' : SF → SS → Prop} (h : JB X e σ K) (k : ∀ b σ, K b σ → K' b σ) : JB X e σ K' := fun ow ρ s S => (h ow ρ s S).mono k
theorem JA.mono {e : Expr} {v : AV} {K K' : SS → Prop} (h : JA X e v σ K) (k : ∀ σ, K σ → K' σ) : JA X e v σ K' := fun ow ρ s va S r => (h ow ρ s va S r).mono fun _ σ => k σ
theorem ip.mono {o : Option Expr} {K K' : Option Int → SS → Prop} (h : ip X o σ K) (k : ∀ b σ, K b σ → K' b σ) : ip X o σ K' := fun ow ρ s S => (h ow ρ s S).mono k
theorem Br.mono {b : Bool} {P Q P' Q' : Prop} (h : Br b P Q) (f : P → P') (g : Q → Q') : Br b P' Q' := by induction b using Bool.casesOn; exact g h; exact f h
theorem Gd.mono {b : Bool} {P P' : Prop} (h : Gd b P) (f : P → P') : Gd b P' := by induction b using Bool.casesOn; exact h.elim; exact f h
theorem Gd.mk {b : Bool} {P : Prop} (h : b = true) (p : P) : Gd b P := by subst h; exact p
noncomputable def JWh (X : Fx) (test : Expr) (body : List Stmt) : Nat → SS → (SF → SS → Prop) → Prop
 | 0, _, _ => False
 | n + 1, σ, K => JT X test σ fun b σ1 => Br b (JB X body σ1 fun f σ2 => match f with
  | .next => JWh X test body n σ2 K
  | .cont => JWh X test body n σ2 K
  | .brk => K .next σ2
  | .ret v => K (.ret v) σ2) (K .next σ1)
theorem s7 {test : Expr} {body : List Stmt} {pos : Pos} {K : SF → SS → Prop} (n : Nat) (h : JWh X test body n σ K) : JS X (.While test body [] pos) σ K := by
 intro ow ρ s S Q E q
 refine wpAny_While ?_
 let Inv : Nat → Shared → Prop := fun n s' => ∃ ow' ρ' σ' h' tk', s' = { s with heap := h', toks := tk' } ∧ SR X ow' ρ' h' σ' ∧ Ex X ow ρ s.heap ow' ρ' h' ∧ JWh X test body n σ' K
 refine codeAny_whileLoop Inv (fun n s' hI => ?_) n ⟨ow, ρ, σ, s.heap, s.toks, rfl, S, .refl, h⟩
 refine hide fun Gz0 bk0 => ?_
 obtain ⟨ow', ρ', σ', h', tk', rfl, S', e', jw⟩ := hI
 refine bk0 ?_; clear bk0 Gz0
 induction n using Nat.casesOn with
 | zero => exact jw.elim
 | succ n =>
  have jw : JT X test σ' _ := jw
  refine jw ow' ρ' { s with heap := h', toks := tk' } S' _ _ fun b b' σ1 ow1 ρ1 hz1 tk1 ez1 S1 rz1 kz1 => ?_
  obtain rfl : b = b' := rz1
  induction b using Bool.casesOn with
  | false =>
   rw [if_neg (by decide)]
   exact wpAny_execs_nil (q _ _ _ _ _ _ tk1 (e'.trans ez1) S1 .next kz1)
  | true =>
   rw [if_pos rfl]
   refine kz1 ow1 ρ1 { s with heap := hz1, toks := tk1 } S1 _ _ fun f sf σ2 ow2 ρ2 hz2 tk2 ez2 S2 rz2 kz2 => ?_
   have ee := (e'.trans ez1).trans ez2
   induction rz2 using RF.casesOn with
   | next => exact ⟨n, Nat.lt_succ_self n, ow2, ρ2, σ2, hz2, tk2, rfl, S2, ee, kz2⟩
   | cont => exact ⟨n, Nat.lt_succ_self n, ow2, ρ2, σ2, hz2, tk2, rfl, S2, ee, kz2⟩
   | brk => exact q _ _ _ _ _ _ tk2 ee S2 .next kz2
   | ret r => exact q _ _ _ _ _ _ tk2 ee S2 (.ret r) kz2
noncomputable def cA (e : Expr) : Bool := exC false (e := e) (lc := fun _ _ _ _ => true) (sc := fun _ _ _ _ => true) (dc := fun _ _ _ _ _ => true)
theorem bG {value : Expr} {t : Option Expr} {line : Nat} {env : Env} (h : cA value = false) : swapsWith value t line env = pure false := by
 induction value using Expr.casesOn <;> first | rfl | cases h
theorem ew {value t : Expr} {line : Nat} {env : Env} (h : cA value = false) : swapsWithSole [t] value line env = pure false := by
 induction value using Expr.casesOn <;> first | rfl | cases h
noncomputable def sV (e : Expr) : Bool := exC false (e := e) (tup := fun _ _ _ => true)
theorem lG {value : Expr} {ts : List Expr} {k : Nat} {tp : Pos} {env : Env} (h : sV value = false) : swappedStores [.Tuple ts k tp] value env = pure none := by
 induction value using Expr.casesOn <;> first | rfl | cases h
noncomputable def jD (names : List (Str × NameKind)) (ts vs : List Expr) : Option (List Str) :=
 match ((ts.length == 2 || ts.length == 3) && vs.length == ts.length && az vs && (ts.filterMap fun
  | .Name id pos => if names.lookup id == some .local && pos.line == (ts.head?.map (·.pos.line)).getD 0 then some id else none
  | _ => none).length == ts.length && (ts.filterMap fun
  | .Name id pos => if names.lookup id == some .local && pos.line == (ts.head?.map (·.pos.line)).getD 0 then some id else none
  | _ => none).eraseDups.length == (ts.filterMap fun
  | .Name id pos => if names.lookup id == some .local && pos.line == (ts.head?.map (·.pos.line)).getD 0 then some id else none
  | _ => none).length && !(vs.all (foldedForSure 8)) && !(vs.all (constantsAlone 8))) with
 | true => some (ts.filterMap fun
  | .Name id pos => if names.lookup id == some .local && pos.line == (ts.head?.map (·.pos.line)).getD 0 then some id else none
  | _ => none)
 | false => none
theorem jz : ∀ {vs : List Expr}, az vs = true → (vs.any fun | .Starred .. => true | _ => false) = false
 | [], _ => rfl
 | e :: r, h => by
  have ih := jz (aZ h)
  rw [List.any_cons, ih]
  induction e using Expr.casesOn <;> first | rfl | exact absurd h Bool.false_ne_true
theorem pn {ts vs : List Expr} {k j : Nat} {tp vp : Pos} {env : Env} {ns : List Str} (hk : env.scope.kind = .function) (h : jD env.scope.names ts vs = some ns) : swappedStores [.Tuple ts k tp] (.Tuple vs j vp) env = pure (some ns) := by
 unfold jD at h
 split at h
 ·rename_i g
  cases h
  refine hide fun Gz0 bk0 => ?_
  obtain ⟨g, g7⟩ := Bool.and_eq_true_iff.mp g
  obtain ⟨g, g6⟩ := Bool.and_eq_true_iff.mp g
  obtain ⟨g, g5⟩ := Bool.and_eq_true_iff.mp g
  obtain ⟨g, g4⟩ := Bool.and_eq_true_iff.mp g
  obtain ⟨g, g3⟩ := Bool.and_eq_true_iff.mp g
  obtain ⟨g1, g2⟩ := Bool.and_eq_true_iff.mp g
  refine bk0 ?_; clear bk0 Gz0
  have g7 : vs.all (constantsAlone 8) = false := by simpa using g7
  have g6 : vs.all (foldedForSure 8) = false := by simpa using g6
  have hb : (env.blockKind != .function) = false := by unfold Env.blockKind; rw [hk]; rfl
  have hst := jz g3
  have c1 : (!(ts.length == 2 || ts.length == 3) || vs.length != ts.length || env.blockKind != .function) = false := by
   rw [g1, hb, bne, g2]; rfl
  refine (if_neg fun e => Bool.false_ne_true (c1.symm.trans e)).trans ?_
  refine (if_neg fun e => Bool.false_ne_true (hst.symm.trans e)).trans ?_
  have c2 : ∀ (nm : List Str), (nm.length == ts.length) = true → (nm.eraseDups.length == nm.length) = true → (nm.length != ts.length || nm.eraseDups.length != nm.length) = false := fun nm a b => by rw [bne, a, bne, b]; rfl
  refine (if_neg fun e => Bool.false_ne_true ((c2 _ g4 g5).symm.trans e)).trans ?_
  refine (if_neg fun e => Bool.false_ne_true (g6.symm.trans e)).trans ?_
  exact (if_neg fun e => Bool.false_ne_true (g7.symm.trans e)).trans rfl
 ·cases h
theorem bH {env : Env} : ∀ {es : List Expr}, az es = true → assignEach es env = es.map fun e => (false, assign e env)
 | [], _ => rfl
 | e :: r, h => by
  have ih : az r = true → assignEach r env = r.map fun e => (false, assign e env) := bH
  induction e using Expr.casesOn <;> first | exact absurd h Bool.false_ne_true | exact congrArg (List.cons _) (ih h)
theorem iw {env : Env} {e : Expr} {es : List Expr} (h : az (e :: es) = true) : assignEach (e :: es) env = (false, assign e env) :: assignEach es env := by
 rw [bH h, bH (aZ h)]; rfl
theorem jm {env : Env} {es : List Expr} (h : az es = true) : (assignEach es env).findIdx? (·.1) = none := by
 rw [bH h, List.findIdx?_eq_none_iff]
 intro x hx
 obtain ⟨e, _, rfl⟩ := List.mem_map.mp hx
 rfl
theorem iX {env : Env} {es : List Expr} (h : az es = true) : (assignEach es env).length = es.length := by rw [bH h, List.length_map]
theorem jO {o value : Expr} {attr : Str} {p pos : Pos} {K : SF → SS → Prop} (hc : cA value = false) (h : JE X value σ fun v σ1 => JE X o σ1 fun a σ2 => kN X attr a v σ2 fun σ3 => K .next σ3) : JS X (.Assign [.Attribute o attr p] value pos) σ K := by
 intro ow ρ s S Q E q
 refine plainObj_wpAny_Assign_Attribute (h ow ρ s S _ _ fun v sv σ1 ow1 ρ1 hz1 tk1 ez1 S1 rz1 kz1 => ?_) (bG hc)
 refine kz1 ow1 ρ1 { s with heap := hz1, toks := tk1 } S1 _ _ fun a sa σ2 ow2 ρ2 hz2 tk2 ez2 S2 rz2 kz2 => ?_
 exact kz2 ow2 ρ2 { s with heap := hz2, toks := tk2 } a v S2 rz2 (S1.ar ez2 rz1) _ _ fun _ _ σ3 ow3 ρ3 hz3 tk3 ez3 S3 _ kz3 => q .next .next σ3 ow3 ρ3 hz3 tk3 ((ez1.trans ez2).trans ez3) S3 .next kz3
theorem k9 {o i value : Expr} {p pos : Pos} {K : SF → SS → Prop} (hc : cA value = false) (h : JE X value σ fun v σ1 => JE X o σ1 fun a σ2 => JE X i σ2 fun b σ3 => nU X a b v σ3 fun σ4 => K .next σ4) : JS X (.Assign [.Subscript o i p] value pos) σ K := by
 intro ow ρ s S Q E q
 refine wpAny_Assign_Subscript (h ow ρ s S _ _ fun v sv σ1 ow1 ρ1 hz1 tk1 ez1 S1 rz1 kz1 => ?_) (bG hc)
 refine kz1 ow1 ρ1 { s with heap := hz1, toks := tk1 } S1 _ _ fun a sa σ2 ow2 ρ2 hz2 tk2 ez2 S2 rz2 kz2 => ?_
 refine kz2 ow2 ρ2 { s with heap := hz2, toks := tk2 } S2 _ _ fun b sb σ3 ow3 ρ3 hz3 tk3 ez3 S3 rz3 kz3 => ?_
 exact kz3 ow3 ρ3 { s with heap := hz3, toks := tk3 } a b v S3 (S2.ar ez3 rz2) rz3 (S1.ar (ez2.trans ez3) rz1) _ _ fun _ _ σ4 ow4 ρ4 hz4 tk4 ez4 S4 _ kz4 => q .next .next σ4 ow4 ρ4 hz4 tk4 (((ez1.trans ez2).trans ez3).trans ez4) S4 .next kz4
noncomputable def nlk (x : Str) : List (Str × NameKind) → Option NameKind
 | [] => none
 | p :: r => match Fast.sEq x p.1 with
  | true => some p.2
  | false => nlk x r
theorem iT (x : Str) : ∀ l : List (Str × NameKind), nlk x l = l.lookup x
 | [] => rfl
 | (y, v) :: r => by
  show (match Fast.sEq x y with | true => some v | false => nlk x r) = _
  rw [List.lookup_cons, iT x r]
  by_cases h : x = y
  ·subst h; rw [cX, beq_self_eq_true]
  ·rw [cT h, beq_eq_false_iff_ne.mpr h]
end
end
section
open Builtin
theorem xK {id : String} {b : Array UInt8} {t : Tok} : Bytes.takeBuffer? id (.bytes b t) 0 = pure (some (b, none)) := by
 unfold Bytes.takeBuffer?
 rw [KBy.special_eq KBy.look_buffer, KBy.own_buffer]
 rw [pure_bind, pure_bind]
 have : ((0 : Int) == Bytes.fullReadOnly) = false := by decide
 rw [this]
 rw [KBy.buffer_eq]
 rfl
theorem kR {id : String} {b : Array UInt8} {t : Tok} : Bytes.takeBufferQuiet? id (.bytes b t) 0 = pure (some (b, none)) := by
 unfold Bytes.takeBufferQuiet?
 rw [xK]
 rfl
open Builtin
inductive bf : List Value → List (List UInt8) → Prop
 | nil : bf [] []
 | cons {b : List UInt8} {t : Tok} {vs : List Value} {bs : List (List UInt8)} : bf vs bs → bf (.bytes ⟨b⟩ t :: vs) (b :: bs)
theorem bf.length {vs : List Value} {bs : List (List UInt8)} (h : bf vs bs) : vs.length = bs.length := by
 induction h with
 | nil => rfl
 | cons _ ih => rw [List.length_cons, List.length_cons, ih]
theorem bf.get {vs : List Value} {bs : List (List UInt8)} (h : bf vs bs) : ∀ {i : Nat} (hi : i < vs.length), ∃ b t, vs[i] = .bytes ⟨b⟩ t ∧ bs[i]? = some b := by
 induction h with
 | nil => intro i hi; exact absurd hi (Nat.not_lt_zero _)
 | cons _ ih =>
  intro i hi
  induction i using Nat.casesOn with
  | zero => exact ⟨_, _, rfl, rfl⟩
  | succ i => exact ih (Nat.lt_of_succ_lt_succ hi)
theorem bf.noHeap {vs : List Value} {bs : List (List UInt8)} (h : bf vs bs) : ∀ (i : Nat), ((vs.take i).map fun v => (v, (none : Option Value))).any (fun x => x.1.onHeap) = false := by
 induction h with
 | nil => intro i; induction i using Nat.casesOn <;> rfl
 | cons _ ih =>
  intro i
  induction i using Nat.casesOn with
  | zero => rfl
  | succ i => rw [List.take_succ_cons, List.map_cons, List.any_cons, ih i]; rfl
theorem wX {γ : Sort _} (a : Array Value) (f : Value → γ) (g : Array Value → γ) (h : a.size ≠ 1) : Bytes.joinM.match_1 (fun _ => γ) a f g = g a := by
 unfold Bytes.joinM.match_1
 rw [dif_neg h]
theorem hZ {M : Model} {A : Around} {α : Type} {c : Prop} [Decidable c] {x y : Sem α} {Q : α → Shared → Prop} {E : Value → Shared → Prop} {s : Shared} (h : c) (k : wpAny M A x Q E s) : wpAny M A (if c then x else y) Q E s := by rw [if_pos h]; exact k
theorem gQ {M : Model} {A : Around} {α : Type} {c : Prop} [Decidable c] {x y : Sem α} {Q : α → Shared → Prop} {E : Value → Shared → Prop} {s : Shared} (h : ¬ c) (k : wpAny M A y Q E s) : wpAny M A (if c then x else y) Q E s := by rw [if_neg h]; exact k
theorem nH : ∀ (l : List (List UInt8)) (k : Nat) (acc : Array UInt8), ((l.map fun b => (⟨b⟩ : Array UInt8)).zipIdx k).foldl (fun out (p, i) => (if i > 0 then out ++ (⟨[]⟩ : Array UInt8) else out) ++ p) acc = acc ++ (⟨l.flatten⟩ : Array UInt8) := by
 intro l
 induction l with
 | nil => intro k acc; simp
 | cons b l ih =>
  intro k acc
  rw [List.map_cons, List.zipIdx_cons, List.foldl_cons, ih]
  have : (if k > 0 then acc ++ (⟨[]⟩ : Array UInt8) else acc) = acc := by split <;> simp
  dsimp only
  rw [this]
  simp
theorem oM : ∀ (l : List (List UInt8)) (acc : Nat), (l.map fun b => (⟨b⟩ : Array UInt8)).foldl (fun a b => a + b.size) acc = acc + (l.map (·.length)).sum := by
 intro l
 induction l with
 | nil => intro acc; simp
 | cons b l ih => intro acc; rw [List.map_cons, List.foldl_cons, ih]; simp; lia
theorem pJ {bs : List (List UInt8)} (hz : (bs.map (·.length)).sum ≤ 16777216) : Bytes.tooLong (Array.foldl (fun x1 x2 => x1 + x2.size) ((⟨[]⟩ : Array UInt8).size * (((bs.map fun b => (⟨b⟩ : Array UInt8)).toArray).size - 1)) (bs.map fun b => (⟨b⟩ : Array UInt8)).toArray) = false := by
 refine KBy.tooLong_not ?_
 rw [List.foldl_toArray, oM]
 simpa using hz
theorem xn (bs : List (List UInt8)) : Bytes.joined ⟨[]⟩ ((bs.map fun b => (⟨b⟩ : Array UInt8)).toArray).toList = ⟨bs.flatten⟩ := by
 unfold Bytes.joined
 rw [nH]; simp
theorem kA {prog : Program} {w : World} {A : Around} {E : Value → Shared → Prop} : ∀ (l : List Value) (keep : List Value) {Q : Unit → Shared → Prop} {s : Shared}, Q () s → wpAny (model prog w) A (Bytes.joinLetGo (l.map fun v => (v, none)) keep) Q E s
 | [], _, _, _, h => wpAny_pure h
 | v :: l, keep, _, _, h => by
  rw [List.map_cons, Bytes.joinLetGo]
  ·exact wpAny_bind (wpAny_letGo (kA l keep h))
  ·intro _ e; cases e
inductive jM (bs : List (List UInt8)) (vs : List Value) (s : Shared) (rest : List Nat) : Array (Array UInt8) × List (Value × Option Value) → Shared → Prop
 | mk (i : Nat) (hi : i ≤ vs.length) (e : rest = List.range' i (vs.length - i) 1) : jM bs vs s rest (((bs.take i).map fun b => (⟨b⟩ : Array UInt8)).toArray, (vs.take i).map fun v => (v, none)) s
@[elab_as_elim] theorem jM.fin {bs : List (List UInt8)} {vs : List Value} {s : Shared} {motive : Array (Array UInt8) × List (Value × Option Value) → Shared → Prop} {st : Array (Array UInt8) × List (Value × Option Value)} {s' : Shared} (h : jM bs vs s [] st s') (hl : vs.length = bs.length)
  (k : motive ((bs.map fun b => (⟨b⟩ : Array UInt8)).toArray, vs.map fun v => (v, none)) s) : motive st s' := by
 obtain ⟨i, hi, e1⟩ := h
 obtain rfl : i = vs.length := by
  rcases Nat.lt_or_ge i vs.length with h | h
  ·rw [eP h, List.range'_succ] at e1; cases e1
  ·exact Nat.le_antisymm hi h
 rw [hl, List.take_length, ← hl, List.take_length]
 exact k
@[elab_as_elim] theorem jM.step {bs : List (List UInt8)} {vs : List Value} {s : Shared} {motive : Array (Array UInt8) × List (Value × Option Value) → Shared → Prop} {i : Nat} {rest : List Nat} {st : Array (Array UInt8) × List (Value × Option Value)} {s' : Shared} (h : jM bs vs s (i :: rest) st s') (hb : bf vs bs)
  (k : ∀ b t', vs.toArray.getD i .none = .bytes ⟨b⟩ t' → jM bs vs s rest ((((bs.take i).map fun b => (⟨b⟩ : Array UInt8)).toArray).push ⟨b⟩, ((vs.take i).map fun v => (v, (none : Option Value))) ++ [(vs.toArray.getD i .none, none)]) s → motive (((bs.take i).map fun b => (⟨b⟩ : Array UInt8)).toArray, (vs.take i).map fun v => (v, none)) s) : motive st s' := by
 obtain ⟨j, hj, e1⟩ := h
 have hlt : j < vs.length := by
  rcases Nat.lt_or_ge j vs.length with h | h
  ·exact h
  ·rw [Nat.sub_eq_zero_of_le h] at e1; cases e1
 rw [eP hlt, List.range'_succ] at e1
 obtain ⟨rfl, rfl⟩ := List.cons.inj e1
 obtain ⟨b, t', ev, eb⟩ := hb.get hlt
 have hg : vs.toArray.getD i .none = .bytes ⟨b⟩ t' := by
  simp [Array.getD, hlt, ev]
 refine k b t' hg ?_
 have e2 : ((((bs.take i).map fun b => (⟨b⟩ : Array UInt8)).toArray).push ⟨b⟩, ((vs.take i).map fun v => (v, (none : Option Value))) ++ [(vs.toArray.getD i .none, none)]) = (((bs.take (i + 1)).map fun b => (⟨b⟩ : Array UInt8)).toArray, (vs.take (i + 1)).map fun v => (v, none)) := by
  rw [hg, List.take_add_one, List.take_add_one, eb, List.getElem?_eq_getElem hlt, ev]
  simp
 exact e2 ▸ jM.mk (i + 1) hlt rfl
theorem wV {prog : Program} {w : World} {A : Around} {E : Value → Shared → Prop} {s : Shared} {l : Addr} {vs : List Value} {n : Nat} {t : Tok} {bs : List (List UInt8)} {Q : Fin → Shared → Prop} (e : s.heap.get? l = some (listOf vs.toArray n)) (hb : bf vs bs) (h2 : vs.length ≠ 1) (hz : (bs.map (·.length)).sum ≤ 16777216)
  (h : ∀ t' k, Q (.done (.ret (.bytes ⟨bs.flatten⟩ t'))) { s with toks := k }) : wpAny (model prog w) A (Builtin.«bytes.join» ⟨[.bytes ⟨[]⟩ t, .ref l], []⟩) Q E s := by
 have hT : s.TypeIs (.ref l) "list" := ⟨_, e, rfl⟩
 refine wpAny_bind (wpAny_of_eq (a := (.bytes ⟨[]⟩ t, .ref l)) rfl ?_)
 have hk : (Bytes.Kind.bytes == Bytes.Kind.bytes) = true := rfl
 refine hZ hk ?_
 refine wpAny_bind ?_
 refine wpAny_bind (wpAny_typeOf hT ?_)
 refine hZ (by decide) ?_
 refine wpAny_pure ?_
 refine wpAny_bind (wpAny_seqItems e rfl ?_)
 refine hZ hk ?_
 rw [wX _ _ _ (by simpa using h2)]
 dsimp only
 rw [Std.Legacy.Range.forIn_eq_forIn_range']
 refine wpAny_bind ?_
 rw [show (List.range' [:vs.toArray.size].start [:vs.toArray.size].size [:vs.toArray.size].step) = List.range' 0 vs.length 1 by simp [Std.Legacy.Range.size]]
 have hl := hb.length
 refine wpAny_forIn_list _ (jM bs vs s) _ (fun i rest st s' hI => ?_) (fun st s' hI => ?_) _ _ (.mk 0 (Nat.zero_le _) rfl)
 ·refine jM.step hI hb fun b t' hg nx => ?_
  refine wpAny_bind (wpAny_seqItems e rfl ?_)
  have ha : ((Bytes.Kind.bytes == Bytes.Kind.bytearray) || ((vs.take i).map fun v => (v, (none : Option Value))).any (fun x => x.1.onHeap)) = false := hb.noHeap i
  refine gQ (fun z => Bool.false_ne_true (ha.symm.trans z)) ?_
  refine wpAny_bind (wpAny_holding (wpAny_of_eq (hg ▸ kR) ?_))
  refine wpAny_bind (wpAny_seqItems e rfl ?_)
  exact gQ (by simp) (wpAny_pure nx)
 ·refine jM.fin hI hl ?_
  refine wpAny_bind (wpAny_of_eq (a := (⟨[]⟩ : Array UInt8)) rfl ?_)
  refine gQ (fun z => Bool.false_ne_true ((pJ hz).symm.trans z)) ?_
  rw [xn]
  refine wpAny_bind (wpAny_mkBytes ?_ ?_)
  ·exact wpAny_bind (wpAny_holding (wpAny_point (wpAny_bind (kA _ _ (wpAny_pure (h _ _))))))
  ·show bs.flatten.length ≤ _
   rw [List.length_flatten]; exact hz
end
section
open Builtin
theorem d9 : Slot "bytes" "join" "bytes.join" :=
 .of (owner := "bytes") (n := "join") (by rw [typeLookup_type, builtinLookup_eq_fast]; kernel_rfl) (by decide +kernel) (by decide +kernel) (by decide +kernel)
  (by first | exact .inl (by decide +kernel) | exact .inr (by decide +kernel)) (by rw [isSubtype_type]; kernel_rfl)
theorem iz : typeOf (.builtin "bytes.join") = pure (.type "method_descriptor") := by show builtinType _ = _; rw [builtinType_eq_fast]; kernel_rfl
theorem hJ : entryFor table "bytes.join" = some Builtin.«bytes.join» := entryFor_of_tree (by kernel_rfl)
theorem gr (a b : Value) : argsOk "bytes.join" ⟨[a, b], []⟩ := by
 unfold argsOk; rw [signature?_of (id := "bytes.join") (n := ['n', 'i', 'o', 'j']) (o := ['s', 'e', 't', 'y', 'b']) (by kernel_rfl) FB.owner_bytes]; kernel_rfl
theorem t4 {prog : Program} {w : World} {A : Around} {E : Value → Shared → Prop} {s : Shared} {l : Addr} {b : List UInt8} {t' : Tok} {n : Nat} {t : Tok} {Q : Fin → Shared → Prop} (e : s.heap.get? l = some (listOf #[.bytes ⟨b⟩ t'] n))
  (h : Q (.done (.ret (.bytes ⟨b⟩ t'))) s) : wpAny (model prog w) A (Builtin.«bytes.join» ⟨[.bytes ⟨[]⟩ t, .ref l], []⟩) Q E s := by
 have hT : s.TypeIs (.ref l) "list" := ⟨_, e, rfl⟩
 refine wpAny_bind (wpAny_of_eq (a := (.bytes ⟨[]⟩ t, .ref l)) rfl ?_)
 dsimp only
 have hk : (Bytes.Kind.bytes == Bytes.Kind.bytes) = true := by decide
 rw [if_pos hk]
 refine wpAny_bind ?_
 refine wpAny_bind (wpAny_typeOf hT ?_)
 have ht : (Value.type "list" == Value.type "list" || Value.type "list" == Value.type "tuple") = true := by decide
 rw [if_pos ht]
 refine wpAny_pure ?_
 refine wpAny_bind (wpAny_seqItems e rfl ?_)
 dsimp only
 rw [if_pos hk]
 refine wpAny_bind (wpAny_typeOf (typeIs_bytes s ⟨b⟩ t') ?_)
 have ht2 : (Value.type "bytes" == Value.type "bytes") = true := by decide
 rw [if_pos ht2]
 refine wpAny_bind (wpAny_rule ?_)
 exact wpAny_pure h
end
section
section
variable {X : Fx} {σ : SS} {K : AV → SS → Prop}
noncomputable def dZ : List SV → Option (List (List UInt8))
 | [] => some []
 | .bytes y :: r => (dZ r).map (y :: ·)
 | _ => none
theorem di (l : List (List UInt8)) : dZ (l.map .bytes) = some l := by
 induction l with
 | nil => rfl
 | cons a l ih => exact congrArg (Option.map (a :: ·)) ih
theorem ot {P : Addr → Obj → Prop} {w : World} {vs : List Value} {l : List SV} {bs : List (List UInt8)} (r : VRs P w vs l) (e : dZ l = some bs) : bf vs bs := by
 induction l generalizing vs bs with
 | nil => obtain rfl := r.i; cases e; exact .nil
 | cons d ds ih =>
  obtain ⟨v, r', rfl, a, b⟩ := r.i
  induction d using SV.casesOn <;> first | exact aw e | skip
  obtain ⟨t, rfl⟩ := a.bytes_inv
  cases q : dZ ds with
  | none => exact aw ((congrArg (fun o => Option.map _ o) q).symm.trans e)
  | some l => have z := (congrArg (fun o => Option.map _ o) q).symm.trans e; cases z; exact .cons (ih b q)
noncomputable def dC : List (List UInt8) → Nat
 | [] => 0
 | b :: r => b.length + dC r
theorem gF (l : List (List UInt8)) : dC l = (l.map (·.length)).sum := by
 induction l with
 | nil => rfl
 | cons a l ih => rw [dC, ih]; rfl
noncomputable def ti (as : List AV) (k : SV → Prop) : Prop := as1 as fun a => asV a fun d => t8 d fun l => dz (dZ l) fun bs => Gd (Nat.ble (dC bs) 1048576) (k (.bytes bs.flatten))
theorem nR {b : List UInt8} : JGm X "join" (.v (.bytes b)) σ "bytes.join" := by
 intro ow ρ s va pl S ra Q E q
 have r := ra.inv
 obtain ⟨t, rfl⟩ := r.bytes_inv
 exact @getMethod_builtin _ _ _ _ _ _ _ _ _ _ (typeIs_bytes s _ _) FB.plainAttrs_bytes d9 iz (fun a e => by cases e) q
theorem vT {vs : List Value} {bs : List (List UInt8)} (hb : bf vs bs) (h1 : vs.length = 1) : ∃ b t, vs = [.bytes ⟨b⟩ t] ∧ bs = [b] := by
 induction hb using bf.casesOn with
 | nil => exact absurd h1 (by decide)
 | cons r =>
  have h2 := Nat.succ.inj h1
  induction r using bf.casesOn with
  | nil => exact ⟨_, _, rfl, rfl⟩
  | cons _ => exact absurd h2 (Nat.succ_ne_zero _)
theorem mB {as : List AV} (h : ti as fun v => K (.v v) σ) : aB X (.builtin "bytes.join") (.v (.bytes []) :: as) σ K := by
 intro ow ρ s vs S R Q E q
 refine hide fun Gz0 bk0 => ?_
 replace h := lh h
 obtain ⟨_, rfl, h⟩ := h
 replace h := bj h
 obtain ⟨_, rfl, h⟩ := h
 replace h := j9 h
 obtain ⟨l, rfl, h⟩ := h
 replace h := aX h
 obtain ⟨bs, e, h⟩ := h
 replace h := h.out
 obtain ⟨g, h⟩ := h
 have g := Nat.le_of_ble_eq_true g
 replace R := R.i; obtain ⟨_, _, rfl, r, rs⟩ := R; replace rs := rs.i; obtain ⟨_, _, rfl, r2, rs⟩ := rs; replace rs := rs.i; obtain rfl := rs
 obtain ⟨t, rfl⟩ := r.inv.bytes_inv
 obtain ⟨a, vs, n, rfl, e1, r1⟩ := bF r2.inv
 refine bk0 ?_; clear bk0 Gz0
 have hb := ot r1 e
 refine wpAny_call_entry d9 (typeIs_bytes s _ _) hJ ?_ (gr _ _)
 by_cases h1 : vs.length = 1
 ·obtain ⟨b, t', rfl, rfl⟩ := vT hb h1
  refine t4 e1 ⟨_, rfl, ?_⟩
  have e : [b].flatten = b := by simp
  rw [e] at h
  exact dK S (.bytes _ _) h q
 ·refine wV e1 hb h1 (Nat.le_trans (by rw [← gF]; exact g) (by decide)) fun t' k => ⟨_, rfl, ?_⟩
  exact dK S (.bytes _ _) h q
end
end
section
section
variable {X : Fx} {σ : SS} {K : AV → SS → Prop}
inductive BS {α : Type} (j : Nat) (vs : List Value) (s : Shared) (rest : List Nat) : Option α × Unit → Shared → Prop
 | mk (i : Nat) (hi : i ≤ j) (e : rest = List.range' i (vs.length - i) 1) : BS j vs s rest (none, ()) s
open Builtin in
theorem uW {prog : Program} {w : World} {A : Around} {E : Value → Shared → Prop} {s : Shared} {a : Addr} {vs : List Value} {n : Nat} {ns : List Int} {x : Int} {t : Tok} {j : Nat} {Q : Fin → Shared → Prop} (e : s.heap.get? a = some (cB vs n)) (hi : IntsAre vs ns) (hj : ns[j]? = some x) (hn : ∀ i < j, ns[i]? ≠ some x)
  (h : ∀ tk, Q (.done (.ret (.int j s.toks))) { s with toks := tk }) : wpAny (model prog w) A (Builtin.«tuple.index» ⟨[.ref a, .int x t], []⟩) Q E s := by
 refine wpAny_bind (wpAny_of_eq (a := (.ref a, [.int x t])) rfl ?_)
 dsimp only
 refine wpAny_bind ?_
 unfold Tuple.tupleItemsOf
 refine wpAny_bind (wpAny_seqItems e rfl ?_)
 refine wpAny_pure ?_
 refine wpAny_bind (wpAny_pure ?_)
 refine wpAny_bind (wpAny_pure ?_)
 rw [Nat.min_self, Std.Legacy.Range.forIn_eq_forIn_range']
 have hr : (List.range' [:vs.toArray.size].start [:vs.toArray.size].size [:vs.toArray.size].step) = List.range' 0 vs.length 1 := by simp [Std.Legacy.Range.size]
 rw [hr]
 have hl : vs.length = ns.length := hi.length
 have hjl : j < ns.length := (List.getElem?_eq_some_iff.mp hj).1
 refine wpAny_bind ?_
 refine wpAny_forIn_list _ (BS j vs s) _ (fun i rest st s' hI => ?_) (fun st s' hI => ?_) _ _ (.mk 0 (Nat.zero_le _) rfl)
 ·obtain ⟨i', hi', e1⟩ := hI
  have il : i' < vs.length := hl ▸ Nat.lt_of_le_of_lt hi' hjl
  rw [eP il, List.range'_succ] at e1
  refine hide fun Gz0 bk0 => ?_
  obtain ⟨rfl, rfl⟩ := List.cons.inj e1
  obtain ⟨v, hv⟩ : ∃ v, vs[i]? = some v := ⟨vs[i]'il, List.getElem?_eq_getElem il⟩
  obtain ⟨y, u, rfl, hy⟩ := IntsAre.at hi i v hv
  refine bk0 ?_; clear bk0 Gz0
  have hva : vs.toArray[i]? = some (.int y u) := by simpa using hv
  rw [hva]
  refine wpAny_bind (wpAny_eqBool_int ?_)
  by_cases hyx : y = x
  ·subst hyx
   have hij : i = j := by
    rcases Nat.lt_or_ge i j with q | q
    ·exact absurd hy (hn i q)
    ·exact Nat.le_antisymm hi' q
   subst hij
   rw [if_pos (beq_self_eq_true _)]
   refine wpAny_bind (wpAny_bind (wpAny_mkInt (wpAny_pure (wpAny_pure ?_))))
   exact wpAny_pure (h _)
  ·rw [if_neg (by simpa using hyx)]
   refine wpAny_pure (.mk (i + 1) ?_ rfl)
   rcases Nat.lt_or_ge i j with q | q
   ·exact q
   ·rw [Nat.le_antisymm hi' q, hj] at hy
    exact absurd (Option.some.inj hy).symm hyx
 ·obtain ⟨i', hi', e1⟩ := hI
  rw [eP (hl ▸ Nat.lt_of_le_of_lt hi' hjl), List.range'_succ] at e1
  cases e1
end
end
section
noncomputable def bw (M : Model) (A : Around) (c : Code) (R : Result → Shared → Prop) (s : Shared) : Prop :=
 ∀ Γ p, Γ.code = c → Γ.Below A → GS Γ.below → wpCode M Γ R p s
section
variable {α β : Type} {M : Model} {A : Around} {E : Value → Shared → Prop} {s : Shared}
theorem ae {a : α} {Q : α → Shared → Prop} (h : Q a s) : wpG M A (pure a) Q E s := fun _ _ _ _ _ => h
theorem wpG.monoQ {t : Sem α} {Q Q' : α → Shared → Prop} (h : wpG M A t Q E s) (hQ : ∀ a s, Q a s → Q' a s) : wpG M A t Q' E s := h.mono hQ fun _ _ x => x
theorem au {m : Sem α} {f : α → Sem β} {Q : β → Shared → Prop} (h : wpAny M A m (fun a s' => wpG M A (f a) Q E s') E s) : wpG M A (m >>= f) Q E s := ac (.of h)
theorem my {m : Sem α} {k : Value → Sem Unit} {Q : α → Shared → Prop} (h : wpG M A m Q (fun e s' => wpG M A (k e) (fun _ s'' => E e s'') E s') s) : wpG M A (m.onRaise k) Q E s := fun Γ p a b c => by
 rw [Sem.wp_onRaise]
 exact Sem.wp_mono M Γ m (fun _ _ _ h' => h') (fun e p' s' h' => h' Γ p' a b c) p s (h Γ p a b c)
theorem ak {vs : List Value} {m : Sem α} {Q : α → Shared → Prop} (h : wpG M A m Q E s) : wpG M A (holding vs m) Q E s := fun Γ p a b c => by rw [Sem.wp_holding]; exact h Γ p a b c
theorem sE {vs : List Value} {m : Sem α} {Q : α → Shared → Prop} (h : wpG M A m Q E s) : wpG M A (m.keep vs) Q E s := fun Γ p a b c => by rw [Sem.wp_keep]; exact h Γ p a b c
theorem bn {t : Sem α} {a : α} {Q : α → Shared → Prop} (h : t = pure a) (q : Q a s) : wpG M A t Q E s := by subst h; exact ae q
theorem ap {pos : Pos} {Q : Unit → Shared → Prop} (h : Q () s) : wpG M A (standAt pos) Q E s := fun _ _ _ _ _ => h
theorem fc {Q : Unit → Shared → Prop} (h : Q () s) : wpG M A point Q E s := fun _ _ _ _ _ => h
theorem i8 {tag : String} {Q : Unit → Shared → Prop} (h : Q () s) : wpG M A (rule tag) Q E s := fun _ _ _ _ _ => h
theorem y5 {c : Bool} {a b : Sem α} {Q : α → Shared → Prop} (h : if c = true then wpG M A a Q E s else wpG M A b Q E s) : wpG M A (if c = true then a else b) Q E s := by induction c using Bool.casesOn <;> exact h
theorem kX {c : Code} {Q : Value → Shared → Prop} (hc : bw M A c (fun r s' => match r with | .ok (.ret v) => Q v s' | .ok _ => False | .error e => E e s') s) : wpG M A (runValue c) Q E s := fun Γ p a b d => by
 rw [Sem.wp_runValue]
 refine hc _ p rfl (a.enter c none p (by intro x; cases x)) fun x hx => ?_
 rcases List.mem_cons.mp hx with rfl | hx
 ·exact b
 ·exact d x hx
theorem xH {c : Code} {h : Option Value} {Q : Flow → Shared → Prop} (hc : bw M (A.mark h) c (fun r s' => match r with | .ok f => Q f s' | .error e => E e s') s) (hnb : h ≠ some byPass := by intro x; cases x) : wpG M A (run c h) Q E s := fun Γ p a b d => by
 rw [Sem.wp_run]
 refine hc _ p rfl (a.enter c h p hnb) fun x hx => ?_
 rcases List.mem_cons.mp hx with rfl | hx
 ·exact b
 ·exact d x hx
theorem eX {f : Value} {pos : List Value} {kw : List (Str × Value)} {Q : Value → Shared → Prop} (hc : bw M A (.call f ⟨pos, kw⟩) (fun r s' => match r with | .ok (.ret v) => Q v s' | .ok _ => False | .error e => E e s') s) : wpG M A (call f pos kw) Q E s := kX hc
theorem bk {c : Code} {R : Result → Shared → Prop} (hok : okC c = true)
  (h : wpG M (A.under c) (M.den c) (fun fin s' => match fin with | .done f => R (.ok f) s' | .again c' => c'.quiet = true ∧ bw M A c' R s') (fun e s' => R (.error e) s') s) : bw M A c R s := fun Γ p hc hΓ g => by
 rw [wpCode_iff_wp, hc]
 refine Sem.wp_mono M Γ _ (fun fin p' s' h' => ?_) (fun _ _ _ h' => h') p s (h Γ p (hc ▸ hΓ.in) (hc ▸ hok) g)
 cases fin with
 | done f => exact h'
 | again c' => exact ⟨h'.1, h'.2 (Γ.goto c') p' rfl (hΓ.goto c') g⟩
theorem pQ {c : Code} {R R' : Result → Shared → Prop} (h : bw M A c R s) (hR : ∀ r s, R r s → R' r s) : bw M A c R' s := fun Γ p a b d => wpCode_mono hR (h Γ p a b d)
theorem o5 {c : Code} {R : Result → Shared → Prop} (hok : okC c = true) (hq : c.quiet = true) (I : Nat → Shared → Prop)
  (turn : ∀ n s, I n s → wpG M (A.under c) (M.den c) (fun fin s' => match fin with | .done f => R (.ok f) s' | .again c' => c' = c ∧ ∃ m, m < n ∧ I m s') (fun e s' => R (.error e) s') s)
  (n : Nat) (h : I n s) : bw M A c R s := by
 induction n using Nat.strongRecOn generalizing s with
 | ind n ih =>
  refine bk hok ((turn n s h).mono (fun fin s' hf => ?_) fun _ _ h' => h')
  cases fin with
  | done f => exact hf
  | again c' => obtain ⟨rfl, m, hm, hI⟩ := hf; exact ⟨hq, ih m hm hI⟩
theorem lI {f : Code × Pos → Bool} {Q : Bool → Shared → Prop} (hf : ∀ c p, okC c = true → f (c, p) = false) (h : Q false s) : wpG M A (do return (← stack).any f) Q E s := fun Γ p _ b c => by
 show Q (((Γ.code, p) :: Γ.below).any f) s
 have e : ((Γ.code, p) :: Γ.below).any f = false := by
  rw [List.any_eq_false]
  intro x hx
  rcases List.mem_cons.mp hx with rfl | hx
  ·rw [hf _ _ b]; exact Bool.false_ne_true
  ·obtain ⟨c', p'⟩ := x
   rw [hf c' p' (c _ hx)]; exact Bool.false_ne_true
 rw [e]; exact h
end
end
section
noncomputable abbrev F0 : Value → Shared → Prop := fun _ _ => False
section
variable {α β : Type} {M : Model} {A : Around} {s : Shared} {env : Env}
theorem dS {E : Value → Shared → Prop} {m : Sem α} {k : Value → Sem Unit} {Q : α → Shared → Prop} (h : wpG M A m Q F0 s) : wpG M A (m.onRaise k) Q E s := my (h.mono (fun _ _ x => x) fun _ _ x => x.elim)
theorem eQ {vs : List Value} {m : Sem Value} {E : Value → Shared → Prop} {Q : Value → Shared → Prop} (h : wpG M A m Q E s) : wpG M A (operate vs m) Q E s := fun Γ p a b c => by
 rw [Sem.wp_operate]; exact h Γ p a b c
theorem wm {l r : Expr} {op : Operator} {pos : Pos} {Q : Value → Shared → Prop}
  (h : wpG M A (eval l env) (fun a s₁ => wpG M A (eval r env) (fun b sz2 => wpG M A (binaryOp op a b) Q F0 sz2) F0 s₁) F0 s) : wpG M A (eval (.BinOp l op r pos) env) Q F0 s := by
 rw [eval_BinOp]
 exact ac (h.monoQ fun a s₁ hz1 => ac (ak (hz1.monoQ fun b sz2 hz2 => ac (ap (eQ hz2)))))
theorem oX {l r : Expr} {op : CmpOp} {pos : Pos} {Q : Value → Shared → Prop} (hm : behindInMarks op r = false)
  (h : wpG M A (eval l env) (fun a s₁ => wpG M A (eval r env) (fun b sz2 => wpG M A (compareOp op a b) Q F0 sz2) F0 s₁) F0 s) : wpG M A (eval (.Compare l [op] [r] pos) env) Q F0 s := by
 rw [eval_Compare1, markedBehindIn_of_false hm]
 exact ac (h.monoQ fun a s₁ hz1 => ac (ak (hz1.monoQ fun b sz2 hz2 => ac (ap (eQ hz2)))))
theorem dj {l r : Expr} {op : CmpOp} {pos : Pos} {whole : Sem Value} {Q : Bool → Shared → Prop} (hm : behindInMarks op r = false)
  (h : wpG M A (eval l env) (fun a s₁ => wpG M A (eval r env) (fun b sz2 => wpG M A (compareOp op a b) (fun c sz3 => wpG M A (truthy c) Q F0 sz3) F0 sz2) F0 s₁) F0 s) : wpG M A (isTrue (.Compare l [op] [r] pos) env whole) Q F0 s := by
 rw [isTrue_Compare1, markedBehindIn_of_false hm]
 exact ac (h.monoQ fun a s₁ hz1 => ac (ak (hz1.monoQ fun b sz2 hz2 => ac (ap (ac (eQ (hz2.monoQ fun c sz3 hz3 => ak hz3)))))))
theorem eF {e : Expr} {whole : Sem Value} {Q : Bool → Shared → Prop} (h : wpG M A whole (fun v s₁ => wpG M A (truthy v) Q F0 s₁) F0 s)
  (he : isTrue e env whole = (do let v ← whole; standAt e.pos; holding [v] (truthy v))) : wpG M A (isTrue e env whole) Q F0 s := by
 rw [he]
 exact ac (h.monoQ fun v s₁ hz1 => ac (ap (ak hz1)))
theorem gb {x : Expr} {pos : Pos} {whole : Sem Value} {Q : Bool → Shared → Prop} (h : wpG M A (isTrue x env (eval x env)) (fun c s' => Q (!c) s') F0 s) : wpG M A (isTrue (.UnaryOp .Not x pos) env whole) Q F0 s := by
 exact ac (h.monoQ fun c s' h' => ae h')
theorem iv {op : BoolOp} {values : List Expr} {pos : Pos} {whole : Sem Value} {Q : Bool → Shared → Prop} (h : wpG M A (allTrue op values env) Q F0 s) : wpG M A (isTrue (.BoolOp op values pos) env whole) Q F0 s := by
 rw [arm_isTrue_BoolOp]; exact h
theorem fY {x : Expr} {rest : List Expr} {Q : Bool → Shared → Prop} (h : wpG M A (isTrue x env (eval x env)) (fun b s₁ => if b then wpG M A (allTrue .And rest env) Q F0 s₁ else Q false s₁) F0 s) : wpG M A (allTrue .And (x :: rest) env) Q F0 s := by
 refine ac (h.monoQ fun b s₁ hz1 => ?_)
 induction b using Bool.casesOn
 ·exact ae hz1
 ·exact hz1
theorem gh {x : Expr} {rest : List Expr} {Q : Bool → Shared → Prop} (h : wpG M A (isTrue x env (eval x env)) (fun b s₁ => if b then Q true s₁ else wpG M A (allTrue .Or rest env) Q F0 s₁) F0 s) : wpG M A (allTrue .Or (x :: rest) env) Q F0 s := by
 refine ac (h.monoQ fun b s₁ hz1 => ?_)
 induction b using Bool.casesOn
 ·exact hz1
 ·exact ae hz1
theorem ij {ez1 ez2 : Expr} {rest : List Expr} {pos : Pos} {Q : Value → Shared → Prop}
  (h : wpG M A (eval ez1 env) (fun v s₁ => wpG M A (truthy v) (fun c sz2 => if c then Q v sz2 else wpG M A (eval (.BoolOp .Or (ez2 :: rest) pos) env) Q F0 sz2) F0 s₁) F0 s) : wpG M A (eval (.BoolOp .Or (ez1 :: ez2 :: rest) pos) env) Q F0 s := by
 show wpG M A (do
  let v ← eval ez1 env
  standAt pos
  let c ← holding [v] (truthy v)
  match BoolOp.Or, c with
  | .And, false | .Or, true => pure v
  | _, _ => boolOp pos .Or (eval ez2 env :: evalEach rest env)) Q F0 s
 refine ac (h.monoQ fun v s₁ hz1 => ac (ap (ac (ak (hz1.monoQ fun c sz2 hz2 => ?_)))))
 induction c using Bool.casesOn with
 | false => exact hz2
 | true => exact ae hz2
theorem wS {test body orelse : Expr} {pos : Pos} {Q : Value → Shared → Prop}
  (h : wpG M A (isTrue test env (eval test env)) (fun c sz2 => if c then wpG M A (eval body env) Q F0 sz2 else wpG M A (eval orelse env) Q F0 sz2) F0 s) : wpG M A (eval (.IfExp test body orelse pos) env) Q F0 s := by
 rw [eval_IfExp]
 refine ac (h.monoQ fun c sz2 hz2 => ?_)
 induction c using Bool.casesOn <;> exact hz2
theorem BF {test : Expr} {body orelse : List Stmt} {pos : Pos} {Q : Flow → Shared → Prop}
  (h : wpG M A (isTrue test env (eval test env)) (fun b sz2 => if b then wpG M A (execs body env) Q F0 sz2 else wpG M A (execs orelse env) Q F0 sz2) F0 s) : wpG M A (exec (.If test body orelse pos) env) Q F0 s := by
 rw [exec_If]
 refine ac (ap (ac (h.monoQ fun b sz2 hz2 => ?_)))
 induction b using Bool.casesOn <;> exact hz2
theorem ny {e : Expr} {pos : Pos} {Q : Flow → Shared → Prop} (h : wpG M A (eval e env) (fun v => Q (.ret v)) F0 s) : wpG M A (exec (.Return (some e) pos) env) Q F0 s := by
 rw [exec_Return_some]
 exact ac (ap (ac (h.monoQ fun v s' h' => ae h')))
theorem n8 {x : Str} {v : Value} {Q : Unit → Shared → Prop} (h : wpG M A (storeName env x v) Q F0 s) : wpG M A (bindName env x v) Q F0 s := fun Γ p a b c => by
 rw [Sem.wp_bindName]; exact h Γ p a b c
theorem jU {x : Str} {pos' : Pos} {value : Expr} {pos : Pos} {Q : Flow → Shared → Prop}
  (h : wpG M A (eval value env) (fun v s₁ => wpG M A (storeName env x v) (fun _ => Q .next) F0 s₁) F0 s) (hs : swapsWith value (some (.Name x pos')) pos.line env = pure false) : wpG M A (exec (.Assign [.Name x pos'] value pos) env) Q F0 s := by
 rw [exec_Assign_Name env x pos' value pos hs]
 refine ac (ap (ac (h.monoQ fun v s₁ hz1 => ac (ap (ac ?_)))))
 exact n8 (hz1.monoQ fun _ s' h' => ae h')
theorem nv {Q : Flow → Shared → Prop} (h : Q .next s) : wpG M A (execs [] env) Q F0 s := wpG.of (wpAny_execs_nil h)
theorem cK {st : Stmt} {rest : List Stmt} {Q : Flow → Shared → Prop}
  (h : wpG M A (exec st env) (fun f s' => match f with | .next => wpG M A (execs rest env) Q F0 s' | f => Q f s') F0 s) : wpG M A (execs (st :: rest) env) Q F0 s := by
 rw [execs_cons]
 refine ac (h.monoQ fun f s' h' => ?_)
 induction f using Flow.casesOn <;> first | exact h' | exact ae h'
theorem i3 {x : Sem Value} {rest : List (Bool × Sem Value)} {Q : List Value → Shared → Prop} (h : wpG M A x (fun v s₁ => wpG M A (spliced rest) (fun vs sz2 => Q (v :: vs) sz2) F0 s₁) F0 s) : wpG M A (spliced ((false, x) :: rest)) Q F0 s := by
 rw [spliced]
 refine ac (h.monoQ fun v s₁ hz1 => ?_)
 simp only [Bool.false_eq_true, if_false]
 exact ac (ae (ac (ak (hz1.monoQ fun vs sz2 hz2 => ae hz2))))
theorem d6 {f : Value} {x : Sem Value} {rest : List (Bool × Sem Value)} {Q : Args → Shared → Prop} (h : wpG M A (spliced ((false, x) :: rest)) (fun vs s' => Q ⟨vs, []⟩ s') F0 s) : wpG M A (evalArgs f true ((false, x) :: rest) []) Q F0 s := by
 refine ac (h.monoQ fun vs s' h' => ?_)
 refine ak ?_
 exact ac (ae (ac (ae (ae h'))))
theorem fW {pos : Pos} {id : String} {first : List Value} {args : List (Bool × Sem Value)} {Q : Value → Shared → Prop} (hplain : args.any (·.1) = false)
  (h : wpG M A (evalArgs (.builtin id) true args []) (fun a s₁ => wpG M A (call (.builtin id) (first ++ a.pos) a.kw) Q F0 s₁) F0 s) : wpG M A (callWith pos (.builtin id) first args []) Q F0 s := by
 refine ac (ak (h.monoQ fun a s₁ hz1 => ac (ap ?_)))
 have hpl : (args.any (·.1) || ([] : List (Option Str × Sem Value)).any (·.1.isNone)) = false := by rw [hplain]; rfl
 rw [hpl]
 refine ac (ae ?_)
 exact ac (hz1.monoQ fun r sz2 hr => ac (ak (fc (ae hr))))
theorem iA {pos : Pos} {T : String} {first : List Value} {args : List (Bool × Sem Value)} {Q : Value → Shared → Prop} (hplain : args.any (·.1) = false)
  (h : wpG M A (evalArgs (.type T) true args []) (fun a s₁ => wpG M A (call (.type T) (first ++ a.pos) a.kw) Q F0 s₁) F0 s) : wpG M A (callWith pos (.type T) first args []) Q F0 s := by
 refine ac (ak (h.monoQ fun a s₁ hz1 => ac (ap ?_)))
 have hpl : (args.any (·.1) || ([] : List (Option Str × Sem Value)).any (·.1.isNone)) = false := by rw [hplain]; rfl
 rw [hpl]
 refine ac (ae ?_)
 exact ac (hz1.monoQ fun r sz2 hr => ac (ak (fc (ae hr))))
theorem gq {K : Frag} {f : Value} {pos : Pos} {first : List Value} {args : List (Bool × Sem Value)} {Q : Value → Shared → Prop} (hplain : args.any (·.1) = false) (hk : keepIn K f = true)
  (h : wpG M A (evalArgs f true args []) (fun a s₁ => K.In s₁.heap ∧ wpG M A (call f (first ++ a.pos) a.kw) Q F0 s₁) F0 s) : wpG M A (callWith pos f first args []) Q F0 s := by
 refine ac (ak (h.monoQ fun a s₁ hz1 => ac (ap ?_)))
 obtain ⟨k, hk', L⟩ := keeps_K (M := M) hk _ hz1.1
 have hpl : (args.any (·.1) || ([] : List (Option Str × Sem Value)).any (·.1.isNone)) = false := by rw [hplain]; rfl
 rw [hpl]
 refine au (L.here ?_)
 have tail : ∀ {t : Sem Value}, wpG M A t Q F0 s₁ → wpG M A (t >>= fun r => holding [r] point >>= fun _ => pure r) Q F0 s₁ :=
  fun ht => ac (ht.monoQ fun r sz2 hr => ac (ak (fc (ae hr))))
 have marked (mk : Value) : wpG M A (callMarked mk f (first ++ a.pos) a.kw) Q F0 s₁ := by unfold callMarked; exact sE hz1.2
 rcases hk' with rfl | rfl | rfl <;> dsimp only <;> first | exact tail hz1.2 | (split <;> first | exact tail hz1.2 | exact tail (marked _))
theorem sx {x : Str} {px : Pos} {args : List Expr} {pos : Pos} {Q : Value → Shared → Prop} (h : wpG M A (eval (.Name x px) env) (fun f s₁ => wpG M A (callWith pos f [] (backTo pos (starEach args env)) []) Q F0 s₁) F0 s) : wpG M A (eval (.Call (.Name x px) args [] pos) env) Q F0 s := by
 have he : eval (.Call (.Name x px) args [] pos) env = (do callWith pos (← eval (.Name x px) env) [] (backTo pos (starEach args env)) (backToKw pos (keywordEach [] env))) := rfl
 rw [he]; exact ac h
theorem w7 {o : Expr} {name : Str} {apos pos : Pos} {args : List Expr} {Q : Value → Shared → Prop} (hb : gH o = true) (h : mOk args apos pos = true)
  (k : ∀ pl, wpG M A (eval o env) (fun ov s₁ => wpG M A (getMethod ov name pl) (fun fx sz2 => wpG M A (callWith pos fx.1 fx.2 (backTo pos (starEach args env)) []) Q F0 sz2) F0 s₁) F0 s) : wpG M A (eval (.Call (.Attribute o name apos) args [] pos) env) Q F0 s := by
 have ab : attributeBase o name env (eval o env) = eval o env := by induction o using Expr.casesOn <;> first | rfl | cases hb
 have e : eval (.Call (.Attribute o name apos) args [] pos) env = (do
  let ov ← attributeBase o name env (eval o env)
  standAt apos.atName
  methodCall o name apos pos env ov (args.length + ([] : List Keyword).length) (backTo pos (starEach args env)) (backToKw pos (keywordEach [] env))) := rfl
 have hl : (apos.endLine == pos.line) = true := by
  have := (Bool.and_eq_true_iff.mp h).2
  rw [Nat.eq_of_beq_eq_true this]; simp
 rw [e, ab]
 refine ac ((k (do return (← importBound o env).getD true)).monoQ fun ov s₁ hz1 => ac (ap ?_))
 unfold methodCall
 rw [ya h]
 unfold calleeOf methodCallPos
 simp only [hl, if_true, Bool.not_true, Bool.or_true]
 exact ac (ak (hz1.monoQ fun fx sz2 hz2 => ac (ae hz2)))
end
end
section
noncomputable def bT {α β : Type} (X : Fx) (ow : Addr → Prop) (ρ : List Addr) (s : Shared) (R : (Addr → Prop) → List Addr → Heap → α → β → Prop) (t : Sem α) (K : β → SS → Prop) : Prop :=
 ∀ Q, (∀ a b σ' ow' ρ' h' tk', Ex X ow ρ s.heap ow' ρ' h' → SR X ow' ρ' h' σ' → R ow' ρ' h' a b → K b σ' → Q a { s with heap := h', toks := tk' }) → wpG (model af X.w) X.A t Q F0 s
noncomputable def JEG (X : Fx) (e : Expr) (σ : SS) (K : AV → SS → Prop) : Prop := ∀ ow ρ s, SR X ow ρ s.heap σ → bT X ow ρ s (RV X) (eval e X.env) K
noncomputable def JTG (X : Fx) (e : Expr) (σ : SS) (K : Bool → SS → Prop) : Prop := ∀ ow ρ s, SR X ow ρ s.heap σ → bT X ow ρ s RB (isTrue e X.env (eval e X.env)) K
noncomputable def mU (X : Fx) (op : BoolOp) (es : List Expr) (σ : SS) (K : Bool → SS → Prop) : Prop := ∀ ow ρ s, SR X ow ρ s.heap σ → bT X ow ρ s RB (allTrue op es X.env) K
noncomputable def JLG (X : Fx) (pos : Pos) (es : List Expr) (σ : SS) (K : List AV → SS → Prop) : Prop := ∀ ow ρ s, SR X ow ρ s.heap σ → bT X ow ρ s (RVs X) (spliced (backTo pos (starEach es X.env))) K
noncomputable def JSG (X : Fx) (st : Stmt) (σ : SS) (K : SF → SS → Prop) : Prop := ∀ ow ρ s, SR X ow ρ s.heap σ → bT X ow ρ s (RF X) (exec st X.env) K
noncomputable def JBG (X : Fx) (st : List Stmt) (σ : SS) (K : SF → SS → Prop) : Prop := ∀ ow ρ s, SR X ow ρ s.heap σ → bT X ow ρ s (RF X) (execs st X.env) K
noncomputable def bU (X : Fx) (f : Value) (as : List AV) (σ : SS) (K : AV → SS → Prop) : Prop :=
 ∀ ow ρ s vs, SR X ow ρ s.heap σ → ARs (Pz s.heap ow) X.w ρ vs as → bT X ow ρ s (RV X) (call f vs) K
section
variable {X : Fx} {σ : SS} {α β : Type} {ow : Addr → Prop} {ρ : List Addr} {s : Shared} {R : (Addr → Prop) → List Addr → Heap → α → β → Prop} {t : Sem α}
theorem bT.of {K : β → SS → Prop} (h : aL X ow ρ s R t K) : bT X ow ρ s R t K := fun Q q => .of (h Q F0 q)
theorem bT.mono {K K' : β → SS → Prop} (h : bT X ow ρ s R t K) (k : ∀ b σ, K b σ → K' b σ) : bT X ow ρ s R t K' := fun Q q => h Q fun a b σ' ow' ρ' h' tk' e S r kk => q a b σ' ow' ρ' h' tk' e S r (k _ _ kk)
theorem JEG.of {e : Expr} {K : AV → SS → Prop} (h : JE X e σ K) : JEG X e σ K := fun ow ρ s S => .of (h ow ρ s S)
theorem JTG.of {e : Expr} {K : Bool → SS → Prop} (h : JT X e σ K) : JTG X e σ K := fun ow ρ s S => .of (h ow ρ s S)
theorem mU.of {op : BoolOp} {e : List Expr} {K : Bool → SS → Prop} (h : JTL X op e σ K) : mU X op e σ K := fun ow ρ s S => .of (h ow ρ s S)
theorem JLG.of {pos : Pos} {e : List Expr} {K : List AV → SS → Prop} (h : JL X pos e σ K) : JLG X pos e σ K := fun ow ρ s S => .of (h ow ρ s S)
theorem JSG.of {e : Stmt} {K : SF → SS → Prop} (h : JS X e σ K) : JSG X e σ K := fun ow ρ s S => .of (h ow ρ s S)
theorem JBG.of {e : List Stmt} {K : SF → SS → Prop} (h : JB X e σ K) : JBG X e σ K := fun ow ρ s S => .of (h ow ρ s S)
theorem bU.of {f : Value} {as : List AV} {K : AV → SS → Prop} (h : aB X f as σ K) : bU X f as σ K := fun ow ρ s vs S r => .of (h ow ρ s vs S r)
theorem JEG.mono {e : Expr} {K K' : AV → SS → Prop} (h : JEG X e σ K) (k : ∀ b σ, K b σ → K' b σ) : JEG X e σ K' := fun ow ρ s S => (h ow ρ s S).mono k
theorem JTG.mono {e : Expr} {K K' : Bool → SS → Prop} (h : JTG X e σ K) (k : ∀ b σ, K b σ → K' b σ) : JTG X e σ K' := fun ow ρ s S => (h ow ρ s S).mono k
theorem JLG.mono {pos : Pos} {e : List Expr} {K K' : List AV → SS → Prop} (h : JLG X pos e σ K) (k : ∀ b σ, K b σ → K' b σ) : JLG X pos e σ K' := fun ow ρ s S => (h ow ρ s S).mono k
theorem JSG.mono {e : Stmt} {K K' : SF → SS → Prop} (h : JSG X e σ K) (k : ∀ b σ, K b σ → K' b σ) : JSG X e σ K' := fun ow ρ s S => (h ow ρ s S).mono k
end
section
variable {X : Fx} {σ : SS} {K : AV → SS → Prop}
theorem rJ {l r : Expr} {op : Operator} {pos : Pos} (h : JEG X l σ fun a σ1 => JEG X r σ1 fun b σ2 => J2 X (binaryOp op) a b σ2 K) : JEG X (.BinOp l op r pos) σ K := by
 intro ow ρ s S Q q
 refine wm (h ow ρ s S _ fun a sa σ1 ow1 ρ1 hz1 tk1 ez1 S1 rz1 kz1 => kz1 ow1 ρ1 _ S1 _ fun b sb σ2 ow2 ρ2 hz2 tk2 ez2 S2 rz2 kz2 => ?_)
 exact .of (kz2 ow2 ρ2 _ a b S2 (S1.ar ez2 rz1) rz2 _ _ fun v sv σ3 ow3 ρ3 hz3 tk3 ez3 S3 rz3 kz3 => q v sv σ3 ow3 ρ3 hz3 tk3 ((ez1.trans ez2).trans ez3) S3 rz3 kz3)
theorem mz {l r : Expr} {op : CmpOp} {pos : Pos} (hm : behindInMarks op r = false) (h : JEG X l σ fun a σ1 => JEG X r σ1 fun b σ2 => J2 X (compareOp op) a b σ2 K) : JEG X (.Compare l [op] [r] pos) σ K := by
 intro ow ρ s S Q q
 refine oX hm (h ow ρ s S _ fun a sa σ1 ow1 ρ1 hz1 tk1 ez1 S1 rz1 kz1 => kz1 ow1 ρ1 _ S1 _ fun b sb σ2 ow2 ρ2 hz2 tk2 ez2 S2 rz2 kz2 => ?_)
 exact .of (kz2 ow2 ρ2 _ a b S2 (S1.ar ez2 rz1) rz2 _ _ fun v sv σ3 ow3 ρ3 hz3 tk3 ez3 S3 rz3 kz3 => q v sv σ3 ow3 ρ3 hz3 tk3 ((ez1.trans ez2).trans ez3) S3 rz3 kz3)
theorem mO {l r : Expr} {op : CmpOp} {pos : Pos} {K : Bool → SS → Prop} (hm : behindInMarks op r = false) (h : JEG X l σ fun a σ1 => JEG X r σ1 fun b σ2 => J2 X (compareOp op) a b σ2 fun c σ3 => JTr X c σ3 K) : JTG X (.Compare l [op] [r] pos) σ K := by
 intro ow ρ s S Q q
 refine dj hm (h ow ρ s S _ fun a sa σ1 ow1 ρ1 hz1 tk1 ez1 S1 rz1 kz1 => kz1 ow1 ρ1 _ S1 _ fun b sb σ2 ow2 ρ2 hz2 tk2 ez2 S2 rz2 kz2 => ?_)
 exact .of (kz2 ow2 ρ2 _ a b S2 (S1.ar ez2 rz1) rz2 _ _ fun v sv σ3 ow3 ρ3 hz3 tk3 ez3 S3 rz3 kz3 => .of (kz3 ow3 ρ3 _ v S3 rz3 _ _ fun c sc σ4 ow4 ρ4 hz4 tk4 ez4 S4 rz4 kz4 => q c sc σ4 ow4 ρ4 hz4 tk4 (((ez1.trans ez2).trans ez3).trans ez4) S4 rz4 kz4))
theorem rE {t a b : Expr} {pos : Pos} (h : JTG X t σ fun c σ1 => Br c (JEG X a σ1 K) (JEG X b σ1 K)) : JEG X (.IfExp t a b pos) σ K := by
 intro ow ρ s S Q q
 refine wS (h ow ρ s S _ fun c sc σ1 ow1 ρ1 hz1 tk1 ez1 S1 rz1 kz1 => ?_)
 obtain rfl : c = sc := rz1
 induction c using Bool.casesOn with
 | true => exact kz1 ow1 ρ1 _ S1 _ fun v sv σ3 ow3 ρ3 hz3 tk3 ez3 S3 rz3 kz3 => q v sv σ3 ow3 ρ3 hz3 tk3 (ez1.trans ez3) S3 rz3 kz3
 | false => exact kz1 ow1 ρ1 _ S1 _ fun v sv σ3 ow3 ρ3 hz3 tk3 ez3 S3 rz3 kz3 => q v sv σ3 ow3 ρ3 hz3 tk3 (ez1.trans ez3) S3 rz3 kz3
theorem rR {e : Expr} {K : Bool → SS → Prop} (h : JEG X e σ fun a σ1 => JTr X a σ1 K)
  (hp : isTrue e X.env (eval e X.env) = (do let v ← eval e X.env; standAt (Expr.pos e); holding [v] (truthy v))) : JTG X e σ K := by
 intro ow ρ s S Q q
 refine eF (h ow ρ s S _ fun a sa σ1 ow1 ρ1 hz1 tk1 ez1 S1 rz1 kz1 => ?_) hp
 exact .of (kz1 ow1 ρ1 _ a S1 rz1 _ _ fun v sv σ3 ow3 ρ3 hz3 tk3 ez3 S3 rz3 kz3 => q v sv σ3 ow3 ρ3 hz3 tk3 (ez1.trans ez3) S3 rz3 kz3)
theorem xy {x : Expr} {pos : Pos} {K : Bool → SS → Prop} (h : JTG X x σ fun b σ => K (!b) σ) : JTG X (.UnaryOp .Not x pos) σ K := fun ow ρ s S Q q =>
 gb (h ow ρ s S _ fun a b σ1 ow1 ρ1 hz1 tk1 ez1 S1 rz1 kz1 => q _ _ σ1 ow1 ρ1 hz1 tk1 ez1 S1 (by show (!a) = !b; rw [show a = b from rz1]) kz1)
theorem oP {op : BoolOp} {es : List Expr} {pos : Pos} {K : Bool → SS → Prop} (h : mU X op es σ K) : JTG X (.BoolOp op es pos) σ K := fun ow ρ s S Q q => iv (h ow ρ s S Q q)
theorem qK {op : BoolOp} {x : Expr} {rest : List Expr} {K : Bool → SS → Prop} (h : JTG X x σ fun b σ1 => match op with | .And => Br b (mU X op rest σ1 K) (K false σ1) | .Or => Br b (K true σ1) (mU X op rest σ1 K)) : mU X op (x :: rest) σ K := fun ow ρ s S Q q => by
 induction op using BoolOp.casesOn
 ·refine fY (h ow ρ s S _ fun a b σ1 ow1 ρ1 hz1 tk1 ez1 S1 rz1 kz1 => ?_)
  obtain rfl : a = b := rz1
  induction a using Bool.casesOn
  ·exact q _ _ σ1 ow1 ρ1 hz1 tk1 ez1 S1 rfl kz1
  ·exact kz1 ow1 ρ1 { s with heap := hz1, toks := tk1 } S1 _ fun v sv σ2 ow2 ρ2 hz2 tk2 ez2 S2 rz2 kz2 => q v sv σ2 ow2 ρ2 hz2 tk2 (ez1.trans ez2) S2 rz2 kz2
 ·refine gh (h ow ρ s S _ fun a b σ1 ow1 ρ1 hz1 tk1 ez1 S1 rz1 kz1 => ?_)
  obtain rfl : a = b := rz1
  induction a using Bool.casesOn
  ·exact kz1 ow1 ρ1 { s with heap := hz1, toks := tk1 } S1 _ fun v sv σ2 ow2 ρ2 hz2 tk2 ez2 S2 rz2 kz2 => q v sv σ2 ow2 ρ2 hz2 tk2 (ez1.trans ez2) S2 rz2 kz2
  ·exact q _ _ σ1 ow1 ρ1 hz1 tk1 ez1 S1 rfl kz1
theorem wH {a b : Expr} {pos : Pos} (h : JEG X a σ fun v σ1 => JTr X v σ1 fun c σ2 => Br c (v = v ∧ K v σ2) (JEG X b σ2 K)) : JEG X (.BoolOp .Or [a, b] pos) σ K := by
 intro ow ρ s S Q q
 refine ij (h ow ρ s S _ fun va sa σ1 ow1 ρ1 hz1 tk1 ez1 S1 rz1 kz1 => ?_)
 refine .of (kz1 ow1 ρ1 { s with heap := hz1, toks := tk1 } va S1 rz1 _ _ fun c c' σ2 ow2 ρ2 hz2 tk2 ez2 S2 rz2 kz2 => ?_)
 obtain rfl : c = c' := rz2
 induction c using Bool.casesOn
 ·rw [if_neg (by decide)]
  have one : eval (.BoolOp .Or [b] pos) X.env = eval b X.env := rfl
  rw [one]
  exact kz2 ow2 ρ2 { s with heap := hz2, toks := tk2 } S2 _ fun v sv σ3 ow3 ρ3 hz3 tk3 ez3 S3 rz3 kz3 => q v sv σ3 ow3 ρ3 hz3 tk3 ((ez1.trans ez2).trans ez3) S3 rz3 kz3
 ·rw [if_pos rfl]
  exact q va sa σ2 ow2 ρ2 hz2 tk2 (ez1.trans ez2) S2 (S1.ar ez2 rz1) kz2.2
theorem wG {pos : Pos} {K : List AV → SS → Prop} (h : K [] σ) : JLG X pos [] σ K := .of (dB h)
theorem su {pos : Pos} {e : Expr} {es : List Expr} {K : List AV → SS → Prop} (hs : starEach (e :: es) X.env = (false, eval e X.env) :: starEach es X.env)
  (h : JEG X e σ fun a σ1 => JLG X pos es σ1 fun as σ2 => K (a :: as) σ2) : JLG X pos (e :: es) σ K := by
 intro ow ρ s S Q q
 rw [hs]
 refine i3 (h ow ρ s S _ fun a sa σ1 ow1 ρ1 hz1 tk1 ez1 S1 rz1 kz1 => ?_)
 exact kz1 ow1 ρ1 _ S1 _ fun v sv σ3 ow3 ρ3 hz3 tk3 ez3 S3 rz3 kz3 => q (a :: v) (sa :: sv) σ3 ow3 ρ3 hz3 tk3 (ez1.trans ez3) S3 (.cons (S1.ar ez3 rz1) rz3) kz3
theorem xp {K : SF → SS → Prop} (k : K .next σ) : JBG X [] σ K := .of (i7 k)
theorem tA {st : Stmt} {rest : List Stmt} {K : SF → SS → Prop} (h : JSG X st σ fun f σ1 => match f with | .next => JBG X rest σ1 K | f => K f σ1) : JBG X (st :: rest) σ K := by
 intro ow ρ s S Q q
 refine cK (h ow ρ s S _ fun a sa σ1 ow1 ρ1 hz1 tk1 ez1 S1 rz1 kz1 => ?_)
 induction rz1 using RF.casesOn with
 | next => exact kz1 ow1 ρ1 _ S1 _ fun a sa σ2 ow2 ρ2 hz2 tk2 ez2 S2 rz2 kz2 => q a sa σ2 ow2 ρ2 hz2 tk2 (ez1.trans ez2) S2 rz2 kz2
 | brk => exact q _ _ σ1 ow1 ρ1 hz1 tk1 ez1 S1 .brk kz1
 | cont => exact q _ _ σ1 ow1 ρ1 hz1 tk1 ez1 S1 .cont kz1
 | ret r => exact q _ _ σ1 ow1 ρ1 hz1 tk1 ez1 S1 (.ret r) kz1
theorem yZ {t : Expr} {a b : List Stmt} {pos : Pos} {K : SF → SS → Prop} (h : JTG X t σ fun c σ1 => Br c (JBG X a σ1 K) (JBG X b σ1 K)) : JSG X (.If t a b pos) σ K := by
 intro ow ρ s S Q q
 refine BF (h ow ρ s S _ fun c sc σ1 ow1 ρ1 hz1 tk1 ez1 S1 rz1 kz1 => ?_)
 obtain rfl : c = sc := rz1
 induction c using Bool.casesOn with
 | true => exact kz1 ow1 ρ1 _ S1 _ fun a sa σ2 ow2 ρ2 hz2 tk2 ez2 S2 rz2 kz2 => q a sa σ2 ow2 ρ2 hz2 tk2 (ez1.trans ez2) S2 rz2 kz2
 | false => exact kz1 ow1 ρ1 _ S1 _ fun a sa σ2 ow2 ρ2 hz2 tk2 ez2 S2 rz2 kz2 => q a sa σ2 ow2 ρ2 hz2 tk2 (ez1.trans ez2) S2 rz2 kz2
theorem pN {e : Expr} {pos : Pos} {K : SF → SS → Prop} (h : JEG X e σ fun v σ1 => K (.ret v) σ1) : JSG X (.Return (some e) pos) σ K := by
 intro ow ρ s S Q q
 exact ny (h ow ρ s S _ fun a sa σ1 ow1 ρ1 hz1 tk1 ez1 S1 rz1 kz1 => q _ _ σ1 ow1 ρ1 hz1 tk1 ez1 S1 (.ret rz1) kz1)
theorem jk {x : Str} {px pos : Pos} {value : Expr} {K : SF → SS → Prop} (hs : swapsWith value (some (.Name x px)) pos.line X.env = pure false) (h : JEG X value σ fun v σ1 => fZ X x v σ1 fun σ2 => K .next σ2) : JSG X (.Assign [.Name x px] value pos) σ K := by
 intro ow ρ s S Q q
 refine jU (h ow ρ s S _ fun a sa σ1 ow1 ρ1 hz1 tk1 ez1 S1 rz1 kz1 => ?_) hs
 exact .of (kz1 ow1 ρ1 { s with heap := hz1, toks := tk1 } a S1 rz1 _ _ fun _ _ σ2 ow2 ρ2 hz2 tk2 ez2 S2 _ kz2 => q .next .next σ2 ow2 ρ2 hz2 tk2 (ez1.trans ez2) S2 .next kz2)
theorem jV {f : Value} {first : List Value} {fas : List AV} {e : Expr} {args : List Expr} {pos : Pos} {ow : Addr → Prop} {ρ : List Addr} {s : Shared} (hs : az (e :: args) = true) (hk : keepIn (tp.heap_1 X.w.params) f = true) (S : SR X ow ρ s.heap σ) (rf : ARs (Pz s.heap ow) X.w ρ first fas)
  (h : JLG X pos (e :: args) σ fun as σ1 => bU X f (fas ++ as) σ1 K) : bT X ow ρ s (RV X) (callWith pos f first (backTo pos (starEach (e :: args) X.env)) []) K := by
 intro Q q
 refine gq (aC hs) hk ?_
 have sp : backTo pos (starEach (e :: args) X.env) = (false, eval e X.env) :: backTo pos (starEach args X.env) := by rw [am hs]; rfl
 rw [sp]
 refine d6 ?_
 rw [← sp]
 refine h ow ρ s S _ fun vs as σ1 ow1 ρ1 hz1 tk1 ez1 S1 rz1 kz1 => ⟨S1.kin, ?_⟩
 exact kz1 ow1 ρ1 { s with heap := hz1, toks := tk1 } _ S1 (ARs.append rz1 (S.ars ez1 rf)) _ fun v sv σ2 ow2 ρ2 hz2 tk2 ez2 S2 rz2 kz2 => q v sv σ2 ow2 ρ2 hz2 tk2 (ez1.trans ez2) S2 rz2 kz2
theorem ie {id : String} {first : List Value} {fas : List AV} {e : Expr} {args : List Expr} {pos : Pos} {ow : Addr → Prop} {ρ : List Addr} {s : Shared} (hs : az (e :: args) = true) (S : SR X ow ρ s.heap σ) (rf : ARs (Pz s.heap ow) X.w ρ first fas)
  (h : JLG X pos (e :: args) σ fun as σ1 => bU X (.builtin id) (fas ++ as) σ1 K) : bT X ow ρ s (RV X) (callWith pos (.builtin id) first (backTo pos (starEach (e :: args) X.env)) []) K := by
 intro Q q
 refine fW (aC hs) ?_
 have sp : backTo pos (starEach (e :: args) X.env) = (false, eval e X.env) :: backTo pos (starEach args X.env) := by rw [am hs]; rfl
 rw [sp]
 refine d6 ?_
 rw [← sp]
 refine h ow ρ s S _ fun vs as σ1 ow1 ρ1 hz1 tk1 ez1 S1 rz1 kz1 => ?_
 exact kz1 ow1 ρ1 { s with heap := hz1, toks := tk1 } _ S1 (ARs.append rz1 (S.ars ez1 rf)) _ fun v sv σ2 ow2 ρ2 hz2 tk2 ez2 S2 rz2 kz2 => q v sv σ2 ow2 ρ2 hz2 tk2 (ez1.trans ez2) S2 rz2 kz2
theorem mc {id : String} {e : Expr} {args : List Expr} {pos : Pos} {ow : Addr → Prop} {ρ : List Addr} {s : Shared} (hs : az (e :: args) = true) (S : SR X ow ρ s.heap σ)
  (h : JLG X pos (e :: args) σ fun as σ1 => bU X (.type id) as σ1 K) : bT X ow ρ s (RV X) (callWith pos (.type id) [] (backTo pos (starEach (e :: args) X.env)) []) K := by
 intro Q q
 refine iA (aC hs) ?_
 have sp : backTo pos (starEach (e :: args) X.env) = (false, eval e X.env) :: backTo pos (starEach args X.env) := by rw [am hs]; rfl
 rw [sp]
 refine d6 ?_
 rw [← sp]
 refine h ow ρ s S _ fun vs as σ1 ow1 ρ1 hz1 tk1 ez1 S1 rz1 kz1 => ?_
 exact kz1 ow1 ρ1 { s with heap := hz1, toks := tk1 } _ S1 rz1 _ fun v sv σ2 ow2 ρ2 hz2 tk2 ez2 S2 rz2 kz2 => q v sv σ2 ow2 ρ2 hz2 tk2 (ez1.trans ez2) S2 rz2 kz2
noncomputable def uY (X : Fx) (pos : Pos) (args : List Expr) (fv : AV) (σ : SS) (K : AV → SS → Prop) : Prop := match fv with
 | .v (.ref f) => keepIn (tp.heap_1 X.w.params) (.ref f) = true ∧ JLG X pos args σ fun as σ2 => bU X (.ref f) as σ2 K
 | .v (.bi id) => JLG X pos args σ fun as σ2 => bU X (.builtin id.id) as σ2 K
 | .v (.ty n) => JLG X pos args σ fun as σ2 => bU X (.type n.id) as σ2 K
 | _ => False
theorem u4 {x : Str} {px pos : Pos} {e : Expr} {args : List Expr} (hs : az (e :: args) = true) (h : JE X (.Name x px) σ fun fv σ1 => uY X pos (e :: args) fv σ1 K) : JEG X (.Call (.Name x px) (e :: args) [] pos) σ K := by
 intro ow ρ s S Q q
 refine sx (.of (h ow ρ s S _ _ fun a sa σ1 ow1 ρ1 hz1 tk1 ez1 S1 rz1 kz1 => ?_))
 induction rz1 using AR.casesOn with
 | c => exact kz1.elim
 | v r => induction r using VR.casesOn with
  | ref f =>
   have kz1 : keepIn (tp.heap_1 X.w.params) (.ref f) = true ∧ JLG X pos (e :: args) σ1 fun as σ2 => bU X (.ref f) as σ2 K := kz1
   exact jV (s := { s with heap := hz1, toks := tk1 }) hs kz1.1 S1 .nil kz1.2 _ fun v sv σ2 ow2 ρ2 hz2 tk2 ez2 S2 rz2 kz2 => q v sv σ2 ow2 ρ2 hz2 tk2 (ez1.trans ez2) S2 rz2 kz2
  | bi id =>
   have kz1 : JLG X pos (e :: args) σ1 fun as σ2 => bU X (.builtin id.id) as σ2 K := kz1
   exact ie (s := { s with heap := hz1, toks := tk1 }) hs S1 .nil kz1 _ fun v sv σ2 ow2 ρ2 hz2 tk2 ez2 S2 rz2 kz2 => q v sv σ2 ow2 ρ2 hz2 tk2 (ez1.trans ez2) S2 rz2 kz2
  | ty id =>
   have kz1 : JLG X pos (e :: args) σ1 fun as σ2 => bU X (.type id.id) as σ2 K := kz1
   exact mc (s := { s with heap := hz1, toks := tk1 }) hs S1 kz1 _ fun v sv σ2 ow2 ρ2 hz2 tk2 ez2 S2 rz2 kz2 => q v sv σ2 ow2 ρ2 hz2 tk2 (ez1.trans ez2) S2 rz2 kz2
  | _ => exact kz1.elim
theorem sh {o : Expr} {name : Str} {apos pos : Pos} {e : Expr} {args : List Expr} (hb : gH o = true) (ho : mOk (e :: args) apos pos = true) (h : JE X o σ fun a σ1 => ∃ id, JGm X name a σ1 id ∧ JLG X pos (e :: args) σ1 fun as σ2 => bU X (.builtin id) (a :: as) σ2 K) : JEG X (.Call (.Attribute o name apos) (e :: args) [] pos) σ K := by
 have hs : az (e :: args) = true := by unfold mOk at ho; exact (Bool.and_eq_true_iff.mp (Bool.and_eq_true_iff.mp ho).1).1
 intro ow ρ s S Q q
 refine w7 hb ho fun pl => .of (h ow ρ s S _ _ fun va a σ1 ow1 ρ1 hz1 tk1 ez1 S1 rz1 kz1 => ?_)
 obtain ⟨id, gm, k⟩ := kz1
 refine .of (gm ow1 ρ1 { s with heap := hz1, toks := tk1 } va pl S1 rz1 _ _ ?_)
 exact ie (s := { s with heap := hz1, toks := tk1 }) hs S1 (.cons rz1 .nil) k _ fun v sv σ2 ow2 ρ2 hz2 tk2 ez2 S2 rz2 kz2 => q v sv σ2 ow2 ρ2 hz2 tk2 (ez1.trans ez2) S2 rz2 kz2
end
end
section
section
variable {prog : Program} {w : World} {M : Model} {A : Around} {s : Shared} {env : Env} {R : Result → Shared → Prop}
noncomputable def jZ (Q : Value → Shared → Prop) (acc : Value) (C : Addr) (r : Result) (s' : Shared) : Prop := match r with
 | .ok _ => ∃ m, s'.heap.Ns C m ∧ ∀ h', Heap.SameBut C s'.heap h' → Q acc { s' with heap := h' }
 | .error _ => False
theorem mq {α : Type} {m : Sem α} {E : Value → Shared → Prop} {Q : Except Value α → Shared → Prop} (h : wpG M A m (fun a => Q (.ok a)) (fun e => Q (.error e)) s) : wpG M A m.attempt Q E s := fun Γ p a b c => by rw [Sem.wp_attempt]; exact h Γ p a b c
theorem iB {e : Expr} {scope : Scope} {pos : Pos} {newAcc first : Sem Value} {g : Comprehension} {gs : List Comprehension} {cl : List (Str × Addr)} {Q : Value → Shared → Prop}
  (hcl : clausesOf e = g :: gs) (hs : ∀ x, foldedSetIterable g.iter env x = pure x) (hclos : closureFor scope env = pure cl)
  (hkind : scope.kind = .function) (hnames : ∀ x ∈ scope.names, x.2 = .local → scope.names.lookup x.1 = some .local)
  (h : wpAny M A first (fun x s₁ => wpAny M A (pyIter x) (fun it sz2 => wpAny M A newAcc (fun acc sz3 =>
   wpAny M A (newFunctionEnv scope env.globals cl [] env.qual none .none (some env)) (fun cenv sz4 =>
    bw M A (.compStart e 0 it acc { cenv with scope := relabel scope env }) (jZ Q acc cenv.locals) sz4) F0 sz3) F0 sz2) F0 s₁) F0 s) :
  wpG M A (comprehension e scope env pos newAcc false first none) Q F0 s := by
 unfold comprehension
 rw [hclos, hcl]
 refine au (wpAny_mono h (fun x s₁ hz1 => ac (ap (ac (bn (hs x) (ac (ak (wpG.of (wpAny_mono hz1 (fun it sz2 hz2 => ?_) fun _ _ h' => h')))))))) fun _ _ h' => h')
 refine au (wpAny_mono hz2 (fun acc sz3 hz3 => ac (ae (au (wpAny_mono hz3 (fun cenv sz4 hz4 => ?_) fun _ _ h' => h')))) fun _ _ h' => h')
 dsimp only
 have hv : ∀ x ∈ (scope.names.filter fun x => (x.2 == .local || x.2 == .cell) && x.1 != (".0" : Str)).reverse, x.2 = .local →
   Env.kindOf { cenv with scope := relabel scope env } x.1 = some .local := fun x hx hl => lookup_relabel_local (hnames x (List.mem_filter.mp (List.mem_reverse.mp hx)).1 hl)
 refine ak (ac (mq (ak (xH (pQ hz4 fun r s' hr => ?_)))))
 induction r using Except.casesOn with
 | ok f =>
  obtain ⟨m, hn, hr⟩ := hr
  exact au (wpAny_holding (wpAny_comp_letGo (cenv := { cenv with scope := relabel scope env }) hkind _ s' m hv hn fun h' m' _ hs' => ae (hr h' hs')))
 | error x => exact hr.elim
theorem ix {elt target iter : Expr} {ifs : List Expr} {rest : List Comprehension} {scope : Scope} {pos : Pos} {it acc : Value}
  (h0 : bw (model prog w) A (.compLoop (.ListComp elt (⟨target, iter, ifs, 0⟩ :: rest) scope pos) 0 it acc env) R s)
  (h : wpAny (model prog w) A (pyIter it) (fun it' s' => bw (model prog w) A (.compLoop (.ListComp elt (⟨target, iter, ifs, 0⟩ :: rest) scope pos) 0 it' acc env) R s') F0 s) :
  bw (model prog w) A (.compStart (.ListComp elt (⟨target, iter, ifs, 0⟩ :: rest) scope pos) 0 it acc env) R s := by
 refine bk rfl ?_
 show wpG _ _ ((compStart (.ListComp elt (⟨target, iter, ifs, 0⟩ :: rest) scope pos) 0 it acc env).onRaise (fun x => do noteFrame x env; standAt theWindowsPlace)) _ _ s
 refine dS ?_
 unfold compStart
 show wpG _ _ (ask >>= _) _ _ s
 refine au (wpAny_askSetting ?_)
 refine y5 ?_
 split
 ·first
   | exact ac (ae (ae (And.intro rfl h0)))
   | exact ae (And.intro rfl h0)
 ·first
   | exact ac (i8 (ac (ap (au (wpAny_mono h (fun it' s' h' => ae (And.intro rfl h')) fun _ _ x => x)))))
   | (refine ac (i8 ?_); show wpG _ _ (standAt iter.pos >>= _) _ _ s; exact ac (ap (au (wpAny_mono h (fun it' s' h' => ae (And.intro rfl h')) fun _ _ x => x))))
theorem jp {elt target iter : Expr} {scope : Scope} {pos : Pos} {it acc : Value} (I : Nat → Shared → Prop)
  (turn : ∀ n s, I n s → wpAny (model prog w) A (pyNext it) (fun r s₁ => match r with
   | none => R (.ok .next) s₁
   | some v => wpAny (model prog w) A (assign target env v) (fun _ sz3 => wpG (model prog w) A (eval elt env) (fun x sz4 =>
       wpAny (model prog w) A (call (.builtin "list.append") [acc, x]) (fun _ sz5 => ∃ m, m < n ∧ I m sz5) F0 sz4) F0 sz3) F0 s₁) F0 s)
  (n : Nat) (h : I n s) (ht : ∀ v, letOwnedTupleGo target it v = pure () := by intro _; rfl) :
  bw (model prog w) A (.compLoop (.ListComp elt [⟨target, iter, [], 0⟩] scope pos) 0 it acc env) R s := by
 refine o5 rfl rfl I (fun n s hI => ?_) n h
 show wpG _ A ((compTurn (.ListComp elt [⟨target, iter, [], 0⟩] scope pos) 0 it acc env).onRaise (fun x => do noteFrame x env; theTreesLotGoes x)) _ _ s
 refine dS ?_
 rw [compTurn_list]
 refine ac (ap (au (wpAny_mono (turn n s hI) (fun r s₁ hz1 => ?_) fun _ _ h' => h')))
 induction r using Option.casesOn with
 | none => exact ae hz1
 | some v =>
  refine ac (bn (ht v) ?_)
  refine au (wpAny_mono hz1 (fun _ sz2 hz2 => ?_) fun _ _ h' => h')
  refine ac (ae ?_)
  exact ac (ac (hz2.monoQ fun x sz4 hz4 => au (wpAny_mono hz4 (fun _ sz5 hz5 => ae (ae ⟨rfl, hz5⟩)) fun _ _ h' => h')))
end
noncomputable def nY (X : Fx) (x : Str) (elt : Expr) : List SV → List SV → List aa → (List SV → List aa → Prop) → Prop
 | [], acc, cel, K => K acc cel
 | d :: ds, acc, cel, K => JEG X elt ⟨[(x, .v d)], cel⟩ fun v σ2 => asV v fun sv => nY X x elt ds (acc ++ [sv]) σ2.cel K
section
variable {X : Fx} {σ : SS}
theorem CS.loopG {ow1 : Addr → Prop} {ρ1 : List Addr} {scope : Scope} {I D C : Addr} {ml : Str → Option Value} {s : Shared} {va : Value} {its : List SV} {fp : List Addr} {P : Nat → Value → Prop} {St : Nat → Heap → Prop} {K : List SV → List aa → Prop}
  (c : CS X σ ow1 ρ1 s.heap scope I D C ml) {x : Str} {px : Pos} {elt iter : Expr} {pos : Pos} (hx : scope.names.lookup x = some .local) (it : gG X ow1 s.heap va its I fp P St) (hz : its.length ≤ 16384) {R : Result → Shared → Prop}
  (hRR : ∀ h' tk, dR X σ ow1 ρ1 s.heap K D C h' → R (.ok .next) { s with heap := h', toks := tk }) {s' : Shared} (inv0 : mZ (XC X scope C ml) ow1 ρ1 s St I D its (fun ds acc cel => nY (XC X scope C ml) x elt ds acc cel K) its.length s') :
  bw (model af X.w) X.A (.compLoop (.ListComp elt [⟨.Name x px, iter, [], 0⟩] scope pos) 0 (.ref I) (.ref D) (XC X scope C ml).env) R s' := by
 refine jp _ (fun n s' inv => ?_) its.length inv0
 refine c.turn hx it hz inv (fun _ _ k => k) (fun h' tk co => hRR _ _ co) (fun _ _ k => k) fun ow3 ρ3 hz3 tk3 d acc cel ds S3 jc step0 step1 => ?_
 refine jc ow3 ρ3 { s with heap := hz3, toks := tk3 } S3 _ fun y sy σ5 ow5 ρ5 hz5 tk5 ez5 S5 rz5 kz5 => ?_
 obtain ⟨sv, rfl, kz5⟩ := bj kz5
 exact step1 _ _ _ _ _ _ _ ez5 S5 rz5.inv kz5
theorem qJ (O : X.Ok) (hcomp : X.comp = none) {elt iter : Expr} {x : Str} {px : Pos} {scope : Scope} {pos : Pos} {ow1 : Addr → Prop} {ρ1 : List Addr} {s : Shared} {va : Value} {its : List SV} {oI : Obj} {fp : List Addr} {P : Nat → Value → Prop} {St : Nat → Heap → Prop} {K : List SV → List aa → Prop} {RR : Value → Addr → Result → Shared → Prop}
  (hcell : ∀ y ∈ scope.names, y.2 ≠ .cell) (hkind : scope.kind = .function) (hx : scope.names.lookup x = some .local) (hfr : cG scope.names X.vid = true)
  (S1 : SR X ow1 ρ1 s.heap σ) (hof : oI.isFreed = false) (it : gG X ow1 s.heap va its s.heap.objs.size fp P St) (st0 : St 0 (s.heap.push oI)) (hz : its.length ≤ 16384)
  (jc : ∀ X', dN X X' scope → nY X' x elt its [] σ.cel K)
  (hRR : ∀ D C h' tk, dR X σ ow1 ρ1 s.heap K D C h' → RR (.ref D) C (.ok .next) { s with heap := h', toks := tk }) :
  wpAny (model af X.w) X.A (newList []) (fun acc sz3 => wpAny (model af X.w) X.A (newFunctionEnv scope X.env.globals (eK X.env scope.names []) [] X.env.qual none .none (some X.env)) (fun cenv sz4 =>
   bw (model af X.w) X.A (.compStart (.ListComp elt [⟨.Name x px, iter, [], 0⟩] scope pos) 0 (.ref s.heap.objs.size) acc { cenv with scope := relabel scope X.env }) (RR acc cenv.locals) sz4) F0 sz3) F0 { s with heap := s.heap.push oI } := by
 refine wpAny_newObj_type (wpAny_newFunctionEnv hcell (fun y hy => nomatch hy) (fun hz4 hns hsb => ?_) hkind)
 refine mQ O hcomp hkind S1 hof hns hsb (s := s) rfl (fun up => it.W.frame _ _ _ st0 fun b _ o e => up b o e) fun ml c st4 inv0 => ?_
 have lp := c.loopG hx it hz (pos := pos) (px := px) (iter := iter) (R := RR _ _) (fun _ _ co => hRR _ _ _ _ co) (inv0 _ _ s.toks (jc _ c.ic))
 exact ix lp (it.W.self 0 { s with heap := hz4, toks := s.toks } _ _ st4 lp)
theorem lb {K : AV → SS → Prop} {elt iter : Expr} {x : Str} {px : Pos} {scope : Scope} {pos : Pos} (O : X.Ok) (hcomp : X.comp = none) (hok : d7 scope x = true) (hfr : cG scope.names X.vid = true) (hs : ∀ v, foldedSetIterable iter X.env v = pure v)
  (h : JE X iter σ fun a σ1 => ∃ its, eM X a σ1 its ∧ its.length ≤ 16384 ∧ ∀ X', dN X X' scope → nY X' x elt its [] σ1.cel fun acc cel => K (.v (.lst acc)) ⟨σ1.loc, cel⟩) : JEG X (.ListComp elt [⟨.Name x px, iter, [], 0⟩] scope pos) σ K := by
 refine hide fun Gz0 bk0 => ?_
 obtain ⟨a1, a2, a3, a4⟩ := eU hok
 refine bk0 ?_; clear bk0 Gz0
 intro ow ρ s S Q q
 rw [eval_ListComp]
 refine iB rfl hs (lB S hfr) a3 a2 (h ow ρ s S _ _ fun a sa σ1 ow1 ρ1 hz1 tk1 ez1 S1 rz1 kz1 => ?_)
 refine hide fun Gz0 bk0 => ?_
 obtain ⟨its, hi, hz, jc⟩ := kz1
 refine bk0 ?_; clear bk0 Gz0
 refine hi ow1 ρ1 { s with heap := hz1, toks := tk1 } a S1 rz1 _ _ fun o fp P St hof it st0 => ?_
 refine qJ (RR := fun acc C => jZ Q acc C) (s := { s with heap := hz1, toks := tk1 }) O hcomp a1 a3 a4 hfr S1 hof it st0 hz jc fun D C h' tk co => ?_
 obtain ⟨m', hn⟩ := co.ns
 refine ⟨m', hn, fun h'' hs => ?_⟩
 refine hide fun Gz0 bk0 => ?_
 obtain ⟨ow', ρ', acc, cel', S', e', v, k⟩ := sC S1 co hs
 refine bk0 ?_; clear bk0 Gz0
 exact q _ _ _ _ _ _ tk (ez1.trans e') S' (.v v) k
end
noncomputable def aW (w : World) (f : Addr) (D U : Nat) (sp : Spec) : Prop :=
 ∀ (X : Fx), X.Ok → X.w = w → X.dp + D < recursionLimit → X.un + U < cLine → ∀ (ow : Addr → Prop) (ρ : List Addr) (σ : SS) (s : Shared), SR X ow ρ s.heap σ →
 ∀ (ρ' : List Addr) (cel : List aa) (vs : List Value) (as : List AV) (K : SV → List aa → Prop), ρ'.Nodup → (∀ a ∈ ρ', a ∈ ρ) → cC (Pz s.heap ow) w ρ' s.heap cel → ARs (Pz s.heap ow) w ρ' vs as → sp as cel K →
 ∀ (Q : Value → Shared → Prop), (∀ v r cel' h' tk', (∀ b o, s.heap.get? b = some o → b ∉ ρ' → h'.get? b = some o) → (∀ b o, s.heap.get? b = some o → ∃ o', h'.get? b = some o') → cC (Pz h' ow) w ρ' h' cel' → VR (Pz h' ow) w v r → K r cel' → Q v { s with heap := h', toks := tk' }) →
 wpG (model af w) X.A (call (.ref f) vs) Q F0 s
section
variable {prog : Program} {w : World} {A : Around} {s : Shared} {R : Result → Shared → Prop}
theorem fQ {body : List Stmt} {env : Env} (h : wpG (model prog w) (A.deeper env) (execs body env) (fun f s' => R (.ok (.ret (match f with | .ret v => v | _ => .none))) s') F0 s) : bw (model prog w) A (.func body env) R s := by
 refine bk rfl ?_
 show wpG _ (A.deeper env) (do point; match ← (execs body env).onRaise (leaving env) with | .ret v => ret v | _ => ret .none) _ _ s
 refine ac (fc (ac (dS (h.monoQ fun f s' h' => ?_))))
 induction f using Flow.casesOn <;> exact ae h'
theorem bO {a : Addr} {args : Args} {o : Obj} {fd : FuncData} {body : List Stmt} (hroom : A.depth < recursionLimit)
  (ho : s.heap.get? a = some o) (hd' : o.data = .func fd) (hco : fd.scope.isCoroutine = false) (hgen : fd.scope.isGenerator = false) (hbody : fd.body = .stmts body) (hcd : s.heap.CodeRec fd.code fd.qualname)
  (h : wpAny (model prog w) A.in1 (bindArgs fd args) (fun binds s₁ =>
   wpAny (model prog w) A.in1 (newFunctionEnv fd.scope fd.globals fd.closure binds (fd.qualname ++ ".<locals>.") (some a) fd.code none fd.builtins)
    (fun env sz2 => sz2.heap.NoLimit ∧ bw (model prog w) A (.func body env) R sz2) F0 s₁) F0 s) :
  bw (model prog w) A (.call (.ref a) args) R s := by
 refine bk rfl ?_
 show wpG _ A.in1 (callAny (.ref a) args) _ _ s
 refine au (wpAny_load ho ?_)
 refine hide fun Gz0 bk0 => ?_
 obtain ⟨c, oc, vs, tq, hc, hoc, hdc, hq⟩ := hcd
 refine bk0 ?_; clear bk0 Gz0
 rw [hd']
 dsimp only
 unfold callFunction
 rw [hc, hbody, hgen, hco]
 rw [hc] at h
 refine au (m := field (.ref c) 1) (wpAny_field hoc hdc hq (ac (ae ?_)))
 exact au (wpAny_mono h (fun binds s₁ hz1 => au (wpAny_mono hz1 (fun env sz2 hz2 => au (wpAny_enterFrame hz2.1 hroom
  (ae (And.intro rfl hz2.2)))) fun _ _ h' => h'.elim)) fun _ _ h' => h'.elim)
end
theorem aW.of_body {w : World} {f : Addr} {D U : Nat} {sp : Spec} {qual : Str} {params : Arguments} {body : List Stmt} {sc : Scope} {ns : List Str} (hf : gZ w f qual params body sc) (hb : Bnd params ns) (hc : dq sc ns)
  (hlen : ∀ as cel K, sp as cel K → as.length = ns.length)
  (h : ∀ (X : Fx) (as : List AV) (cel : List aa) (K : SV → List aa → Prop), X.Ok → X.w = w → X.D = D → X.U = U → Agr X (gU sc cel.length) → sp as cel K → JBG X body (aR sc ns as cel) (oS cel.length K)) : aW w f (D + 1) (U + 3) sp := by
 intro X O hw hdp hun ow ρ σ s S ρ' cel vs as K nd sub C R hsp Q q
 refine hide fun Gz0 bk0 => ?_
 obtain ⟨news, N, hnews⟩ := iI S sub
 obtain ⟨o, fd, ⟨ho, hd, hco, hgen, hbody, hcd⟩, go⟩ := l7 hf hb hc X O hw hdp hun ow ρ σ s S ρ' cel vs as nd sub C R (hlen _ _ _ hsp) N hnews (fun _ m => m) (fun a m => (S.off a (sub a m)).1)
 refine bk0 ?_; clear bk0 Gz0
 refine eX (bO (by show X.dp < recursionLimit; lia) ho hd hco hgen hbody hcd (go (fun env sz2 => bw (model af w) X.A (.func body env) _ sz2) _ fun X' ca hz1 tk T => fQ ?_))
 have J := h X' as cel K T.ok T.w T.D T.U T.ag hsp _ _ { s with heap := hz1, toks := tk } T.S (fun fl s' => Q (match fl with | .ret v => v | _ => .none) s') fun a b σ' ow' ρ'' h' tk' e S'' r k => T.out S.low C q a b σ' ow' ρ'' h' tk' e S'' r k
 rw [T.w, T.A] at J
 exact J
section
variable {X : Fx} {σ : SS} {K : AV → SS → Prop}
theorem ru (O : X.Ok) {f : Addr} {D U : Nat} {sp : Spec} (hf : aW X.w f D U sp) (hD : D ≤ X.D) (hU : U ≤ X.U) {as : List AV} (h : eC sp as σ K) : bU X (.ref f) as σ K := by
 intro ow ρ s vs S R Q q
 have room := O.room
 have units := O.units
 exact jn O S R q (fun ρ' cel as K nd sub C R sp q' => hf X O rfl (by lia) (by lia) ow ρ σ s S ρ' cel vs as K nd sub C R sp Q q') h
end
end
section
namespace Ba
theorem mro : mroOf (.type "bytearray") = pure [.type "bytearray", .type "object"] := by rw [mroOf_type]; kernel_rfl
theorem tY : typeLookup (.type "bytearray") "__new__" = pure (some (.builtin "bytearray.__new__")) := by rw [typeLookup_type, builtinLookup_eq_fast]; kernel_rfl
theorem slot_init : Slot "bytearray" "__init__" "bytearray.__init__" :=
 .of (owner := "bytearray") (n := "__init__") (by rw [typeLookup_type, builtinLookup_eq_fast]; kernel_rfl) (by decide +kernel) (by decide +kernel) (by decide +kernel)
  (by first | exact .inl (by decide +kernel) | exact .inr (by decide +kernel)) (by rw [isSubtype_type]; kernel_rfl)
theorem slot_set : Slot "bytearray" "__setitem__" "bytearray.__setitem__" :=
 .of (owner := "bytearray") (n := "__setitem__") (by rw [typeLookup_type, builtinLookup_eq_fast]; kernel_rfl) (by decide +kernel) (by decide +kernel) (by decide +kernel)
  (by first | exact .inl (by decide +kernel) | exact .inr (by decide +kernel)) (by rw [isSubtype_type]; kernel_rfl)
theorem called : TypeCalled "bytearray" "bytearray.__new__" "bytearray.__init__" :=
 ⟨by decide +kernel, by decide +kernel, ⟨_, _, mro⟩, madeBy_type mro tY (by decide +kernel), by decide +kernel, by rw [isSubtype_type]; kernel_rfl, slot_init⟩
theorem typeCall (a : Value) : checkTypeCall "bytearray" ⟨[a], []⟩ = pure () := by rw [Fast.te11612656972197000677]; kernel_rfl
theorem newCall (a : Value) : checkBuiltinCall "bytearray.__new__" ⟨[.type "bytearray", a], []⟩ = pure () := by rw [Fast.te10254737850608025244]; kernel_rfl
theorem entry_new : entryFor table "bytearray.__new__" = some Builtin.«list.__new__» := entryFor_alias (id' := "list.__new__") (by rw [fastTable_eq_tree]; kernel_rfl) (by decide +kernel) (by decide +kernel) (by rw [fastTable_eq_tree]; kernel_rfl)
theorem entry_init : entryFor table "bytearray.__init__" = some Builtin.«bytearray.__init__» := entryFor_of_tree (by kernel_rfl)
theorem entry_set : entryFor table "bytearray.__setitem__" = some Builtin.«bytearray.__setitem__» := entryFor_of_tree (by kernel_rfl)
theorem plain_new : plainId "bytearray.__new__" = true := by decide +kernel
theorem plain_init : plainId "bytearray.__init__" = true := by decide +kernel
theorem owner : Manifest.owners.lookup (String.ofList ['y', 'a', 'r', 'r', 'a', 'e', 't', 'y', 'b'].reverse) = some Manifest.sig_bytearray := by kernel_rfl
theorem args_init (a b : Value) : argsOk "bytearray.__init__" ⟨[a, b], []⟩ := by
 unfold argsOk; rw [signature?_of (id := "bytearray.__init__") (n := ['_', '_', 't', 'i', 'n', 'i', '_', '_']) (o := ['y', 'a', 'r', 'r', 'a', 'e', 't', 'y', 'b']) (by kernel_rfl) owner]; kernel_rfl
theorem args_set (a b c : Value) : argsOk "bytearray.__setitem__" ⟨[a, b, c], []⟩ := by
 unfold argsOk; rw [signature?_of (id := "bytearray.__setitem__") (n := ['_', '_', 'm', 'e', 't', 'i', 't', 'e', 's', '_', '_']) (o := ['y', 'a', 'r', 'r', 'a', 'e', 't', 'y', 'b']) (by kernel_rfl) owner]; kernel_rfl
theorem no_release : typeLookup (.type "bytearray") "__release_buffer__" = pure (some (.builtin "bytearray.__release_buffer__")) := by rw [typeLookup_type, builtinLookup_eq_fast]; kernel_rfl
theorem look_buffer : typeLookup (.type "bytearray") "__buffer__" = pure (some (.builtin "bytearray.__buffer__")) := by rw [typeLookup_type, builtinLookup_eq_fast]; kernel_rfl
theorem no_bytes : typeLookup (.type "bytearray") "__bytes__" = pure none := by rw [typeLookup_type, builtinLookup_eq_fast]; kernel_rfl
theorem noindex : typeLookup (.type "bytearray") "__index__" = pure none := by rw [typeLookup_type, builtinLookup_eq_fast]; kernel_rfl
theorem sub : isSubtype (.type "bytearray") (.type "bytearray") = pure true := by rw [isSubtype_type]; kernel_rfl
theorem own : ("bytearray.__new__".splitOn ".__new__").headD "" = "bytearray" := by simp +decide [String.splitOn, String.splitOnAux]
theorem bind (v : Value) : Builtin.Bytes.bindOptional "bytearray.__init__" "bytearray" ["source", "encoding", "errors"] [v] [] = pure [some v, none, none] := by kernel_rfl
end Ba
section
open Builtin
variable {prog : Program} {w : World} {A : Around} {E : Value → Shared → Prop} {s : Shared}
theorem nM {self : Value} {Q : Bool → Shared → Prop} (h : Q false s) : wpG (model prog w) A (Bytes.exported self) Q E s := by
 refine lI (fun c p hc => ?_) h
 induction c using Code.casesOn with
 | builtin id args =>
  have hc : hW.contains id = false := by simpa [okC] using hc
  have no : ∀ x : String, hW.contains x = true → id ≠ x := fun x hx e => by subst e; rw [hc] at hx; exact Bool.noConfusion hx
  have hd : Bytes.decodersThatHold.contains id = false := by
   cases q : Bytes.decodersThatHold.contains id with
   | false => rfl
   | true =>
    have m : hW.contains id = true := List.contains_iff_mem.mpr (List.mem_append_right _ (List.contains_iff_mem.mp q))
    rw [m] at hc; exact Bool.noConfusion hc
  obtain ⟨pos, kw⟩ := args
  delta Bytes.exported.match_1
  refine (dif_neg (no _ (by decide +kernel))).trans ((dif_neg (no _ (by decide +kernel))).trans ((dif_neg (no _ (by decide +kernel))).trans ((dif_neg (no _ (by decide +kernel))).trans ((dif_neg (no _ (by decide +kernel))).trans ?_))))
  induction pos using List.casesOn with
  | nil => exact rfl
  | cons v r => exact (congrArg (Bytes.sameRef v self && ·) hd).trans (Bool.and_false _)
 | _ => exact rfl
theorem ze (a : Value) {Q₁ : Value → Shared → Prop}
  (h : Q₁ (.ref s.heap.objs.size) { s with heap := s.heap.push { cls := .type "bytearray", data := .bytearray #[] } }) :
  codeAny (model prog w) A (.call (.builtin "bytearray.__new__") ⟨[.type "bytearray", a], []⟩) (wants Q₁ E) s := by
 refine codeAny_of_tree ?_
 refine wpAny_bind (wpAny_of_eq (Ba.newCall a) (wpAny_pure ⟨plainId_quiet Ba.plain_new _, codeAny_builtin_stack Ba.entry_new rfl fun p st => ?_⟩))
 rw [Around.under_plainId Ba.plain_new _]
 have hsub := Ba.sub
 have hown := Ba.own
 obtain ⟨hp, g, d, tk, os⟩ := s
 dsimp only
 rw [hown]
 wp_walk
 exact h
theorem gi {a : Addr} {l : Array UInt8} {f : Array UInt8 → Array UInt8} {Q : Unit → Shared → Prop} (e : s.heap.get? a = some { cls := .type "bytearray", data := .bytearray l 0 }) (hz : (f l).size ≤ sizeLine)
  (h : ∀ h', h'.get? a = some { cls := .type "bytearray", data := .bytearray (f l) 0 } → Heap.SameBut a s.heap h' → Q () { s with heap := h' }) : wpAny (model prog w) A (Bytes.write (.ref a) f) Q E s := by
 refine wpAny_bind (wpAny_load e ?_)
 refine wpAny_bind (wpAny_update e ?_)
 have ez2 : (s.heap.update a (Obj.mapBytearray f)).get? a = some { cls := .type "bytearray", data := .bytearray (f l) 0 } := Heap.get?_update_self (Obj.mapBytearray f) e rfl
 refine wpAny_lookBehind ez2 ?_ (h _ ez2 (Heap.SameBut.update ..))
 show (if (f l).size > sizeLine then some "bytearray:memory" else none) = none
 rw [if_neg]; lia
theorem ul {a : Addr} {l : Array UInt8} {Q : Bool → Shared → Prop} (e : s.heap.get? a = some { cls := .type "bytearray", data := .bytearray l 0 }) (h : Q false s) : wpAny (model prog w) A (Bytes.ownRelease (.ref a)) Q E s := by
 have hT : s.TypeIs (.ref a) "bytearray" := ⟨_, e, rfl⟩
 refine wpAny_bind ?_
 refine wpAny_bind (wpAny_specialOf hT Ba.no_release ?_)
 show wpAny _ _ (if (!"bytearray.__release_buffer__".endsWith ("." ++ "__release_buffer__")) = true then _ else _) _ _ _
 rw [if_neg (by decide +kernel)]
 have key : ∀ x : String, x = "bytearray" → wpAny (model prog w) A (isInstance (.ref a) (.type x)) (fun b s' => wpAny (model prog w) A (pure !b) Q E s') E s := fun x hx => by
  subst hx; exact wpAny_isInstance hT Ba.sub (wpAny_pure h)
 exact key _ (by decide +kernel)
theorem qG {a : Addr} {l : Array UInt8} {Q : Bool → Shared → Prop} (e : s.heap.get? a = some { cls := .type "bytearray", data := .bytearray l 0 }) (h : Q true s) : wpAny (model prog w) A (Bytes.slotIsOwn (.ref a) "__buffer__") Q E s := by
 have hT : s.TypeIs (.ref a) "bytearray" := ⟨_, e, rfl⟩
 refine wpAny_bind (wpAny_specialOf hT Ba.look_buffer ?_)
 show wpAny _ _ (if (!"bytearray.__buffer__".endsWith ("." ++ "__buffer__")) = true then _ else _) _ _ _
 rw [if_neg (by decide +kernel)]
 have key : ∀ x : String, x = "bytearray" → wpAny (model prog w) A (isInstance (.ref a) (.type x)) Q E s := fun x hx => by
  subst hx; exact wpAny_isInstance hT Ba.sub h
 exact key _ (by decide +kernel)
theorem iJ {M : Model} {A : Around} {α : Type} {c : Prop} [Decidable c] {x y : Sem α} {Q : α → Shared → Prop} {E : Value → Shared → Prop} {s : Shared} (h : ¬ c) (k : wpG M A y Q E s) : wpG M A (if c then x else y) Q E s := by rw [if_neg h]; exact k
theorem xF {B : Around} {a : Addr} {l : Array UInt8} {n : Int} {t : Tok} {R : Result → Shared → Prop} (e : s.heap.get? a = some { cls := .type "bytearray", data := .bytearray l 0 }) (h0 : 0 ≤ n) (h1 : n ≤ 1000)
  (h : ∀ h', h'.get? a = some { cls := .type "bytearray", data := .bytearray (Array.replicate n.toNat 0) 0 } → Heap.SameBut a s.heap h' → R (.ok (.ret .none)) { s with heap := h' }) :
  wpG (model prog w) A (Builtin.«bytearray.__init__» ⟨[.ref a, .int n t], []⟩) (fun fin s' => match fin with | .done f => R (.ok f) s' | .again c' => c'.quiet = true ∧ bw (model prog w) B c' R s') (fun e s' => R (.error e) s') s := by
 refine au (ul e ?_)
 refine ac (bn (Ba.bind _) ?_)
 refine ac (bn (a := ()) rfl ?_)
 refine ac (bn (a := ()) rfl ?_)
 refine ac ?_
 refine ac (nM ?_)
 refine ac ?_
 refine au (wpAny_load e ?_)
 refine ae (ae ?_)
 refine au (gi e (Nat.zero_le _) fun hz1 ez1 s₁ => ?_)
 refine ac (bn (a := none) rfl ?_)
 refine ac (ae ?_)
 refine au (wpAny_specialOf (T := "int") (typeIs_int _ _ _) F.slot_int_index.lookup ?_)
 refine ac (bn (a := .ok n) rfl ?_)
 dsimp only
 have f1 : (!Bytes.fitsIndex n) = false := by
  have : Bytes.fitsIndex n = true := by simp [Bytes.fitsIndex]; lia
  rw [this]; rfl
 refine iJ (fun z => Bool.false_ne_true (f1.symm.trans z)) (iJ (Int.not_lt.mpr h0) ?_)
 have f2 : (n == 2 ^ 63 - 1) = false := by simp; lia
 refine iJ (fun z => Bool.false_ne_true (f2.symm.trans z)) ?_
 have f3 : Bytes.tooLong n.toNat = false := by
  unfold Bytes.tooLong
  rw [sizeLine_eq]
  exact decide_eq_false (by lia)
 refine iJ (fun z => Bool.false_ne_true (f3.symm.trans z)) ?_
 refine ac (i8 ?_)
 have SB : ∀ {hz2 : Heap}, Heap.SameBut a hz1 hz2 → Heap.SameBut a s.heap hz2 := fun x => ⟨x.1.trans s₁.1, fun b hb => (x.2 b hb).trans (s₁.2 b hb)⟩
 split
 ·refine au (gi (s := { s with heap := hz1 }) ez1 ?_ fun hz2 ez2 sz2 => ?_)
  ·show (Array.replicate n.toNat (0 : UInt8)).size ≤ sizeLine
   rw [Array.size_replicate, sizeLine_eq]; lia
  exact ae (h hz2 ez2 (SB sz2))
 ·obtain rfl : n = 0 := by lia
  exact ae (h hz1 ez1 s₁)
theorem fK {id : String} {args : Args} {b : Builtin} {R : Result → Shared → Prop} (hok : okC (.builtin id args) = true) (hb : entryFor table id = some b)
  (h : wpG (model prog w) (A.under (.builtin id args)) (b args) (fun fin s' => match fin with | .done f => R (.ok f) s' | .again c' => c'.quiet = true ∧ bw (model prog w) A c' R s') (fun e s' => R (.error e) s') s) : bw (model prog w) A (.builtin id args) R s := by
 refine bk hok ?_
 show wpG _ _ (match entryFor table id with | some b => b args | none => unsupported ((withoutEnding? id "#data").getD id)) _ _ s
 rw [hb]; exact h
theorem wg {a : Addr} {l : Array UInt8} {n : Int} {t : Tok} {R : Result → Shared → Prop} (e : s.heap.get? a = some { cls := .type "bytearray", data := .bytearray l 0 }) (h0 : 0 ≤ n) (h1 : n ≤ 1000)
  (h : ∀ h', h'.get? a = some { cls := .type "bytearray", data := .bytearray (Array.replicate n.toNat 0) 0 } → Heap.SameBut a s.heap h' → R (.ok (.ret .none)) { s with heap := h' }) :
  bw (model prog w) A (.call (.builtin "bytearray.__init__") ⟨[.ref a, .int n t], []⟩) R s := by
 refine bk rfl ?_
 refine au (Ba.slot_init.check _ _ _ _ _ _ _ _ ⟨_, e, rfl⟩ (Ba.args_init _ _) ?_)
 refine ae ⟨plainId_quiet Ba.plain_init _, fK (by show (!hW.contains "bytearray.__init__") = true; decide +kernel) Ba.entry_init ?_⟩
 rw [Around.under_plainId Ba.plain_init _]
 exact xF e h0 h1 h
theorem iS {n : Int} {t : Tok} {Q : Value → Shared → Prop} (h0 : 0 ≤ n) (h1 : n ≤ 1000)
  (hQ : ∀ h', h'.get? s.heap.objs.size = some { cls := .type "bytearray", data := .bytearray (Array.replicate n.toNat 0) 0 } → (∀ b o, s.heap.get? b = some o → h'.get? b = some o) → Q (.ref s.heap.objs.size) { s with heap := h' }) :
  wpG (model prog w) A (call (.type "bytearray") [.int n t]) Q E s := by
 refine eX (bk rfl ?_)
 refine ae ⟨Code.quiet_builtin _ (by decide +kernel), fK (by show (!hW.contains "type.__call__") = true; decide +kernel) F.entry_type_call ?_⟩
 rw [Around.under_plain (weight_type_call_type "bytearray" [.int n t] []) rfl]
 unfold Builtin.«type.__call__»
 refine ac (bn (Ba.typeCall _) ?_)
 refine ac (bn Ba.mro ?_)
 refine ac (bn Ba.called.made ?_)
 refine ac (ae ?_)
 refine au (wpAny_holding (wpAny_call (codeAny_mono (ze (E := E) (Q₁ := fun v s' => v = .ref s.heap.objs.size ∧ s' = { s with heap := s.heap.push { cls := .type "bytearray", data := .bytearray #[] } }) _ ⟨rfl, rfl⟩) fun r s' hr => ?_)))
 induction r using Except.casesOn with
 | error e => exact hr
 | ok f =>
  induction f using Flow.casesOn with
  | ret v =>
   obtain ⟨rfl, rfl⟩ := hr
   have ez1 : (s.heap.push { cls := .type "bytearray", data := .bytearray #[] }).get? s.heap.objs.size = some { cls := .type "bytearray", data := .bytearray #[] 0 } := Heap.get?_push_size _ rfl
   have hT : Shared.TypeIs { s with heap := s.heap.push { cls := .type "bytearray", data := .bytearray #[] } } (.ref s.heap.objs.size) "bytearray" := ⟨_, ez1, rfl⟩
   refine au (wpAny_isInstance hT Ba.sub ?_)
   refine ac (ak ?_)
   refine au (wpAny_specialOf hT Ba.slot_init.lookup ?_)
   refine ak ?_
   refine ac (bn (Ba.slot_init.bind _) ?_)
   refine ac (eX (wg (s := { s with heap := s.heap.push { cls := .type "bytearray", data := .bytearray #[] } }) ez1 h0 h1 fun h' e' s' => ?_))
   exact ae (ae (hQ h' e' fun b o e => (s'.2 b (Nat.ne_of_lt (Heap.lt_size e))).trans (Heap.get?_push_of_some _ e)))
  | _ => exact hr.elim
theorem o3 {l : Addr} {b : Array UInt8} {k v : Int} {t u : Tok} {Q : Unit → Shared → Prop} (e : s.heap.get? l = some { cls := .type "bytearray", data := .bytearray b 0 }) (h0 : 0 ≤ k) (hn : k < b.size) (hz : b.size ≤ 1000) (v0 : 0 ≤ v) (v1 : v < 256)
  (hQ : ∀ h', h'.get? l = some { cls := .type "bytearray", data := .bytearray (b.setIfInBounds k.toNat v.toNat.toUInt8) 0 } → Heap.SameBut l s.heap h' → Q () { s with heap := h' }) :
  wpAny (model prog w) A (setItem (.ref l) (.int k t) (.int v u)) Q E s := by
 have hT : s.TypeIs (.ref l) "bytearray" := ⟨_, e, rfl⟩
 unfold setItem
 try with_reducible refine wpAny_holding ?_
 first | refine wpAny_bind (wpAny_pure ?_) | skip
 refine wpAny_bind (wpAny_sequenceKey hT (by decide) ?_)
 refine wpAny_bind (wpAny_callSpecial?_slot (name := Str.ofString "__setitem__") hT Ba.slot_set
  (wpAny_call_entry Ba.slot_set hT Ba.entry_set ?_ (Ba.args_set _ _ _)))
 unfold Builtin.«bytearray.__setitem__»
 refine wpAny_bind ?_
 refine wpAny_bind (wpAny_specialOf (T := "int") (typeIs_int _ _ _) F.slot_int_index.lookup ?_)
 refine wpAny_bind (wpAny_of_eq (rfl : asIndex (.int k t) = pure k) ?_)
 have f1 : (!Bytes.fitsIndex k) = false := by
  have : Bytes.fitsIndex k = true := by simp [Bytes.fitsIndex]; lia
  rw [this]; rfl
 rw [f1, if_neg Bool.false_ne_true]
 refine wpAny_pure ?_
 refine wpAny_bind ?_
 refine wpAny_bind (wpAny_of_eq (rfl : asIndex (.int v u) = pure v) ?_)
 refine bm_if_false (by simp only [Bool.or_eq_false_iff, decide_eq_false_iff_not]; lia) ?_
 refine wpAny_pure ?_
 refine wpAny_bind ?_
 refine wpAny_bind (wpAny_bind (wpAny_load e ?_))
 refine wpAny_pure (wpAny_pure ?_)
 have f2 : seqIndex? k b.size = some k.toNat := by
  have hn' : ¬ k < 0 := by lia
  simp [seqIndex?, hn', h0, hn]
 rw [f2]
 refine wpAny_bind (gi e (by rw [Array.size_setIfInBounds, sizeLine_eq]; lia) fun h' e' s' => ?_)
 exact wpAny_pure ⟨.none, rfl, wpAny_pure (hQ h' e' s')⟩
theorem sr {l : Addr} {b : Array UInt8} {Q : Value → Shared → Prop} (e : s.heap.get? l = some { cls := .type "bytearray", data := .bytearray b 0 }) (hz : b.size ≤ 1000) (h : ∀ t k, Q (.bytes b t) { s with toks := k }) :
  wpAny (model prog w) A (call (.type "bytes") [.ref l]) Q E s := by
 have hT : s.TypeIs (.ref l) "bytearray" := ⟨_, e, rfl⟩
 refine callType_codes (Q₁ := fun obj s₁ => s₁.TypeIs obj "bytes" ∧ Q obj s₁) F.bm_called (F.bm_typeCall _) F.entry_object_init ?_ fun obj s₁ hz1 => ?_
 ·refine codeAny_of_tree ?_
  refine wpAny_bind (wpAny_of_eq (F.bm_newCall _) (wpAny_pure ⟨plainId_quiet F.bm_plain _, codeAny_builtin F.bm_entry ?_⟩))
  rw [Around.under_plainId F.bm_plain _]
  refine wpAny_bind (wpAny_of_eq (a := true) rfl ?_)
  refine bm_if_false rfl ?_
  refine wpAny_bind (wpAny_of_eq F.bm_sub ?_)
  refine bm_if_false rfl ?_
  refine wpAny_bind (wpAny_of_eq (F.bm_bind _) ?_)
  refine wpAny_bind (wpAny_of_eq (a := ()) rfl ?_)
  refine wpAny_bind (wpAny_of_eq (a := ()) rfl ?_)
  refine bm_if_false rfl ?_
  refine wpAny_bind (wpAny_specialOf hT Ba.no_bytes ?_)
  refine wpAny_bind (wpAny_bind ?_)
  refine wpAny_bind (wpAny_load e ?_)
  refine wpAny_pure (wpAny_pure ?_)
  refine bm_if_false rfl ?_
  refine wpAny_bind (wpAny_specialOf hT Ba.noindex ?_)
  refine bm_if_true rfl ?_
  first
   | show wpAny _ _ (Builtin.Bytes.buffer? "bytes.__new__" (.ref l) true >>= _) _ _ _
   | (refine wpAny_bind ?_; show wpAny _ _ (Builtin.Bytes.buffer? "bytes.__new__" (.ref l) true >>= _) _ _ _)
  refine wpAny_bind ?_
  refine wpAny_bind (wpAny_specialOf hT Ba.look_buffer ?_)
  refine wpAny_bind (qG e ?_)
  refine wpAny_bind (wpAny_specialOf hT Ba.look_buffer ?_)
  try dsimp only
  refine wpAny_bind (ul e ?_)
  refine wpAny_bind ?_
  refine wpAny_bind (wpAny_bind (wpAny_load e ?_))
  refine wpAny_pure (wpAny_pure ?_)
  refine wpAny_pure ?_
  refine wpAny_bind (wpAny_rule ?_)
  refine wpAny_bind (wpAny_mkBytes ?_ (by rw [sizeLine_eq]; lia))
  refine bm_if_true (by decide) ?_
  first
   | exact wpAny_pure ⟨PySem.W.typeIs_bytes _ _ _, h _ _⟩
   | exact wpAny_bind (wpAny_pure (wpAny_pure ⟨PySem.W.typeIs_bytes _ _ _, h _ _⟩))
 ·exact ⟨hz1.1, F.args_object_init_2 obj _, object_init_meets F.bm_called.init.lookup F.bm_called.made (by decide) prog w A.in1 _ s₁ ⟨hz1.1, rfl, hz1.2⟩⟩
end
end
section
section
variable {X : Fx} {σ : SS}
noncomputable def bV (l : List UInt8) : List SV := l.map fun c => .int (c.toNat : Int)
theorem mw {l : List UInt8} (O : X.Ok) : eM X (.v (.bytes l)) σ (bV l) := by
 intro ow ρ s va S ra Q E q
 obtain ⟨t, rfl⟩ := ra.inv.bytes_inv
 have W := KBw.walks (prog := af) (w := X.w) (A := X.A) rfl s.heap.objs.size ⟨l⟩ t
 have hz : (⟨l⟩ : Array UInt8).size = (bV l).length := by rw [bV, List.length_map]; rfl
 rw [hz] at W
 have it : ∀ va, gG X ow s.heap va (bV l) s.heap.objs.size [s.heap.objs.size] (fun i v => ∃ c u, (⟨l⟩ : Array UInt8)[i]? = some c ∧ v = .int (c.toNat : Int) u) (fun i h => KBw.IsBytesIter h s.heap.objs.size ⟨l⟩ t i) := by
  intro va
  refine ⟨W, fun b hb => .inl (List.mem_singleton.mp hb), fun i h st => ?_, fun i v ⟨c, u, e, hv⟩ => ?_⟩
  ·obtain ⟨o, e, c, d⟩ := st; exact ⟨o, e, by unfold fj; rw [c, d]; rfl⟩
  ·subst hv
   refine ⟨_, ?_, .int _ _⟩
   have e' : l[i]? = some c := by simpa using e
   rw [bV, List.getElem?_map, e']; rfl
 exact KBw.pyIter_bytes (q _ _ _ _ rfl (it _) ⟨_, Heap.get?_push_size _ rfl, rfl, rfl⟩)
end
section
variable {prog : Program} {w : World} {A : Around} {E : Value → Shared → Prop} {s : Shared}
noncomputable def cz : Nat → Nat → List UInt8
 | _, 0 => []
 | a, n + 1 => a.toUInt8 :: cz (a + 1) n
theorem a6 : ∀ n a, (cz a n).length = n
 | 0, _ => rfl
 | n + 1, a => by rw [cz, List.length_cons, a6 n]
theorem w0 {R : Result → Shared → Prop} {I S : Addr} (hh : A.handled = none) (hIS : I ≠ S) (n : Nat) (hn : n ≤ 256) :
  ∀ (k i : Nat) (s : Shared) (acc : List UInt8), i + k = n → acc.length = i → IsRangeIter s.heap I i k 1 → s.heap.get? S = some { cls := .type "bytearray", data := .bytearray ⟨acc⟩ } →
   (∀ h' t k', (∀ b o, b ≠ I → b ≠ S → s.heap.get? b = some o → h'.get? b = some o) → R (.ok (.ret (.bytes ⟨acc ++ cz i k⟩ t))) { s with heap := h', toks := k' }) →
   codeAny (model prog w) A (.builtin "bytes.__new__.loop" ⟨[.type "bytes", .ref I, .ref S], []⟩) R s := by
 intro k
 induction k with
 | zero =>
  intro i s acc hk hl hit hS hR
  refine codeAny_builtin F.bm_entry_loop ?_
  rw [Around.under_plainId F.bm_plain_loop _]
  refine wpAny_bind (wpAny_pyNext_range_end hh hit (by simp) fun h' he => ?_)
  have hS' : h'.get? S = some { cls := .type "bytearray", data := .bytearray ⟨acc⟩ } := he S _ (Ne.symm hIS) hS
  refine wpAny_bind ?_
  refine wpAny_bind (wpAny_bind (wpAny_load hS' ?_))
  refine wpAny_pure (wpAny_pure ?_)
  refine wpAny_bind (wpAny_mkBytes ?_ (by show acc.length ≤ sizeLine; rw [sizeLine_eq]; lia))
  refine bm_if_true (by decide) ?_
  have hR' := hR h' s.toks (s.toks + 1) fun b o hb _ e => he b o hb e
  rw [cz, List.append_nil] at hR'
  first
   | exact wpAny_pure hR'
   | exact wpAny_bind (wpAny_pure (wpAny_pure hR'))
 | succ k ih =>
  intro i s acc hk hl hit hS hR
  refine codeAny_builtin F.bm_entry_loop ?_
  rw [Around.under_plainId F.bm_plain_loop _]
  refine wpAny_bind (wpAny_pyNext_range_item hit (by lia) fun h' hit' hs => ?_)
  have hS' : h'.get? S = some { cls := .type "bytearray", data := .bytearray ⟨acc⟩ } := (hs.2 S (Ne.symm hIS)).trans hS
  refine wpAny_bind (wpAny_holding (wpAny_of_eq (rfl : asIndex (.int (i : Int) s.toks) = pure (i : Int)) ?_))
  refine wpAny_bind (wpAny_letGo ?_)
  refine bm_if_false (by simp only [Bool.or_eq_false_iff, decide_eq_false_iff_not]; lia) ?_
  refine wpAny_bind ?_
  refine gi (s := { s with heap := h', toks := s.toks + 1 }) (l := ⟨acc⟩) hS' (by rw [Array.size_push]; show acc.length + 1 ≤ sizeLine; rw [sizeLine_eq]; lia) fun hz2 ez2 sz2 => ?_
  have ez3 : hz2.get? S = some { cls := .type "bytearray", data := .bytearray ⟨acc ++ [i.toUInt8]⟩ } := by
   have z : (⟨acc⟩ : Array UInt8).push ((i : Int).toNat.toUInt8) = ⟨acc ++ [i.toUInt8]⟩ := by simp
   rw [z] at ez2; exact ez2
  refine wpAny_pure ⟨plainId_quiet F.bm_plain_loop _, ih (i + 1) _ (acc ++ [i.toUInt8]) (by lia) (by rw [List.length_append, hl]; rfl) ?_ ez3 fun h3 t' k' hk3 => ?_⟩
  ·have := (sz2.2 I hIS).trans hit'
   have z1 : ((i : Int) + 1) = ((i + 1 : Nat) : Int) := by lia
   have z2 : (((k + 1 : Nat) : Int) - 1) = ((k : Nat) : Int) := by lia
   rw [z1, z2] at this
   exact this
  ·have := hR h3 t' k' fun b o hbI hbS e => hk3 b o hbI hbS ((sz2.2 b hbS).trans ((hs.2 b hbI).trans e))
   rw [cz] at this
   rw [List.append_assoc]
   exact this
theorem qS {l : Addr} {n : Nat} {t u v : Tok} {Q : Value → Shared → Prop} (hh : A.handled = none) (e : s.heap.get? l = some { cls := .type "range", data := .fields #[.int 0 t, .int n u, .int 1 v] }) (hz : n ≤ 256) (hsm : Builtin.Range.small 0 n 1 = true) (hrs : Builtin.Range.rangeSize 0 n 1 = n)
  (hQ : ∀ h' t k, (∀ b o, s.heap.get? b = some o → h'.get? b = some o) → Q (.bytes ⟨cz 0 n⟩ t) { s with heap := h', toks := k }) :
  wpAny (model prog w) A (call (.type "bytes") [.ref l]) Q E s := by
 have hT : s.TypeIs (.ref l) "range" := ⟨_, e, rfl⟩
 have no_bytes : typeLookup (.type "range") "__bytes__" = pure none := by rw [typeLookup_type, builtinLookup_eq_fast]; kernel_rfl
 have noindex : typeLookup (.type "range") "__index__" = pure none := by rw [typeLookup_type, builtinLookup_eq_fast]; kernel_rfl
 have no_buffer : typeLookup (.type "range") "__buffer__" = pure none := by rw [typeLookup_type, builtinLookup_eq_fast]; kernel_rfl
 refine callType_codes (Q₁ := fun obj s₁ => s₁.TypeIs obj "bytes" ∧ Q obj s₁) F.bm_called (F.bm_typeCall _) F.entry_object_init ?_ fun obj s₁ hz1 => ?_
 ·refine codeAny_of_tree ?_
  refine wpAny_bind (wpAny_of_eq (F.bm_newCall _) (wpAny_pure ⟨plainId_quiet F.bm_plain _, codeAny_builtin F.bm_entry ?_⟩))
  rw [Around.under_plainId F.bm_plain _]
  refine wpAny_bind (wpAny_of_eq (a := true) rfl ?_)
  refine bm_if_false rfl ?_
  refine wpAny_bind (wpAny_of_eq F.bm_sub ?_)
  refine bm_if_false rfl ?_
  refine wpAny_bind (wpAny_of_eq (F.bm_bind _) ?_)
  refine wpAny_bind (wpAny_of_eq (a := ()) rfl ?_)
  refine wpAny_bind (wpAny_of_eq (a := ()) rfl ?_)
  refine bm_if_false rfl ?_
  refine wpAny_bind (wpAny_specialOf hT no_bytes ?_)
  refine wpAny_bind (wpAny_bind ?_)
  refine wpAny_bind (wpAny_load e ?_)
  refine wpAny_pure (wpAny_pure ?_)
  refine bm_if_false rfl ?_
  refine wpAny_bind (wpAny_specialOf hT noindex ?_)
  refine bm_if_true rfl ?_
  first
   | show wpAny _ _ (Builtin.Bytes.buffer? "bytes.__new__" (.ref l) true >>= _) _ _ _
   | (refine wpAny_bind ?_; show wpAny _ _ (Builtin.Bytes.buffer? "bytes.__new__" (.ref l) true >>= _) _ _ _)
  refine wpAny_bind ?_
  refine wpAny_bind (wpAny_specialOf hT no_buffer ?_)
  refine wpAny_bind (wpAny_specialOf hT no_buffer ?_)
  refine wpAny_pure ?_
  refine wpAny_bind (wpAny_tryCatch (wpAny_pyIter_range e hsm ?_))
  rw [hrs]
  have ez1 : (s.heap.push { cls := .type "range_iterator", data := .fields #[rawInt 0, rawInt n, rawInt 1] }).get? l = some { cls := .type "range", data := .fields #[.int 0 t, .int n u, .int 1 v] } := Heap.get?_push_of_some _ e
  generalize hH : s.heap.push { cls := .type "range_iterator", data := .fields #[rawInt 0, rawInt n, rawInt 1] } = H at *
  have hT1 : Shared.TypeIs { s with heap := H } (.ref l) "range" := ⟨_, ez1, rfl⟩
  have hsp : splitId "range.__len__" = some ("range", "__len__") := by decide +kernel
  have hsub : isSubtype (.type "range") (.type "range") = pure true := by rw [isSubtype_type]; kernel_rfl
  refine wpAny_bind (wpAny_holding ?_)
  refine wpAny_bind (wpAny_specialOf hT1 F.slot_range_len.lookup ?_)
  dsimp only
  rw [hsp]
  refine wpAny_bind (wpAny_isInstance hT1 hsub ?_)
  refine bm_if_false rfl ?_
  refine bm_if_false (by decide +kernel) ?_
  refine bm_if_true rfl ?_
  refine wpAny_bind (wpAny_rule ?_)
  refine wpAny_bind (wpAny_attempt (call_len_range (s := { s with heap := H }) ez1 hrs (by lia) ?_))
  refine wpAny_bind (wpAny_of_eq (a := some (n : Int)) rfl ?_)
  have tl : Builtin.Bytes.tooLong ((n : Int).toNat) = false := by unfold Builtin.Bytes.tooLong; rw [sizeLine_eq]; exact decide_eq_false (by lia)
  dsimp only
  rw [tl, if_neg Bool.false_ne_true]
  refine wpAny_pure ?_
  refine wpAny_bind ?_
  refine wpAny_newObj_type ?_ (Nat.zero_le _)
  have sz : H.objs.size = s.heap.objs.size + 1 := by rw [← hH, Heap.size_push]
  have hI : H.get? s.heap.objs.size = some { cls := .type "range_iterator", data := .fields #[rawInt 0, rawInt n, rawInt 1] } := by rw [← hH]; exact Heap.get?_push_size _ rfl
  have main := w0 (prog := prog) (w := w) (A := A.in1) (R := wants (fun obj s₁ => s₁.TypeIs obj "bytes" ∧ Q obj s₁) E) (I := s.heap.objs.size) (S := H.objs.size) hh (by rw [sz]; exact Nat.ne_of_lt (Nat.lt_succ_self _)) n hz
   n 0 { s with heap := H.push { cls := .type "bytearray", data := .bytearray #[] }, toks := s.toks + 1 + 1 } [] (Nat.zero_add _) rfl (Heap.get?_push_of_some _ hI) (Heap.get?_push_size _ rfl)
   fun h' t k hk => ⟨PySem.W.typeIs_bytes _ _ _, hQ h' t k fun b o e => hk b o (Nat.ne_of_lt (Heap.lt_size e)) (by rw [sz]; exact Nat.ne_of_lt (Nat.lt_succ_of_lt (Heap.lt_size e))) (Heap.get?_push_of_some _ (by rw [← hH]; exact Heap.get?_push_of_some _ e))⟩
  first
   | exact wpAny_pure ⟨plainId_quiet F.bm_plain_loop _, main⟩
   | exact wpAny_pure (wpAny_pure ⟨plainId_quiet F.bm_plain_loop _, main⟩)
 ·exact ⟨hz1.1, F.args_object_init_2 obj _, object_init_meets F.bm_called.init.lookup F.bm_called.made (by decide) prog w A.in1 _ s₁ ⟨hz1.1, rfl, hz1.2⟩⟩
end
end
section
section
variable {X : Fx} {σ : SS}
theorem SR.hideUp {ow : Addr → Prop} {ρ : List Addr} {h h' : Heap} (S : SR X ow ρ h σ) (new : List Addr) (up : ∀ b x, h.get? b = some x → h'.get? b = some x) (hn : ∀ a ∈ new, h.get? a = none ∧ ∃ o, h'.get? a = some o) : SR X (fun b => ow b ∨ b ∈ new) ρ h' σ ∧ Ex X ow ρ h (fun b => ow b ∨ b ∈ new) ρ h' := by
 have hp : ∀ b x, Pz h ow b x → Pz h' (fun b => ow b ∨ b ∈ new) b x := fun b x e => ⟨up b x e.1, fun q => q.elim e.2 fun q => ao e.1 (hn b q).1⟩
 obtain ⟨mf, ml, F, n, c1, c2, l⟩ := S.fr
 refine ⟨⟨⟨mf, ml, ⟨by obtain ⟨o', es, ep, e, r⟩ := F.ns; exact ⟨o', es, ep, up _ _ e, r⟩, fun b o e => up b o (F.keep b o e), F.above⟩, by obtain ⟨o', es, ep, e, r⟩ := n; exact ⟨o', es, ep, up _ _ e, r⟩, c1, c2, fun x sv e => let ⟨v, e1, e2⟩ := l x sv e; ⟨v, e1, e2.mono hp (pfx ρ)⟩⟩,
  S.len, fun i a so e1 e2 => let ⟨ob, e3, e4⟩ := S.cel i a so e1 e2; ⟨ob, up _ _ e3, e4.mono hp (pfx ρ)⟩, S.nd, fun a ha => ⟨.inl (S.off a ha).1, (S.off a ha).2⟩, .inl S.owL, .inl S.owl, fun a q => ?_, S.var, fun a x e => hp a x (S.kf a x e)⟩,
  fun b q => .inl q, fun b q => q.imp id fun q => (hn b q).1, pfx ρ, fun b q => .inl q, fun b x e _ _ _ => up b x e, fun b x e => ⟨x, up b x e⟩⟩
 rcases q with q | q
 ·obtain ⟨x, e⟩ := S.low a q; exact ⟨x, up a x e⟩
 ·exact (hn a q).2
noncomputable def bX : Int → List SV → List SV
 | _, [] => []
 | i, d :: ds => .tup [.int i, d] :: bX (i + 1) ds
noncomputable def pV (as : List AV) (k : List SV → Prop) : Prop := match as with
 | [.v (.lst l)] => k (bX 0 l)
 | _ => False
inductive qg (X : Fx) (ow2 : Addr → Prop) (ρ2 : List Addr) (hz2 : Heap) (s : Shared) (I la : Addr) (n : Nat) (J : Nat → SS → Prop) : Nat → Shared → Prop
 | mk {i : Nat} {ow' : Addr → Prop} {ρ' : List Addr} {σ' : SS} {h' : Heap} {tk' : Nat} {old : Value} (le : i ≤ n) (S : SR X ow' ρ' h' σ') (e : Ex X ow2 ρ2 hz2 ow' ρ' h') (he : IsEnum h' (I + 1) I (i : Int) old) (it : h'.IsListIter I la i)
  (oI : ow' I) (oE : ow' (I + 1)) (mI : I ∉ ρ') (mE : I + 1 ∉ ρ') (j : J i σ') : qg X ow2 ρ2 hz2 s I la n J (n - i) { s with heap := h', toks := tk' }
theorem sg {as : List AV} {k : List SV → Prop} (h : pV as k) : ∃ l, as = [.v (.lst l)] ∧ k (bX 0 l) := by
 induction as using List.casesOn with
 | nil => exact False.elim h
 | cons a r => induction a using AV.casesOn with
  | c _ => exact False.elim h
  | v d => induction d using SV.casesOn <;> first | exact False.elim h | (induction r using List.casesOn with
   | nil => exact ⟨_, rfl, h⟩
   | cons _ _ => exact False.elim h)
theorem in2 {p : Addr → Prop} {I J : Addr} (h1 : p I) (h2 : p J) : ∀ a ∈ [I, J], p a := fun a m => by
 rcases jd m with rfl | m
 ·exact h1
 ·rw [List.mem_singleton.mp m]; exact h2
theorem pE {ts : List Expr} {tk : Nat} {tp' : Pos} {x : Str} {px cpos : Pos} {e : Expr} {body : List Stmt} {pos : Pos} {K : SF → SS → Prop} (O : X.Ok) (hs : az [e] = true)
  (h : JE X (.Name x px) σ fun fv σ1 => fv = .v (.ty .enumerate) ∧ JL X cpos [e] σ1 fun as σ2 => pV as fun its => jB X (.Tuple ts tk tp') body its σ2 K) : JS X (.For (.Tuple ts tk tp') (.Call (.Name x px) [e] [] cpos) body [] pos) σ K := by
 intro ow ρ s S Q E q
 refine wpAny_For (Call_ (h ow ρ s S _ _ fun a sa σ1 ow1 ρ1 hz1 tk1 ez1 S1 rz1 kz1 => ?_)) (fun _ => rfl)
 obtain ⟨rfl, kz1⟩ := kz1
 obtain rfl := rz1.inv.i
 refine PyProof.Rows.callWith_type1 (kz1 ow1 ρ1 { s with heap := hz1, toks := tk1 } S1 _ _ fun vs as σ2 ow2 ρ2 hz2 tk2 ez2 S2 rz2 kz2 => ?_) (am hs) (aC (aZ hs))
 obtain ⟨l, rfl, kz2⟩ := sg kz2
 replace rz2 := rz2.i; obtain ⟨_, _, rfl, r, rs⟩ := rz2; replace rs := rs.i; obtain rfl := rs
 refine hide fun Gz0 bk0 => ?_
 obtain ⟨la, vs, n, rfl, el, rl⟩ := bF r.inv
 refine bk0 ?_; clear bk0 Gz0
 have nla : ¬ ow2 la := by cases r.inv with | lst p _ => exact p.2
 refine call_enumerate_1 (s := { s with heap := hz2, toks := tk2 }) el fun hz3 he hit hsz up => ?_
 have nI : hz2.get? hz2.objs.size = none := aA hz2
 have nE : hz2.get? (hz2.objs.size + 1) = none := Heap.get?_none_of_le (Nat.le_succ _)
 have fI := S2.frA nI
 have fE := S2.frA nE
 obtain ⟨S3, ez3⟩ := S2.hideUp [hz2.objs.size, hz2.objs.size + 1] up (in2 (p := fun a => hz2.get? a = none ∧ ∃ o, hz3.get? a = some o) ⟨nI, let ⟨o, e, _⟩ := hit; ⟨o, e⟩⟩ ⟨nE, _, he⟩)
 refine wpAny_pyIter_enum (s := { s with heap := hz3, toks := tk2 }) he ?_
 have EI : hz2.objs.size + 1 ≠ hz2.objs.size := Nat.succ_ne_self _
 refine codeAny_forLoop_any (qg X ow2 ρ2 hz2 s hz2.objs.size la l.length fun i σ' => jB X (.Tuple ts tk tp') body (bX i (l.drop i)) σ' K) (fun n' s' inv => ?_) l.length (.mk (i := 0) (Nat.zero_le _) S3 ez3 he hit (.inr (.head _)) (.inr (.tail _ (.head _))) fI.r fE.r kz2)
 have e12 := ez1.trans ez2
 clear up hsz kz1 h ez3 S3 he hit
 generalize hz2.objs.size = I at *
 induction inv using qg.casesOn
 rename_i i ow' ρ' σ' h' tk' old hle S' e' he' hit' oI oE mI mE jf
 have hl' : h'.IsList la vs.toArray := ⟨_, e'.keep _ _ el (fun m => nla (S2.off la m).1) (fun z => nla (z ▸ S2.owl)) (fun z => nla (z ▸ S2.owL)), rfl, n, rfl⟩
 have hlen : vs.length = l.length := rl.length
 have fin : ∀ {fl sfl ow4 ρ4 hz4 tk4 σ4}, Ex X ow2 ρ2 hz2 ow4 ρ4 hz4 → SR X ow4 ρ4 hz4 σ4 → RF X ow4 ρ4 hz4 fl sfl → K sfl σ4 → Q fl { s with heap := hz4, toks := tk4 } := fun ex S r k => q _ _ _ _ _ _ _ (e12.trans ex) S r k
 by_cases hlt : i < l.length
 ·obtain ⟨v, hv⟩ : ∃ v, vs[i]? = some v := ⟨vs[i]'(hlen ▸ hlt), List.getElem?_eq_getElem (hlen ▸ hlt)⟩
  obtain ⟨d, hd, rv⟩ := rl.get' hv
  refine wpAny_pyNext_enum_item (s := { s with heap := h', toks := tk' }) he' hit' hl' (x := v) (by simpa using hv) EI fun hz4 heo hit4 ht4 hzz4 hk4 => ?_
  refine wpAny_letOwnedTupleGo_enum (s := { s with heap := hz4, toks := tk' + 1 }) heo fun hz5 he5 hs5 => ?_
  have aE : h'.objs.size ≠ I + 1 := fun z => ao he' (z ▸ aA h')
  have kp : ∀ b o, b ∉ [I, I + 1] → h'.get? b = some o → hz5.get? b = some o := fun b o nb e => (hs5.2 b fun z => nb (z ▸ .tail _ (.head _))).trans (hk4 b o (fun z => nb (z ▸ .tail _ (.head _))) (fun z => nb (z ▸ .head _)) e)
  have hit5 : hz5.IsListIter I la (i + 1) := hit4.extBut hs5.extBut (Ne.symm EI)
  obtain ⟨oz5, gz5, rz5⟩ := id hit5
  obtain ⟨S5, ez5⟩ := S'.hid e' (h' := hz5) kp (in2 (p := fun a => ow' a ∧ hz2.get? a = none ∧ a ∉ ρ' ∧ a ≠ X.L ∧ a ≠ X.env.locals ∧ X.hz0.get? a = none) ⟨oI, nI, mI, fI.L, fI.l, fI.g⟩ ⟨oE, nE, mE, fE.L, fE.l, fE.g⟩) (fun _ z => z) (fun _ z => .inl z) (fun b _ m => in2 (p := fun b => ∃ o, hz5.get? b = some o) ⟨_, gz5⟩ ⟨_, he5⟩ b m)
  have ht5 : hz5.get? h'.objs.size = some (cB [.int (i : Int) tk', v] 0) := (hs5.2 _ aE).trans ht4
  have na : ¬ ow' h'.objs.size := fun z => let ⟨_, e⟩ := S'.low _ z; ao e (aA h')
  rw [show l.drop i = d :: l.drop (i + 1) by rw [List.drop_eq_getElem_cons hlt, (List.getElem?_eq_some_iff.mp hd).2]] at jf
  refine jf ow' ρ' { s with heap := hz5, toks := tk' + 1 } _ S5 (.v (.tup ⟨ht5, na⟩ (.cons (.int _ _) (.cons (S2.vr ez5 rv) .nil)))) _ _ fun _ _ σ6 ow6 ρ6 hz6 tk6 ez6 Sz6 _ kz6 => ?_
  refine kz6 ow6 ρ6 { s with heap := hz6, toks := tk6 } Sz6 _ _ fun f sf σ7 ow7 ρ7 hz7 tk7 ez7 Sz7 rz7 kz7 => ?_
  have ex := ez6.trans ez7
  have e27 := ez5.trans ex
  have again : (jB X (.Tuple ts tk tp') body (bX ((i + 1 : Nat) : Int) (l.drop (i + 1))) σ7 K) → ∃ m, m < l.length - i ∧ qg X ow2 ρ2 hz2 s I la l.length (fun i σ' => jB X (.Tuple ts tk tp') body (bX i (l.drop i)) σ' K) m { s with heap := hz7, toks := tk7 } := fun j =>
   ⟨_, Nat.sub_succ_lt_self _ _ hlt, .mk hlt Sz7 e27 (ex.keep _ _ he5 mE fE.l fE.L) ⟨oz5, ex.keep _ _ gz5 mI fI.l fI.L, rz5⟩ (ex.own _ oI) (ex.own _ oE) (fun m => (ex.fresh _ m).elim mI fun z => ao gz5 z) (fun m => (ex.fresh _ m).elim mE fun z => ao he5 z) j⟩
  induction rz7 using RF.casesOn with
  | next => exact again kz7
  | cont => exact again kz7
  | brk => exact fin e27 Sz7 .next kz7
  | ret r => exact fin e27 Sz7 (.ret r) kz7
 ·obtain rfl : i = l.length := Nat.le_antisymm hle (Nat.le_of_not_lt hlt)
  rw [List.drop_length] at jf
  refine wpAny_pyNext_enum_end (s := { s with heap := h', toks := tk' }) (ia X) he' hit' hl' (by simp [hlen]) fun hz4 he4 => ?_
  obtain ⟨S4, ez4⟩ := S'.hid e' (h' := hz4) (ow' := fun b => ow' b ∧ b ≠ I) (wr := [I]) (fun b o nb e => he4 b o (fun z => nb (z ▸ .head _)) e) (fun a m => by rw [List.mem_singleton.mp m]; exact ⟨oI, nI, mI, fI.L, fI.l, fI.g⟩) (fun _ z => z.1) (fun b z => by
   by_cases hb : b = I
   ·subst hb; exact .inr ⟨mI, fI.L, fI.l, fI.no⟩
   ·exact .inl ⟨z, hb⟩) (fun b z m => absurd (List.mem_singleton.mp m) z.2)
  exact wpAny_execs_nil (fin ez4 S4 .next jf)
theorem yH {body : List Stmt} {h0 : ExceptHandler} {hs : List ExceptHandler} {pos : Pos} {K : SF → SS → Prop} (h : JB X body σ K) : JS X (.Try body (h0 :: hs) [] [] pos) σ K := by
 intro ow ρ s S Q E q
 refine wpAny_Try_except (h ow ρ s S _ _ fun a sa σ1 ow1 ρ1 hz1 tk1 ez1 S1 rz1 kz1 => ?_)
 have := q a sa σ1 ow1 ρ1 hz1 tk1 ez1 S1 rz1 kz1
 induction rz1 using RF.casesOn with
 | next => exact wpAny_execs_nil this
 | brk => exact this
 | cont => exact this
 | ret r => exact this
end
end
section
section
variable {X : Fx} {σ : SS} {K : AV → SS → Prop}
noncomputable def l9 (x : Int) : List Int → Option Nat
 | [] => none
 | y :: r => match decide (y = x) with
  | true => some 0
  | false => match l9 x r with
   | some n => some (n + 1)
   | none => none
theorem on {x : Int} {l : List Int} {j : Nat} (e : l9 x l = some j) : l[j]? = some x ∧ ∀ i < j, l[i]? ≠ some x := by
 induction l generalizing j with
 | nil => exact aw e
 | cons y r ih =>
  have e' : (match decide (y = x) with | true => some 0 | false => match l9 x r with | some n => some (n + 1) | none => none) = some j := e
  cases q : decide (y = x) with
  | true =>
   rw [q] at e'
   obtain rfl := Option.some.inj e'
   exact ⟨by rw [of_decide_eq_true q]; rfl, fun i h => absurd h (Nat.not_lt_zero _)⟩
  | false =>
   rw [q] at e'
   cases q2 : l9 x r with
   | none => rw [q2] at e'; exact aw e'
   | some n =>
    rw [q2] at e'
    obtain rfl := Option.some.inj e'
    obtain ⟨a, b⟩ := ih q2
    refine ⟨a, fun i hi => ?_⟩
    rcases i with _ | i
    ·exact fun z => of_decide_eq_false q (Option.some.inj z)
    ·exact b i (Nat.lt_of_succ_lt_succ hi)
noncomputable def CQ (as : List AV) (k : SV → Prop) : Prop := as2 as fun a b => asV a fun d => yb d fun l => asV b fun e => eG e fun x => dz (cU l) fun ns => dz (l9 x ns) fun j => k (.int j)
theorem qF {as : List AV} (h : CQ as fun v => K (.v v) σ) : aB X (.builtin "tuple.index") as σ K := by
 intro ow ρ s vs S R Q E q
 refine hide fun Gz0 bk0 => ?_
 replace h := vn h
 obtain ⟨_, _, rfl, h⟩ := h
 replace h := bj h
 obtain ⟨_, rfl, h⟩ := h
 replace h := rz h
 obtain ⟨l, rfl, h⟩ := h
 replace h := bj h
 obtain ⟨_, rfl, h⟩ := h
 replace h := bD h
 obtain ⟨x, rfl, h⟩ := h
 replace h := aX h
 obtain ⟨ns, e, h⟩ := h
 replace h := aX h
 obtain ⟨j, ej, h⟩ := h
 replace R := R.i; obtain ⟨_, _, rfl, r, rs⟩ := R; replace rs := rs.i; obtain ⟨_, _, rfl, r2, rs⟩ := rs; replace rs := rs.i; obtain rfl := rs
 obtain ⟨a, vs, n, rfl, e1, r1⟩ := cD r.inv
 obtain ⟨t, rfl⟩ := r2.inv.int_inv
 obtain ⟨h1, h2⟩ := on ej
 refine bk0 ?_; clear bk0 Gz0
 refine wpAny_call_entry PySem.F.slot_tuple_index ⟨_, e1, rfl⟩ PySem.F.entry_tuple_index ?_ (PySem.F.args_tuple_index_2 _ _)
 exact uW e1 (gy r1 e) h1 h2 fun tk => ⟨_, rfl, dK S (.int _ _) h q⟩
noncomputable def eqI (i c : Int) (k : Prop) : Prop := match decide (i = c) with
 | true => k
 | false => False
theorem qc {i c : Int} {k : Prop} (h : eqI i c k) : i = c ∧ k := by
 unfold eqI at h
 cases q : decide (i = c) with
 | true => rw [q] at h; exact ⟨of_decide_eq_true q, h⟩
 | false => rw [q] at h; exact False.elim h
noncomputable def sG (a : SV) (k : SV → Prop) : Prop := xZ a fun i j t => eqI i 0 (eqI t 1 (pD j fun n => Gd (Nat.ble n 256 && Builtin.Range.small 0 (.ofNat n) 1 && decide (Builtin.Range.rangeSize 0 (.ofNat n) 1 = .ofNat n)) (k (.bytes (cz 0 n)))))
theorem rH {a : SV} (h : sG a fun v => K (.v v) σ) : aB X (.type "bytes") [.v a] σ K := by
 intro ow ρ s vs S R Q E q
 refine hide fun Gz0 bk0 => ?_
 replace R := R.i; obtain ⟨_, _, rfl, r, rs⟩ := R; replace rs := rs.i; obtain rfl := rs
 replace h := rG h
 obtain ⟨i, j, t, rfl, h⟩ := h
 replace h := qc h
 obtain ⟨rfl, h⟩ := h
 replace h := qc h
 obtain ⟨rfl, h⟩ := h
 replace h := dM h
 obtain ⟨n, rfl, h⟩ := h
 replace h := h.out
 obtain ⟨g, h⟩ := h
 replace g := Bool.and_eq_true_iff.mp g
 obtain ⟨g, g3⟩ := g
 obtain ⟨g1, g2⟩ := Bool.and_eq_true_iff.mp g
 refine bk0 ?_; clear bk0 Gz0
 cases r.inv with
 | rng p =>
  exact qS (n := n) rfl p.1 (Nat.le_of_ble_eq_true g1) g2 (of_decide_eq_true g3) fun h' t k hk => q _ _ σ ow ρ h' k (.grow hk) (S.grow hk) (.v (.bytes _ _)) h
noncomputable def uN (i : Nat) (σ : SS) (k : SV → Prop) : Prop := z0 σ.cel[i]? fun l => Gd (Nat.ble l.length 1000) (k (.bytes l))
theorem rD {i : Nat} (h : uN i σ fun v => K (.v v) σ) : aB X (.type "bytes") [.c i] σ K := by
 intro ow ρ s vs S R Q E q
 refine hide fun Gz0 bk0 => ?_
 replace R := R.i; obtain ⟨_, _, rfl, r, rs⟩ := R; replace rs := rs.i; obtain rfl := rs
 replace r := r.i; obtain ⟨_, rfl, hr⟩ := r
 replace h := mX h
 obtain ⟨l, hl, h⟩ := h
 replace h := h.out
 obtain ⟨g, h⟩ := h
 obtain ⟨ob, e1, e2⟩ := S.cel _ _ _ hr hl
 replace e2 := e2.i; obtain rfl := e2
 refine bk0 ?_; clear bk0 Gz0
 exact sr e1 (Nat.le_of_ble_eq_true g) fun t k => q _ _ σ ow ρ s.heap k .refl S (.v (.bytes _ _)) h
noncomputable def yq (a i : AV) (v : SV) (σ : SS) (k : SS → Prop) : Prop := AV.casesOn a (fun _ => False) fun n => z0 σ.cel[n]? fun l => asV i fun d => eG d fun z => pD z fun j => eG v fun x => Gd (Nat.blt j l.length && Nat.ble l.length 1000 && mr x) (k ⟨σ.loc, σ.cel.set n (.barr (l.set j x.toNat.toUInt8))⟩)
theorem tS {a i : AV} {v : SV} {K : SS → Prop} (h : yq a i v σ K) : nU X a i (.v v) σ K := by
 intro ow ρ s va vi vv S ra ri rv Q E q
 replace rv := rv.inv
 induction a using AV.casesOn with
 | v _ => exact False.elim h
 | c n =>
  refine hide fun Gz0 bk0 => ?_
  replace h := mX h
  obtain ⟨l, hl, h⟩ := h
  replace h := bj h
  obtain ⟨_, rfl, h⟩ := h
  replace h := bD h
  obtain ⟨_, rfl, h⟩ := h
  replace h := dM h
  obtain ⟨j, rfl, h⟩ := h
  replace h := bD h
  obtain ⟨x, rfl, h⟩ := h
  replace h := h.out
  obtain ⟨g, h⟩ := h
  replace g := Bool.and_eq_true_iff.mp g
  obtain ⟨g, g3⟩ := g
  obtain ⟨g1, g2⟩ := Bool.and_eq_true_iff.mp g
  have g1 := Nat.le_of_ble_eq_true g1
  have g2 := Nat.le_of_ble_eq_true g2
  replace g3 := Bool.and_eq_true_iff.mp g3
  obtain ⟨g3, g4⟩ := g3
  replace ra := ra.i; obtain ⟨_, rfl, hr⟩ := ra
  obtain ⟨u, rfl⟩ := ri.inv.int_inv
  obtain ⟨t, rfl⟩ := rv.int_inv
  obtain ⟨ob, e1, e2⟩ := S.cel _ _ _ hr hl
  replace e2 := e2.i; obtain rfl := e2
  refine bk0 ?_; clear bk0 Gz0
  refine o3 e1 (Int.natCast_nonneg j) (Int.ofNat_lt.mpr g1) g2 (of_decide_eq_true g3) (of_decide_eq_true g4) fun h' e' hs => ?_
  have e : (⟨l⟩ : Array UInt8).setIfInBounds (Int.ofNat j).toNat x.toNat.toUInt8 = ⟨l.set j x.toNat.toUInt8⟩ := by
   show (l.toArray).setIfInBounds j x.toNat.toUInt8 = (l.set j x.toNat.toUInt8).toArray
   simp
  rw [e] at e'
  obtain ⟨S', ex⟩ := S.setCell hr hs e' (.barr)
  exact q () () _ _ _ _ s.toks ex S' trivial h
noncomputable def baD (as : List AV) (σ : SS) (K : AV → SS → Prop) : Prop := as1 as fun a => asV a fun d => eG d fun n => Gd (decide (0 ≤ n) && decide (n ≤ 1000)) (K (.c σ.cel.length) ⟨σ.loc, σ.cel ++ [.barr (List.replicate n.toNat 0)]⟩)
theorem zr {as : List AV} (h : baD as σ K) : bU X (.type "bytearray") as σ K := by
 intro ow ρ s vs S R Q q
 refine hide fun Gz0 bk0 => ?_
 replace h := lh h
 obtain ⟨_, rfl, h⟩ := h
 replace h := bj h
 obtain ⟨_, rfl, h⟩ := h
 replace h := bD h
 obtain ⟨n, rfl, h⟩ := h
 replace h := h.out
 obtain ⟨g, h⟩ := h
 obtain ⟨g1, g2⟩ := Bool.and_eq_true_iff.mp g
 replace R := R.i; obtain ⟨_, _, rfl, r, rs⟩ := R; replace rs := rs.i; obtain rfl := rs
 obtain ⟨t, rfl⟩ := r.inv.int_inv
 refine bk0 ?_; clear bk0 Gz0
 ·skip
  refine iS (of_decide_eq_true g1) (of_decide_eq_true g2) fun h' e' up => ?_
  have er : (Array.replicate n.toNat (0 : UInt8)) = ⟨List.replicate n.toNat 0⟩ := by simp
  rw [er] at e'
  have nz := aA s.heap
  have pf : ρ <+: ρ ++ [s.heap.objs.size] := List.prefix_append _ _
  obtain ⟨S', ez1⟩ := S.hideUp [s.heap.objs.size] up (fun a m => by rw [List.mem_singleton.mp m]; exact ⟨nz, _, e'⟩)
  have no : ¬ ow s.heap.objs.size := fun z => let ⟨_, e⟩ := S.low _ z; ao e nz
  have nr : s.heap.objs.size ∉ ρ := fun m => no (S.off _ m).1
  have hp : ∀ b x, Pz h' (fun b => ow b ∨ b ∈ [s.heap.objs.size]) b x → Pz h' (fun b => ow b ∨ b ∈ [s.heap.objs.size]) b x := fun _ _ x => x
  refine q _ (.c σ.cel.length) _ (fun b => ow b ∨ b ∈ [s.heap.objs.size]) (ρ ++ [s.heap.objs.size]) h' s.toks ⟨ez1.own, ez1.new, pf, fun b hb => ?_, ez1.keep, ez1.live⟩ ?_ (.c ?_) h
  ·rcases List.mem_append.mp hb with m | m
   ·exact .inl m
   ·rw [List.mem_singleton.mp m]; exact .inr nz
  ·obtain ⟨mf, ml, F, nz0, c1, c2, l⟩ := S'.fr
   have hz : X.hz0.get? s.heap.objs.size = none := by
    obtain ⟨mf, _, F, _⟩ := S.fr
    cases z : X.hz0.get? s.heap.objs.size with
    | none => rfl
    | some o => exact ao (F.keep _ _ z) nz
   refine ⟨⟨mf, ml, F, nz0, c1, c2, fun x sv e => let ⟨v, e1, e2⟩ := l x sv e; ⟨v, e1, e2.mono hp pf⟩⟩, by rw [List.length_append, List.length_append, S.len]; rfl, fun i a so e1 e2 => ?_, ?_, fun a ha => ?_, S'.owL, S'.owl, S'.low, fun x i e => ?_, S'.kf⟩
   ·by_cases hi : i < ρ.length
    ·rw [List.getElem?_append_left hi] at e1
     rw [List.getElem?_append_left (S.len ▸ hi)] at e2
     obtain ⟨ob, e3, e4⟩ := S'.cel i a so e1 e2
     exact ⟨ob, e3, e4.mono hp pf⟩
    ·rw [List.getElem?_append_right (Nat.le_of_not_lt hi)] at e1
     rw [List.getElem?_append_right (S.len ▸ Nat.le_of_not_lt hi), ← S.len] at e2
     cases hj : i - ρ.length with
     | zero => rw [hj] at e1 e2; cases e1; cases e2; exact ⟨_, e', .barr⟩
     | succ j => rw [hj] at e1; cases e1
   ·rw [List.nodup_append]
    exact ⟨S.nd, by simp, fun a ha b hb e => nr (by rw [List.mem_singleton.mp hb] at e; exact e ▸ ha)⟩
   ·rcases List.mem_append.mp ha with m | m
    ·exact S'.off a m
    ·rw [List.mem_singleton.mp m]
     exact ⟨.inr (.head _), hz, fun z => no (z ▸ S.owL), fun z => no (z ▸ S.owl)⟩
   ·obtain ⟨c, f1, f2⟩ := S'.var x i e
    exact ⟨c, f1, by rw [List.getElem?_append_left (List.getElem?_eq_some_iff.mp f2).1]; exact f2⟩
  ·rw [← S.len, List.getElem?_append_right (Nat.le_refl _), Nat.sub_self]; rfl
structure nV (w : World) (C fI : Addr) : Prop where
 m : makesIn (tp.heap_1 w.params) C = true
 i : findIn (tp.heap_1 w.params) (.ref C) "__init__" = some (some (.ref fI))
 f : typeIn (tp.heap_1 w.params) (.ref fI) = some (.type "function")
noncomputable def uo (d : SV) (k : Prop) : Prop := SV.casesOn (motive_1 := fun _ => Prop) d k (fun _ => False) (fun _ => False) (fun _ => False) (fun _ => False) (fun _ => False) (fun _ => False) (fun _ => False) (fun _ _ _ => False) (fun _ => False) (fun _ => False) fun _ => False
theorem ph {d : SV} {k : Prop} (h : uo d k) : d = .none ∧ k := by
 induction d using SV.casesOn <;> first | exact False.elim h | exact ⟨rfl, h⟩
noncomputable def BC (l : List aa) (k : Addr → Nat → List (Str × SV) → Prop) : Prop := List.casesOn l False fun a r => aa.casesOn a (fun _ => False) (fun C j => List.casesOn r False fun b r => aa.casesOn b (fun _ => False) (fun _ _ => False) (fun fs => List.casesOn r (k C j fs) fun _ _ => False) (fun _ => False) False fun _ => False) (fun _ => False) (fun _ => False) False fun _ => False
theorem sT {l : List aa} {k : Addr → Nat → List (Str × SV) → Prop} (h : BC l k) : ∃ C j fs, l = [.inst C j, .idict fs] ∧ k C j fs := by
 induction l using List.casesOn with
 | nil => exact False.elim h
 | cons a r => induction a using aa.casesOn with
  | inst C j => induction r using List.casesOn with
   | nil => exact False.elim h
   | cons b r => induction b using aa.casesOn with
    | idict fs => induction r using List.casesOn with
     | nil => exact ⟨_, _, _, rfl, h⟩
     | cons _ _ => exact False.elim h
    | _ => exact False.elim h
  | _ => exact False.elim h
theorem y2 {a b c : Addr} {x y o : aa} {k : Nat} {p : Prop} (f1 : [a, b][k]? = some c) (f2 : [x, y][k]? = some o) (h0 : a = c → x = o → p) (h1 : b = c → y = o → p) : p := by
 rcases k with _ | _ | k
 ·exact h0 (Option.some.inj f1) (Option.some.inj f2)
 ·exact h1 (Option.some.inj f1) (Option.some.inj f2)
 ·exact aw f1
noncomputable def zA (sp : Spec) (C : Addr) (as : List AV) (σ : SS) (K : AV → SS → Prop) : Prop := Gd (du as) (sp (.c 0 :: as) [.inst C 1, .idict []] fun r cel' => uo r (BC cel' fun C' j' fs' => Gd (Nat.beq C C' && Nat.beq j' 1) (K (.c (σ.cel.length + 1)) ⟨σ.loc, σ.cel ++ [.idict fs', .inst C σ.cel.length]⟩)))
theorem kK (A : Around) (C : Addr) (rest : List Value) : A.under (.builtin "type.__call__" ⟨.ref C :: rest, []⟩) = { A with depth := A.depth + 1, units := A.units + 1 } := by
 obtain ⟨hd, d, fr, gs, u⟩ := A
 rfl
theorem qY (O : X.Ok) {C fI : Addr} {D U : Nat} {sp : Spec} (c : nV X.w C fI) (hf : ei X.w fI D U sp) (hD : D + 1 ≤ X.D) (hU : U + 1 ≤ X.U) {as : List AV} (h : zA sp C as σ K) : aB X (.ref C) as σ K := by
 intro ow ρ s vs S R Q E q
 replace h := h.out
 obtain ⟨g, h⟩ := h
 obtain ⟨S1, ez1⟩ := S.cellPush (o := dictOf [] 0) (so := .idict []) rfl (.idict .nil)
 have room := O.room
 have units := O.units
 obtain ⟨hh, gg, dd, tt, oo⟩ := s
 dsimp only at S S1 ez1 R ⊢
 have hix : (ρ ++ [hh.objs.size])[σ.cel.length]? = some hh.objs.size := by rw [← S.len, List.getElem?_append_right (Nat.le_refl _), Nat.sub_self]; rfl
 obtain ⟨S2, ez2⟩ := S1.cellPush (o := instObj C hh.objs.size) (so := .inst C σ.cel.length) rfl (.inst hix)
 have ez12 := ez1.trans ez2
 have sz : (hh.push (dictOf [] 0)).objs.size = hh.objs.size + 1 := Heap.size_push ..
 rw [sz] at S2 ez2 ez12
 refine wpAny_call (make_core (makes_of S.kin c.m) (looks_findIn S.kin c.i) (fun self => bind_fn S.kin self c.f) (.inl rfl) ?_)
 show codeAny _ (X.A.under (.builtin "type.__call__" ⟨.ref C :: vs, []⟩)) _ _ _
 rw [kK]
 generalize hX : ({ X with dp := X.dp + 1, un := X.un + 1, D := X.D - 1, U := X.U - 1 } : Fx) = X'
 have O' : X'.Ok := by
  subst hX
  exact { below := O.below, K := O.K, T := O.T, ck := O.ck, kind := O.kind, glob := O.glob, bins := O.bins, here := O.here, there := O.there, room := qb hD room, units := qb hU units }
 have S' : SR X' (fun b => (ow b ∨ b = hh.objs.size) ∨ b = hh.objs.size + 1) ((ρ ++ [hh.objs.size]) ++ [hh.objs.size + 1]) ((hh.push (dictOf [] 0)).push (instObj C hh.objs.size)) ⟨σ.loc, σ.cel ++ [.idict []] ++ [.inst C σ.cel.length]⟩ := by
  subst hX
  exact ⟨S2.fr, S2.len, S2.cel, S2.nd, S2.off, S2.owL, S2.owl, S2.low, S2.var, S2.kf⟩
 have hA : X'.A = { X.A with depth := X.A.depth + 1, units := X.A.units + 1 } ∧ X'.w = X.w ∧ X'.dp = X.dp + 1 ∧ X'.un = X.un + 1 := by subst hX; exact ⟨rfl, rfl, rfl, rfl⟩
 obtain ⟨hA, hw, hdp, hun⟩ := hA
 rw [← hA]
 have gx : ((hh.push (dictOf [] 0)).push (instObj C hh.objs.size)).get? (hh.objs.size + 1) = some (instObj C hh.objs.size) := by rw [← sz]; exact Heap.get?_push_size _ rfl
 have gd : ((hh.push (dictOf [] 0)).push (instObj C hh.objs.size)).get? hh.objs.size = some (dictOf [] 0) := Heap.get?_push_of_some _ (Heap.get?_push_size _ rfl)
 have ne : hh.objs.size + 1 ≠ hh.objs.size := Nat.succ_ne_self _
 refine codeAny_mono (hf X' O' hw (by rw [hdp]; lia) (by rw [hun]; lia) _ _ _ _ S' [hh.objs.size + 1, hh.objs.size] [.inst C 1, .idict []] _ (.c 0 :: as) _ (by simp [ne]) (fun a m => ?_) ⟨rfl, fun k a o f1 f2 => ?_⟩ (.cons (.c rfl) ((S.ars ez12 R).plain g)) h (fun v s' => InitBack (hh.objs.size + 1) (fun r s' => match r with | .ok (.ret v) => Q v s' | .ok _ => False | .error e => E e s') (.ok (.ret v)) s') E fun v r cel' h' tk' kp lv Cc rv k => ?_) fun r s' z => ?_
 ·rcases jd m with rfl | m
  ·exact List.mem_append_right _ (.head _)
  ·rw [List.mem_singleton.mp m]; exact List.mem_append_left _ (List.mem_append_right _ (.head _))
 ·exact y2 f1 f2 (fun z1 z2 => z1 ▸ z2 ▸ ⟨_, gx, .inst rfl⟩) fun z1 z2 => z1 ▸ z2 ▸ ⟨_, gd, .idict .nil⟩
 ·replace k := ph k
  obtain ⟨rfl, k⟩ := k
  replace k := sT k
  obtain ⟨C', j', fs', rfl, k⟩ := k
  ·skip
   ·skip
    obtain ⟨g3, k'⟩ := k.out
    replace g3 := Bool.and_eq_true_iff.mp g3
    obtain ⟨g3, g4⟩ := g3
    obtain rfl := Nat.eq_of_beq_eq_true g3
    obtain rfl := Nat.eq_of_beq_eq_true g4
    replace rv := rv.i; obtain rfl := rv
    refine ⟨rfl, ?_⟩
    obtain ⟨ob0, e7, e8⟩ := Cc.at' 0 _ _ rfl rfl
    obtain ⟨ob1, e9, e10⟩ := Cc.at' 1 _ _ rfl rfl
    have sub : ∀ b ∈ [hh.objs.size + 1, hh.objs.size], b ∈ (ρ ++ [hh.objs.size]) ++ [hh.objs.size + 1] := fun b m => by
     rcases jd m with rfl | m
     ·exact List.mem_append_right _ (.head _)
     ·rw [List.mem_singleton.mp m]; exact List.mem_append_left _ (List.mem_append_right _ (.head _))
    have lenA : (ρ ++ [hh.objs.size]).length = ρ.length + 1 := by rw [List.length_append]; rfl
    have jx : ((ρ ++ [hh.objs.size]) ++ [hh.objs.size + 1])[σ.cel.length]? = some hh.objs.size := by
     rw [List.getElem?_append_left (by rw [lenA, S.len]; exact Nat.lt_succ_self _)]; exact hix
    obtain ⟨S3, ez3⟩ := S2.turn O (σc := σ.cel ++ [.idict fs', .inst C σ.cel.length]) [hh.objs.size + 1, hh.objs.size] sub kp lv (by simp [S.len]) fun i a o f1 f2 => by
     by_cases hi : i < ρ.length
     ·have f1' : ρ[i]? = some a := by
       rw [List.getElem?_append_left (by rw [lenA]; lia), List.getElem?_append_left hi] at f1; exact f1
      rw [List.getElem?_append_left (S.len ▸ hi)] at f2
      obtain ⟨ob, e3, e4⟩ := S.cel i a o f1' f2
      have al := Heap.lt_size e3
      have na : a ∉ [hh.objs.size + 1, hh.objs.size] := fun m => by
       rcases List.mem_cons.mp m with z | m
       ·rw [z] at al; exact absurd al (Nat.not_lt.mpr (Nat.le_succ _))
       ·rw [List.mem_singleton.mp m] at al; exact Nat.lt_irrefl _ al
      have up : ∀ b o, Pz hh ow b o → Pz h' (fun b => (ow b ∨ b = hh.objs.size) ∨ b = hh.objs.size + 1) b o := fun b o p => by
       have bl := Heap.lt_size p.1
       refine ⟨kp b o (Heap.get?_push_of_some _ (Heap.get?_push_of_some _ p.1)) fun m => ?_, fun z => z.elim (fun z => z.elim p.2 fun z => ?_) fun z => ?_⟩
       ·rcases List.mem_cons.mp m with z | m
        ·rw [z] at bl; exact absurd bl (Nat.not_lt.mpr (Nat.le_succ _))
        ·rw [List.mem_singleton.mp m] at bl; exact Nat.lt_irrefl _ bl
       ·rw [z] at bl; exact Nat.lt_irrefl _ bl
       ·rw [z] at bl; exact absurd bl (Nat.not_lt.mpr (Nat.le_succ _))
      exact ⟨ob, kp a ob (Heap.get?_push_of_some _ (Heap.get?_push_of_some _ e3)) na, e4.mono up ((List.prefix_append _ _).trans (List.prefix_append _ _))⟩
     ·rw [List.getElem?_append_right (by rw [← S.len]; lia), ← S.len] at f2
      by_cases hi2 : i = ρ.length
      ·subst hi2
       rw [List.getElem?_append_left (by rw [lenA]; lia), List.getElem?_append_right (Nat.le_refl _), Nat.sub_self] at f1
       rw [Nat.sub_self] at f2
       cases f1; cases f2
       exact ⟨ob1, e9, by replace e10 := e10.i; obtain ⟨_, _, rfl, r⟩ := e10; exact .idict r⟩
      ·by_cases hi3 : i = ρ.length + 1
       ·subst hi3
        rw [List.getElem?_append_right (by rw [lenA]; exact Nat.le_refl _), lenA, Nat.sub_self] at f1
        have z : ρ.length + 1 - ρ.length = 1 := by lia
        rw [z] at f2
        cases f1; cases f2
        exact ⟨ob0, e7, by replace e8 := e8.i; obtain ⟨_, rfl, hq⟩ := e8; cases hq; exact .inst (S.len ▸ jx)⟩
       ·have z := (List.getElem?_eq_some_iff.mp f1).1
        rw [List.length_append, lenA] at z
        simp at z; lia
    refine q _ _ _ _ _ h' tk' (ez12.trans ez3) S3 (.c ?_) k'
    rw [← S.len, List.getElem?_append_right (by rw [lenA]; exact Nat.le_refl _), lenA, Nat.sub_self]; rfl
 ·rcases r with e | (v | _ | _ | _) <;> first | exact z | exact z.elim
end
end
section
structure Ct where
 names : List (Str × NameKind)
 vid : List (Str × Nat)
 mu : List Nat
 comp : Bool
structure Tb where
 glob : List (Str × SV)
 fn : List (Nat × Spec)
 fnG : List (Nat × Spec) := []
 cls : List (Nat × Spec) := []
 field : List (Nat × Str)
 meth : List ((Nat × Str) × Nat)
noncomputable def glk (x : Str) : List (Str × SV) → Option SV
 | [] => none
 | p :: r => match Fast.sEq x p.1 with
  | true => some p.2
  | false => glk x r
noncomputable def fnk (a : Nat) : List (Nat × Spec) → Option Spec
 | [] => none
 | p :: r => match Nat.beq a p.1 with
  | true => some p.2
  | false => fnk a r
noncomputable def cY (C : Nat) (x : Str) : List (Nat × Str) → Bool
 | [] => false
 | p :: r => match Nat.beq C p.1 && Fast.sEq x p.2 with
  | true => true
  | false => cY C x r
noncomputable def kF (C : Nat) (x : Str) : List ((Nat × Str) × Nat) → Option Nat
 | [] => none
 | p :: r => match Nat.beq C p.1.1 && Fast.sEq x p.1.2 with
  | true => some p.2
  | false => kF C x r
inductive Tk where
 | e (e : Expr) (σ : SS) (K : AV → SS → Prop)
 | t (e : Expr) (σ : SS) (K : Bool → SS → Prop)
 | tl (op : BoolOp) (es : List Expr) (σ : SS) (K : Bool → SS → Prop)
 | l (pos : Pos) (es : List Expr) (σ : SS) (K : List AV → SS → Prop)
 | s (st : Stmt) (σ : SS) (K : SF → SS → Prop)
 | b (sts : List Stmt) (σ : SS) (K : SF → SS → Prop)
 | a (t : Expr) (v : AV) (σ : SS) (K : SS → Prop)
 | as (ts : List Expr) (vs : List AV) (σ : SS) (K : SS → Prop)
 | f (target : Expr) (body : List Stmt) (its : List SV) (σ : SS) (K : SF → SS → Prop)
 | w (test : Expr) (body : List Stmt) (σ : SS) (K : SF → SS → Prop)
 | c (x : Str) (ifs : List Expr) (elt : Expr) (its acc : List SV) (cel : List aa) (K : List SV → List aa → Prop)
noncomputable abbrev Run := Ct → Tk → Prop
noncomputable def o8 {α : Type} : List α → (List α → Prop) → Prop
 | [], k => k []
 | a :: l, k => o8 l fun l' => k (a :: l')
theorem kz {α : Type} : ∀ (l : List α) (k : List α → Prop), o8 l k = k l
 | [], k => rfl
 | a :: l, k => kz l fun l' => k (a :: l')
noncomputable def lP : List (Str × AV) → (List (Str × AV) → Prop) → Prop
 | [], k => k []
 | (x, v) :: l, k => lP l fun l' => k ((x, v) :: l')
theorem hV : ∀ (l : List (Str × AV)) (k : List (Str × AV) → Prop), lP l k = k l
 | [], k => rfl
 | (x, v) :: l, k => hV l fun l' => k ((x, v) :: l')
noncomputable def uL (o : aa) (k : aa → Prop) : Prop := match o with
 | .barr l => o8 l fun l => k (.barr l)
 | o => k o
theorem rF (o : aa) (k : aa → Prop) : uL o k = k o := by
 induction o using aa.casesOn <;> first | rfl | exact kz _ _
noncomputable def pG : List aa → (List aa → Prop) → Prop
 | [], k => k []
 | o :: l, k => uL o fun o => pG l fun l' => k (o :: l')
theorem kH : ∀ (l : List aa) (k : List aa → Prop), pG l k = k l
 | [], k => rfl
 | o :: l, k => (rF o _).trans (kH l _)
noncomputable def pe (σ : SS) (k : SS → Prop) : Prop := match σ with
 | ⟨loc, cel⟩ => lP loc fun loc => pG cel fun cel => k ⟨loc, cel⟩
theorem kh (σ : SS) (k : SS → Prop) : pe σ k = k σ := (hV _ _).trans (kH _ _)
structure bh (p : Prop) : Prop where
 out : p
noncomputable def tE (c : Const) (σ : SS) (K : AV → SS → Prop) : Prop := match c with
 | .int i => K (.v (.int i)) σ
 | .str x => K (.v (.str x)) σ
 | .none => K (.v .none) σ
 | .bool b => K (.v (.bool b)) σ
 | .bytes x => K (.v (.bytes x)) σ
 | _ => False
noncomputable def qx (x : Str) (C : Ct) (σ : SS) (k : AV → Prop) : Prop := match lkN x C.vid with
 | some i => (match σ.cel[i]? with | some (.vcell v) => k v | _ => False)
 | none => False
noncomputable def i4 (T : Tb) (C : Ct) (x : Str) (σ : SS) (K : AV → SS → Prop) : Prop := Gd (!(x == ("__debug__" : Str)) && !(x == ("__classdict__" : Str))) (match nlk x C.names with
 | some .local => (match lk x σ.loc with | some v => K v σ | none => False)
 | some .cell => qx x C σ fun v => K v σ
 | some .free => qx x C σ fun v => K v σ
 | some .globalImplicit => (match glk x T.glob with | some v => K (.v v) σ | none => False)
 | _ => False)
noncomputable def h9 (C : Ct) (x : Str) (v : AV) (σ : SS) (k : SS → Prop) : Prop := match nlk x C.names with
 | some .local => k ⟨(x, v) :: σ.loc, σ.cel⟩
 | some .cell => (match lkN x C.vid with
  | some i => (match σ.cel[i]? with
   | some .vnone => k ⟨σ.loc, σ.cel.set i (.vcell v)⟩
   | some (.vcell _) => k ⟨σ.loc, σ.cel.set i (.vcell v)⟩
   | _ => False)
  | none => False)
 | _ => False
noncomputable def jq (C : Ct) : List Str → List AV → SS → (SS → Prop) → Prop
 | [], [], σ, k => k σ
 | x :: xs, v :: vs, σ, k => h9 C x v σ fun σ1 => jq C xs vs σ1 k
 | _, _, _, _ => False
noncomputable def itD (a : AV) (k : List SV → Prop) : Prop := match a with
 | .v (.lst l) => k l
 | .v (.tup l) => k l
 | .v (.bytes l) => k (bV l)
 | .v (.rng a b c) => Gd (Builtin.Range.small a b c && decide (0 ≤ Builtin.Range.rangeSize a b c)) (k (cu a c (Builtin.Range.rangeSize a b c).toNat))
 | _ => False
noncomputable def r9 (p : Pos) : List Nat → Bool
 | [] => false
 | n :: r => match Nat.beq n (p.line * 1000 + p.col) with
  | true => true
  | false => r9 p r
noncomputable def sD (r : Run) (C : Ct) (o : Option Expr) (σ : SS) (K : Option Int → SS → Prop) : Prop := match o with
 | none => K none σ
 | some e => r C (.e e σ fun a σ1 => gW a fun i => K (some i) σ1)
noncomputable def CJ (i : Nat) (d : SV) (σ : SS) (K : AV → SS → Prop) : Prop := match σ.cel[i]? with
 | some (.lst l) => Gd (Nat.ble l.length 1000) (K (.v .none) ⟨σ.loc, σ.cel.set i (.lst (l ++ [d]))⟩)
 | _ => False
noncomputable def CV (i : Nat) (l2 : List SV) (σ : SS) (K : AV → SS → Prop) : Prop := match σ.cel[i]? with
 | some (.lst l) => Gd (Nat.ble (l.length + l2.length) 1000) (K (.v .none) ⟨σ.loc, σ.cel.set i (.lst (l ++ l2))⟩)
 | _ => False
noncomputable def o6 (r : Run) (C : Ct) (name : Str) (i : Nat) (pos : Pos) (args : List Expr) (σ : SS) (K : AV → SS → Prop) : Prop := match Fast.sEq name "append" with
 | true => r C (.l pos args σ fun as σ2 => match as with | [.v d] => CJ i d σ2 K | _ => False)
 | false => (match Fast.sEq name "extend" with
  | true => r C (.l pos args σ fun as σ2 => match as with | [.v (.lst l)] => CV i l σ2 K | _ => False)
  | false => False)
noncomputable def yx (l : List (SV × SV)) (as : List AV) (σ : SS) (K : AV → SS → Prop) : Prop := match as with
 | [.v (.str x), .v d] => (match jJ x l with | some o => K (.v (o.getD d)) σ | none => False)
 | _ => False
noncomputable def lN (T : Tb) (r : Run) (C : Ct) (name : Str) (a : AV) (Cc : Addr) (pos : Pos) (args : List Expr) (σ : SS) (K : AV → SS → Prop) : Prop := match kF Cc name T.meth with
 | some f => (match fnk f T.fn with
  | some sp => (match args with
   | [] => eC sp [a] σ K
   | args => r C (.l pos args σ fun as σ2 => eC sp (a :: as) σ2 K))
  | none => False)
 | none => False
noncomputable def ci : List Expr → Bool
 | [] => false
 | _ => true
noncomputable def uO (T : Tb) (r : Run) (C : Ct) (name : Str) (a : AV) (pos : Pos) (args : List Expr) (isN : Bool) (σ : SS) (K : AV → SS → Prop) : Prop := match a with
 | .c i => (match σ.cel[i]? with
  | some (.lst _) => Gd (ci args) (o6 r C name i pos args σ K)
  | _ => Gd isN (j8 name a σ fun Cc => lN T r C name a Cc pos args σ K))
 | .v (.dic l) => Gd (ci args && Fast.sEq name "get") (r C (.l pos args σ fun as σ2 => yx l as σ2 K))
 | .v (.bytes []) => Gd (ci args && Fast.sEq name "join") (r C (.l pos args σ fun as σ2 => ti as fun v => K (.v v) σ2))
 | .v (.tup l) => Gd (ci args && Fast.sEq name "index") (r C (.l pos args σ fun as σ2 => CQ (.v (.tup l) :: as) fun v => K (.v v) σ2))
 | _ => False
noncomputable def tyE (t : Ty) (as : List AV) (σ : SS) (K : AV → SS → Prop) : Prop := match t, as with
 | .bytes, [.v (.rng a b c)] => sG (.rng a b c) fun v => K (.v v) σ
 | .bytes, [.c i] => uN i σ fun v => K (.v v) σ
 | t, as => tyD t as σ fun v => K (.v v) σ
noncomputable def eD (T : Tb) (r : Run) (C : Ct) (fv : AV) (pos : Pos) (args : List Expr) (σ : SS) (K : AV → SS → Prop) : Prop := match fv with
 | .v (.ref f) => (match fnk f T.fn with
  | some sp => (match args with
   | [] => eC sp [] σ K
   | args => r C (.l pos args σ fun as σ2 => eC sp as σ2 K))
  | none => (match fnk f T.cls with
   | some sp => Gd (ci args) (r C (.l pos args σ fun as σ2 => zA sp f as σ2 K))
   | none => False))
 | .v (.bi b) => Gd (ci args) (r C (.l pos args σ fun as σ2 => biD b as fun v => K (.v v) σ2))
 | .v (.ty t) => Gd (ci args) (r C (.l pos args σ fun as σ2 => tyE t as σ2 K))
 | _ => False
noncomputable def yD (T : Tb) (r : Run) (C : Ct) (f : Expr) (args : List Expr) (pos : Pos) (σ : SS) (K : AV → SS → Prop) : Prop := exC False (e := f)
 (name := fun x _ => Gd (az args) (i4 T C x σ fun fv σ1 => eD T r C fv pos args σ1 K))
 (att := fun o name apos => Gd (mOk args apos pos && gH o) (r C (.e o σ fun a σ1 => uO T r C name a pos args (exC false (e := o) (name := fun _ _ => true)) σ1 K)))
noncomputable def lZ (e : Expr) : Bool := exC false (e := e) (set := fun _ _ _ => true)
noncomputable def l0 (C : Ct) (sc : Scope) : Ct := ⟨BL C.names sc.names, zt sc.names C.vid, C.mu, true⟩
noncomputable def uX (r : Run) (C : Ct) (elt : Expr) (gens : List Comprehension) (sc : Scope) (σ : SS) (K : List SV → SS → Prop) : Prop := match gens with
 | [g] => exC False (e := g.target) (name := fun x _ => Gd (!C.comp && d7 sc x && cG sc.names C.vid && decide (g.is_async = 0) && !lZ g.iter) (r C (.e g.iter σ fun a σ1 => itD a fun its => Gd (Nat.ble its.length 16384) (bh (r (l0 C sc) (.c x g.ifs elt its [] σ1.cel fun acc cel => K acc ⟨σ1.loc, cel⟩))))))
 | _ => False
noncomputable def CU (r : Run) (C : Ct) (l : Expr) (ops : List CmpOp) (rs : List Expr) (σ : SS) (K : AV → SS → Prop) : Prop := match ops, rs with
 | [op], [x] => Gd (!behindInMarks op x) (r C (.e l σ fun a σ1 => r C (.e x σ1 fun b σ2 => iK op a b fun v => K (.v v) σ2)))
 | _, _ => False
noncomputable def DL (r : Run) (C : Ct) (value slice : Expr) (σ : SS) (K : AV → SS → Prop) : Prop := exC (r C (.e value σ fun a σ1 => r C (.e slice σ1 fun i σ2 => getD a i σ2 fun v => K (.v v) σ2))) (e := slice)
 (slice := fun lo hi st _ => match st with
  | none => r C (.e value σ fun a σ1 => sD r C lo σ1 fun i σ2 => sD r C hi σ2 fun j σ3 => yV a i j fun v => K (.v v) σ3)
  | some _ => False)
noncomputable def yu (T : Tb) (C : Ct) (o : Expr) (attr : Str) (σ : SS) (K : AV → SS → Prop) : Prop := exC False (e := o) (name := fun x _ => i4 T C x σ fun a σ1 => rk attr a σ1 fun Cc d => Gd (cY Cc attr T.field && !vL d) (K (.v d) σ1))
noncomputable def orE (r : Run) (C : Ct) (op : BoolOp) (vs : List Expr) (σ : SS) (K : AV → SS → Prop) : Prop := match op, vs with
 | .Or, [a, b] => r C (.e a σ fun v σ1 => dy v fun c => Br c (K v σ1) (r C (.e b σ1 K)))
 | _, _ => False
noncomputable def unE (r : Run) (C : Ct) (op : UnaryOp) (x : Expr) (σ : SS) (K : AV → SS → Prop) : Prop := match op with
 | .Not => r C (.e x σ fun v σ1 => dy v fun b => K (.v (.bool (!b))) σ1)
 | .USub => r C (.e x σ fun v σ1 => gW v fun i => K (.v (.int (-i))) σ1)
 | _ => False
noncomputable def s8 (ks : List (Option Expr)) (vs : List Expr) (σ : SS) (K : AV → SS → Prop) : Prop := match dQ ks vs with
 | some l => Gd (hO (l.map (·.1)) && Nat.ble l.length 15 && Nat.ble 1 l.length) (K (.v (.dic (l.map fun p => (.str p.1, p.2)))) σ)
 | none => False
noncomputable def zf (op : Operator) (a b : AV) (σ : SS) (K : AV → SS → Prop) : Prop := match b with
 | .c i => (match op, a with
  | .Add, .v (.lst x) => (match σ.cel[i]? with | some (.lst l) => Gd (Nat.ble (x.length + l.length) 1000) (K (.v (.lst (x ++ l))) σ) | _ => False)
  | _, _ => False)
 | b => y0 op a b fun v => K (.v v) σ
noncomputable def stE (T : Tb) (r : Run) (C : Ct) (e : Expr) (σ : SS) (K : AV → SS → Prop) : Prop := exC False (e := e)
 (con := fun c _ _ => tE c σ K)
 (name := fun x _ => i4 T C x σ K)
 (bin := fun l op x _ => r C (.e l σ fun a σ1 => r C (.e x σ1 fun b σ2 => zf op a b σ2 K)))
 (cmp := fun l ops rs _ => CU r C l ops rs σ K)
 (un := fun op x _ => unE r C op x σ K)
 (ife := fun t a b _ => r C (.t t σ fun c σ1 => Br c (r C (.e a σ1 K)) (r C (.e b σ1 K))))
 (bool := fun op vs _ => orE r C op vs σ K)
 (tup := fun es _ pos => r C (.l pos es σ fun l σ1 => jt l fun l => K (.v (.tup l)) σ1))
 (lst := fun es pos => match r9 pos C.mu with
  | true => r C (.l pos es σ fun l σ1 => jt l fun l => K (.c σ1.cel.length) ⟨σ1.loc, σ1.cel ++ [.lst l]⟩)
  | false => r C (.l pos es σ fun l σ1 => jt l fun l => K (.v (.lst l)) σ1))
 (dict := fun ks vs _ => s8 ks vs σ K)
 (sub := fun v i _ => DL r C v i σ K)
 (att := fun o attr _ => yu T C o attr σ K)
 (call := fun f args kws pos => match kws with | [] => yD T r C f args pos σ K | _ => False)
 (lc := fun elt gens sc _ => uX r C elt gens sc σ fun acc σ1 => K (.v (.lst acc)) σ1)
noncomputable def tH (r : Run) (C : Ct) (l : Expr) (ops : List CmpOp) (rs : List Expr) (σ : SS) (K : Bool → SS → Prop) : Prop := match ops, rs with
 | [op], [x] => Gd (!behindInMarks op x) (r C (.e l σ fun a σ1 => r C (.e x σ1 fun b σ2 => iK op a b fun c => dy (.v c) fun t => K t σ2)))
 | [op, op'], [x, x'] => Gd (!behindInMarks op' x') (r C (.e l σ fun a σ1 => r C (.e x σ1 fun b σ2 => iK op a b fun c => dy (.v c) fun t => Br t (r C (.e x' σ2 fun d σ3 => iK op' b d fun e => dy (.v e) fun t' => K t' σ3)) (K false σ2))))
 | _, _ => False
noncomputable def s6 : UnaryOp → Bool
 | .Not => true
 | _ => false
noncomputable def fT (e : Expr) : Bool := exC true (e := e) (un := fun op _ _ => !s6 op) (bool := fun _ _ _ => false) (ife := fun _ _ _ _ => false) (cmp := fun _ _ _ _ => false)
noncomputable def stT (r : Run) (C : Ct) (e : Expr) (σ : SS) (K : Bool → SS → Prop) : Prop := exC (Gd (fT e) (r C (.e e σ fun v σ1 => dy v fun b => K b σ1))) (e := e)
 (un := fun op x _ => match s6 op with
  | true => r C (.t x σ fun b σ1 => K (!b) σ1)
  | false => Gd (fT e) (r C (.e e σ fun v σ1 => dy v fun b => K b σ1)))
 (bool := fun op vs _ => r C (.tl op vs σ K))
 (cmp := fun l ops rs _ => tH r C l ops rs σ K)
noncomputable def DR (r : Run) (C : Ct) (op : BoolOp) (es : List Expr) (σ : SS) (K : Bool → SS → Prop) : Prop := match es with
 | [] => K (match op with | .And => true | .Or => false) σ
 | x :: rest => r C (.t x σ fun b σ1 => match op with | .And => Br b (r C (.tl op rest σ1 K)) (K false σ1) | .Or => Br b (K true σ1) (r C (.tl op rest σ1 K)))
noncomputable def stL (r : Run) (C : Ct) (pos : Pos) (es : List Expr) (σ : SS) (K : List AV → SS → Prop) : Prop := match es with
 | [] => K [] σ
 | e :: es => Gd (az (e :: es)) (r C (.e e σ fun a σ1 => r C (.l pos es σ1 fun as σ2 => K (a :: as) σ2)))
noncomputable def stB (r : Run) (C : Ct) (sts : List Stmt) (σ : SS) (K : SF → SS → Prop) : Prop := match sts with
 | [] => K .next σ
 | st :: rest => r C (.s st σ fun f σ1 => pe σ1 fun σ1 => match f with | .next => r C (.b rest σ1 K) | f => K f σ1)
noncomputable def xN (a i : AV) (v : SV) (σ : SS) (k : SS → Prop) : Prop := match a with
 | .c n => (match σ.cel[n]? with
  | some (.barr _) => yq a i v σ k
  | _ => tg a i v σ k)
 | _ => False
noncomputable def stA (T : Tb) (r : Run) (C : Ct) (t : Expr) (v : AV) (σ : SS) (K : SS → Prop) : Prop := exC False (e := t)
 (name := fun x _ => h9 C x v σ K)
 (tup := fun ts _ _ => match v with | .v (.tup l) => Gd (Nat.beq ts.length l.length && az ts) (r C (.as ts (l.map .v) σ K)) | _ => False)
 (att := fun o attr _ => r C (.e o σ fun a σ1 => asV v fun d => oH attr a d σ1 fun Cc σ2 => Gd (cY Cc attr T.field) (K σ2)))
 (sub := fun o i _ => r C (.e o σ fun a σ1 => r C (.e i σ1 fun b σ2 => asV v fun d => xN a b d σ2 K)))
noncomputable def Bf (r : Run) (C : Ct) (ts : List Expr) (vs : List AV) (σ : SS) (K : SS → Prop) : Prop := match ts, vs with
 | [], [] => K σ
 | t :: ts, v :: vs => Gd (az (t :: ts)) (r C (.a t v σ fun σ1 => r C (.as ts vs σ1 K)))
 | _, _ => False
noncomputable def t7 (r : Run) (C : Ct) (ts : List Expr) (k : Nat) (tp : Pos) (value : Expr) (σ : SS) (K : SF → SS → Prop) : Prop := exC (Gd (!cA value) (r C (.e value σ fun v σ1 => r C (.a (.Tuple ts k tp) v σ1 fun σ2 => K .next σ2)))) (e := value)
 (tup := fun vs _ vp => match jD C.names ts vs with
  | some ns => r C (.l vp vs σ fun l σ1 => Gd (Nat.beq ns.length l.length && Nat.ble l.length 1000) (jq C ns.reverse l.reverse σ1 fun σ2 => K .next σ2))
  | none => False)
noncomputable def qD (r : Run) (C : Ct) (x : Str) (px : Pos) (value : Expr) (σ : SS) (K : SF → SS → Prop) : Prop := exC (Gd (!cA value) (r C (.e value σ fun v σ1 => h9 C x v σ1 fun σ2 => K .next σ2))) (e := value)
 (lc := fun elt gens sc pos => Gd ((match nlk x C.names with | some .local => true | _ => false) && Nat.beq px.line pos.line && !(sc.names.any fun p => Fast.sEq p.1 x && (p.2 == .local || p.2 == .cell))) (uX r C elt gens sc σ fun acc σ1 => K .next ⟨(x, .v (.lst acc)) :: σ1.loc, σ1.cel⟩))
noncomputable def DP (T : Tb) (r : Run) (C : Ct) (t : Expr) (value : Expr) (σ : SS) (K : SF → SS → Prop) : Prop := exC False (e := t)
 (name := fun x px => qD r C x px value σ K)
 (tup := fun ts k tp => t7 r C ts k tp value σ K)
 (att := fun o attr _ => Gd (!cA value) (r C (.e value σ fun v σ1 => r C (.e o σ1 fun a σ2 => asV v fun d => oH attr a d σ2 fun Cc σ3 => Gd (cY Cc attr T.field) (K .next σ3)))))
 (sub := fun o i _ => Gd (!cA value) (r C (.e value σ fun v σ1 => r C (.e o σ1 fun a σ2 => r C (.e i σ2 fun b σ3 => asV v fun d => xN a b d σ3 fun σ4 => K .next σ4)))))
noncomputable def Du (T : Tb) (r : Run) (C : Ct) (t : Expr) (op : Operator) (value : Expr) (σ : SS) (K : SF → SS → Prop) : Prop := exC False (e := t) (att := fun o attr _ => match op with
 | .Add => r C (.e o σ fun a σ1 => rk attr a σ1 fun Cc old => Gd (cY Cc attr T.field && !vL old) (r C (.e value σ1 fun v σ2 => gW (.v old) fun x => gW v fun y => oH attr a (.int (x + y)) σ2 fun Cc' σ3 => Gd (cY Cc' attr T.field) (K .next σ3))))
 | _ => False)
noncomputable def uq (target iter : Expr) : Option (Str × Pos × Expr) := exC none (e := target) (tup := fun _ _ _ => exC none (e := iter) (call := fun f args kws cpos => exC none (e := f) (name := fun x _ => match args, kws with
 | [e], [] => (match Fast.sEq x "enumerate" with | true => some (x, cpos, e) | false => none)
 | _, _ => none)))
noncomputable def zE (T : Tb) (r : Run) (C : Ct) (target iter : Expr) (body : List Stmt) (σ : SS) (K : SF → SS → Prop) : Prop := match uq target iter with
 | some (x, cpos, e) => Gd (az [e]) (i4 T C x σ fun fv σ1 => match fv with
  | .v (.ty .enumerate) => r C (.l cpos [e] σ1 fun as σ2 => pV as fun its => bh (r C (.f target body its σ2 K)))
  | _ => False)
 | none => Gd (!lZ iter) (r C (.e iter σ fun a σ1 => itD a fun its => bh (r C (.f target body its σ1 K))))
noncomputable def stS (T : Tb) (r : Run) (C : Ct) (st : Stmt) (σ : SS) (K : SF → SS → Prop) : Prop := smC False (s := st)
 (exp := fun e => Gd (!cA e) (r C (.e e σ fun v σ1 => match v with | .v .none => K .next σ1 | _ => False)))
 (ret := fun o => match o with | some e => r C (.e e σ fun v σ1 => K (.ret v) σ1) | none => False)
 (if_ := fun t a b => r C (.t t σ fun c σ1 => Br c (r C (.b a σ1 K)) (r C (.b b σ1 K))))
 (asg := fun ts value _ => match ts with | [t] => DP T r C t value σ K | _ => False)
 (aug := fun t op value => Du T r C t op value σ K)
 (for_ := fun target iter body orelse => match orelse with | [] => zE T r C target iter body σ K | _ => False)
 (whl := fun test body orelse => match orelse with | [] => bh (r C (.w test body σ K)) | _ => False)
 (try_ := fun body hs orelse final => match hs, orelse, final with | _ :: _, [], [] => r C (.b body σ K) | _, _, _ => False)
 (pass := K .next σ)
noncomputable def stF (r : Run) (C : Ct) (target : Expr) (body : List Stmt) (its : List SV) (σ : SS) (K : SF → SS → Prop) : Prop := match its with
 | [] => K .next σ
 | d :: ds => r C (.a target (.v d) σ fun σ1 => r C (.b body σ1 fun f σ2 => match f with
  | .next => r C (.f target body ds σ2 K)
  | .cont => r C (.f target body ds σ2 K)
  | .brk => K .next σ2
  | .ret v => K (.ret v) σ2))
noncomputable def stW (r : Run) (C : Ct) (test : Expr) (body : List Stmt) (σ : SS) (K : SF → SS → Prop) : Prop := r C (.t test σ fun b σ1 => Br b (r C (.b body σ1 fun f σ2 => match f with
  | .next => r C (.w test body σ2 K)
  | .cont => r C (.w test body σ2 K)
  | .brk => K .next σ2
  | .ret v => K (.ret v) σ2)) (K .next σ1))
noncomputable def Fh (r : Run) (C : Ct) (ifs : List Expr) (σ : SS) (K : Bool → SS → Prop) : Prop := match ifs with
 | [] => K true σ
 | [c] => r C (.t c σ K)
 | _ => False
noncomputable def stC (r : Run) (C : Ct) (x : Str) (ifs : List Expr) (elt : Expr) (its acc : List SV) (cel : List aa) (K : List SV → List aa → Prop) : Prop := match its with
 | [] => K acc cel
 | d :: ds => Fh r C ifs ⟨[(x, .v d)], cel⟩ fun b σ1 => Br b (r C (.e elt σ1 fun v σ2 => asV v fun sv => r C (.c x ifs elt ds (acc ++ [sv]) σ2.cel K))) (r C (.c x ifs elt ds acc σ1.cel K))
noncomputable def step (T : Tb) (r : Run) (C : Ct) (t : Tk) : Prop := match t with
 | .e e σ K => stE T r C e σ K
 | .t e σ K => stT r C e σ K
 | .tl op es σ K => DR r C op es σ K
 | .l pos es σ K => stL r C pos es σ K
 | .s st σ K => stS T r C st σ K
 | .b sts σ K => stB r C sts σ K
 | .a t v σ K => stA T r C t v σ K
 | .as ts vs σ K => Bf r C ts vs σ K
 | .f target body its σ K => stF r C target body its σ K
 | .w test body σ K => stW r C test body σ K
 | .c x ifs elt its acc cel K => stC r C x ifs elt its acc cel K
noncomputable def run (T : Tb) : Nat → Run
 | 0 => fun _ _ => False
 | n + 1 => fun C t => step T (run T n) C t
noncomputable def Tk.sound (X : Fx) (n : Nat) : Tk → Prop
 | .e x σ K => JE X x σ K
 | .t x σ K => JT X x σ K
 | .tl op es σ K => JTL X op es σ K
 | .l pos es σ K => JL X pos es σ K
 | .s st σ K => JS X st σ K
 | .b sts σ K => JB X sts σ K
 | .a x v σ K => JA X x v σ K
 | .as ts vs σ K => JAs X ts vs σ K
 | .f target body its σ K => jB X target body its σ K
 | .w test body σ K => JWh X test body n σ K
 | .c x ifs elt its acc cel K => gA X x ifs elt its acc cel K
structure AgC (X : Fx) (C : Ct) : Prop where
 names : X.env.scope.names = C.names
 vid : X.vid = C.vid
 comp : C.comp = false → X.comp = none
 quiet : interactive X.env = false
structure iy (w : World) (D U : Nat) (T : Tb) : Prop where
 glob : ∀ x sv, glk x T.glob = some sv → (∃ v, nsIn (tp.heap_1 w.params) mainGlobals x = some (some v) ∧ KV w v sv) ∨ (x ≠ "__name__" ∧ nsIn (tp.heap_1 w.params) mainGlobals x = some none ∧ ∃ v, bootBuiltins x = some v ∧ KV w v sv)
 fn : ∀ a sp, fnk a T.fn = some sp → (∃ D' U', aj w a D' U' sp ∧ D' ≤ D ∧ U' ≤ U) ∧ keepIn (tp.heap_1 w.params) (.ref a) = true
 fnG : ∀ a sp, fnk a T.fnG = some sp → (∃ D' U', aW w a D' U' sp ∧ D' ≤ D ∧ U' ≤ U) ∧ keepIn (tp.heap_1 w.params) (.ref a) = true
 cls : ∀ a sp, fnk a T.cls = some sp → (∃ fI D' U', nV w a fI ∧ ei w fI D' U' sp ∧ D' + 1 ≤ D ∧ U' + 1 ≤ U) ∧ keepIn (tp.heap_1 w.params) (.ref a) = true
 field : ∀ C x, cY C x T.field = true → dT w C x
 meth : ∀ C x f, kF C x T.meth = some f → dD w C x f
end
section
inductive ut (k : Str → Pos → Prop) : Expr → Prop
 | mk {x : Str} {p : Pos} : k x p → ut k (.Name x p)
theorem xh {k : Str → Pos → Prop} {t : Expr} (h : exC False (e := t) (name := k)) : ut k t := by
 induction t using Expr.casesOn with
 | Name x p => exact .mk h
 | _ => exact False.elim h
theorem nh {k : Str → Pos → Prop} {t : Expr} (h : exC False (e := t) (name := k)) : ∃ x p, t = .Name x p ∧ k x p := by
 induction xh h with
 | mk h => exact ⟨_, _, rfl, h⟩
structure Ctx (T : Tb) (X : Fx) (C : Ct) : Prop where
 ok : X.Ok
 ag : AgC X C
 tb : iy X.w X.D X.U T
 u : 10 ≤ X.U
section
variable {X : Fx} {σ : SS} {T : Tb} {C : Ct} {r : Run} {n : Nat}
theorem Ctx.kind (c : Ctx T X C) (x : Str) : X.env.kindOf x = nlk x C.names := by unfold Env.kindOf; rw [c.ag.names, iT]
theorem rj {c : Const} {k : Nat} {pos : Pos} {K : AV → SS → Prop} (h : tE c σ K) : JE X (.Constant c k pos) σ K := by
 induction c using Const.casesOn with
 | int i => exact uC h
 | str x => exact gV h
 | none => exact vP h
 | bool b => exact wi h
 | bytes x => exact u6 h
 | _ => exact False.elim h
theorem ka {x : Str} {k : AV → Prop} (c : Ctx T X C) (h : qx x C σ k) : ∃ i v, lkN x X.vid = some i ∧ σ.cel[i]? = some (.vcell v) ∧ k v := by
 unfold qx at h
 generalize e : lkN x C.vid = o at h
 induction o using Option.casesOn with
 | none => exact False.elim h
 | some i =>
  dsimp only at h
  generalize e2 : σ.cel[i]? = o at h
  induction o using Option.casesOn with
  | none => exact False.elim h
  | some o => induction o using aa.casesOn with
   | vcell v => exact ⟨i, v, by rw [c.ag.vid]; exact e, e2, h⟩
   | _ => exact False.elim h
theorem ez {x : Str} {pos : Pos} {K : AV → SS → Prop} (c : Ctx T X C) (h : i4 T C x σ K) : JE X (.Name x pos) σ K := by
 unfold i4 at h
 obtain ⟨g, h⟩ := h.out
 obtain ⟨g1, g2⟩ := Bool.and_eq_true_iff.mp g
 have g1 : (x == ("__debug__" : Str)) = false := by simpa using g1
 have g2 : (x == ("__classdict__" : Str)) = false := by simpa using g2
 generalize e : nlk x C.names = o at h
 induction o using Option.casesOn with
 | none => exact False.elim h
 | some k => induction k using NameKind.casesOn with
  | «local» =>
   dsimp only at h
   generalize e2 : lk x σ.loc = o at h
   induction o using Option.casesOn with
   | none => exact False.elim h
   | some v => exact cm c.ok ((c.kind x).trans e) g1 e2 h
  | cell =>
   obtain ⟨i, v, e1, e2, k⟩ := ka c h
   exact qy c.ok (.inl ((c.kind x).trans e)) g1 g2 e1 e2 k
  | free =>
   obtain ⟨i, v, e1, e2, k⟩ := ka c h
   exact qy c.ok (.inr ((c.kind x).trans e)) g1 g2 e1 e2 k
  | globalImplicit =>
   dsimp only at h
   generalize e2 : glk x T.glob = o at h
   induction o using Option.casesOn with
   | none => exact False.elim h
   | some sv =>
    rcases c.tb.glob x sv e2 with ⟨v, e3, kv⟩ | ⟨hn, e3, v, e4, kv⟩
    ·exact l6 c.ok ((c.kind x).trans e) g1 e3 kv h
    ·exact xm c.ok ((c.kind x).trans e) g1 hn e3 e4 kv h
  | _ => exact False.elim h
theorem gj {x : Str} {v : AV} {K : SS → Prop} (c : Ctx T X C) (h : h9 C x v σ K) : fZ X x v σ K := by
 unfold h9 at h
 generalize e : nlk x C.names = o at h
 induction o using Option.casesOn with
 | none => exact False.elim h
 | some k => induction k using NameKind.casesOn with
  | «local» => exact bS c.ok ((c.kind x).trans e) h
  | cell =>
   dsimp only at h
   generalize e1 : lkN x C.vid = o at h
   induction o using Option.casesOn with
   | none => exact False.elim h
   | some i =>
    dsimp only at h
    generalize e2 : σ.cel[i]? = o at h
    induction o using Option.casesOn with
    | none => exact False.elim h
    | some o => induction o using aa.casesOn with
     | vnone => exact iq c.ok ((c.kind x).trans e) (by rw [c.ag.vid]; exact e1) e2 (.inl rfl) h
     | vcell => exact iq c.ok ((c.kind x).trans e) (by rw [c.ag.vid]; exact e1) e2 (.inr ⟨_, rfl⟩) h
     | _ => exact False.elim h
  | _ => exact False.elim h
theorem kO (c : Ctx T X C) : ∀ {ns : List Str} {vs : List AV} {σ : SS} {K : SS → Prop}, jq C ns vs σ K → JNs X ns vs σ K
 | [], [], _, _, h => wI h
 | x :: xs, v :: vs, σ, K, h => sX (by
   have := gj (X := X) c (show h9 C x v σ fun σ1 => jq C xs vs σ1 K from h)
   exact fun ow ρ s va S r => (this ow ρ s va S r).mono fun _ σ k => kO c k)
 | [], _ :: _, _, _, h => h.elim
 | _ :: _, [], _, _, h => h.elim
theorem oj {a : AV} {k : List SV → Prop} (c : Ctx T X C) (h : itD a k) : ∃ its, eM X a σ its ∧ k its := by
 induction a using AV.casesOn with
 | c i => exact False.elim h
 | v x => induction x using SV.casesOn with
  | lst l => exact ⟨_, gO c.ok, h⟩
  | tup l => exact ⟨_, r7 c.ok, h⟩
  | bytes l => exact ⟨_, mw c.ok, h⟩
  | rng a b d =>
   obtain ⟨g, h⟩ := Gd.out h
   obtain ⟨g1, g2⟩ := Bool.and_eq_true_iff.mp g
   exact ⟨_, qT c.ok g1 (of_decide_eq_true g2), h⟩
  | _ => exact False.elim h
noncomputable abbrev aq (T : Tb) (r : Run) (n : Nat) : Prop := ∀ X C t, Ctx T X C → r C t → t.sound X n
theorem aq.e (hr : aq T r n) (c : Ctx T X C) {e : Expr} {K : AV → SS → Prop} (h : r C (.e e σ K)) : JE X e σ K := hr X C _ c h
theorem aq.t (hr : aq T r n) (c : Ctx T X C) {e : Expr} {K : Bool → SS → Prop} (h : r C (.t e σ K)) : JT X e σ K := hr X C _ c h
theorem aq.tl (hr : aq T r n) (c : Ctx T X C) {op : BoolOp} {e : List Expr} {K : Bool → SS → Prop} (h : r C (.tl op e σ K)) : JTL X op e σ K := hr X C _ c h
theorem aq.l (hr : aq T r n) (c : Ctx T X C) {p : Pos} {e : List Expr} {K : List AV → SS → Prop} (h : r C (.l p e σ K)) : JL X p e σ K := hr X C _ c h
theorem aq.s (hr : aq T r n) (c : Ctx T X C) {e : Stmt} {K : SF → SS → Prop} (h : r C (.s e σ K)) : JS X e σ K := hr X C _ c h
theorem aq.b (hr : aq T r n) (c : Ctx T X C) {e : List Stmt} {K : SF → SS → Prop} (h : r C (.b e σ K)) : JB X e σ K := hr X C _ c h
theorem aq.a (hr : aq T r n) (c : Ctx T X C) {e : Expr} {v : AV} {K : SS → Prop} (h : r C (.a e v σ K)) : JA X e v σ K := hr X C _ c h
theorem aq.as (hr : aq T r n) (c : Ctx T X C) {e : List Expr} {v : List AV} {K : SS → Prop} (h : r C (.as e v σ K)) : JAs X e v σ K := hr X C _ c h
theorem kc {name : Str} {a : AV} {k k' : Addr → SV → Prop} (h : rk name a σ k) (f : ∀ C d, k C d → k' C d) : rk name a σ k' := fR h fun C _ fs h => rP h (f C)
theorem rm {name : Str} {a : AV} {v : SV} {k k' : Addr → SS → Prop} (h : oH name a v σ k) (f : ∀ C d, k C d → k' C d) : oH name a v σ k' := fR h fun C _ fs h => Gd.mono h (f _ _)
theorem pB {name : Str} {a : AV} {k k' : Addr → Prop} (h : j8 name a σ k) (f : ∀ C, k C → k' C) : j8 name a σ k' := fR h fun C _ fs h => o7 h (f C)
theorem mT (hr : aq T r n) (c : Ctx T X C) {o : Option Expr} {K : Option Int → SS → Prop} (h : sD r C o σ K) : ip X o σ K := by
 induction o using Option.casesOn with
 | none => exact nZ h
 | some e => exact po (hr.e c h)
theorem J2.mono {f : Value → Value → Sem Value} {a b : AV} {K K' : AV → SS → Prop} (h : J2 X f a b σ K) (k : ∀ v σ, K v σ → K' v σ) : J2 X f a b σ K' := fun ow ρ s va vb S ra rb => (h ow ρ s va vb S ra rb).mono k
theorem JTr.mono {a : AV} {K K' : Bool → SS → Prop} (h : JTr X a σ K) (k : ∀ v σ, K v σ → K' v σ) : JTr X a σ K' := fun ow ρ s vs S ra => (h ow ρ s vs S ra).mono k
theorem xq (hr : aq T r n) (c : Ctx T X C) {l : Expr} {ops : List CmpOp} {rs : List Expr} {pos : Pos} {K : AV → SS → Prop} (h : CU r C l ops rs σ K) : JE X (.Compare l ops rs pos) σ K := by
 induction ops using List.casesOn with
 | nil => exact False.elim h
 | cons op ops => induction ops using List.casesOn with
  | cons _ _ => exact False.elim h
  | nil => induction rs using List.casesOn with
   | nil => exact False.elim h
   | cons x rs => induction rs using List.casesOn with
    | cons _ _ => exact False.elim h
    | nil =>
     obtain ⟨g, h⟩ := Gd.out h
     exact pr (by simpa using g) ((hr.e c h).mono fun a σ1 h => (hr.e c h).mono fun b σ2 h => dY c.ok c.u h)
theorem qV (hr : aq T r n) (c : Ctx T X C) {l : Expr} {ops : List CmpOp} {rs : List Expr} {pos : Pos} {K : Bool → SS → Prop} (h : tH r C l ops rs σ K) : JT X (.Compare l ops rs pos) σ K := by
 induction ops using List.casesOn with
 | nil => exact False.elim h
 | cons op ops => induction ops using List.casesOn with
  | nil => induction rs using List.casesOn with
   | nil => exact False.elim h
   | cons x rs => induction rs using List.casesOn with
    | cons _ _ => exact False.elim h
    | nil =>
     obtain ⟨g, h⟩ := Gd.out h
     exact ou (by simpa using g) ((hr.e c h).mono fun a σ1 h => (hr.e c h).mono fun b σ2 h => (dY (K := fun v σ' => dy v fun t => K t σ') c.ok c.u h).mono fun v σ' k => cJ k)
  | cons op' ops => induction ops using List.casesOn with
   | cons _ _ => exact False.elim h
   | nil => induction rs using List.casesOn with
    | nil => exact False.elim h
    | cons x rs => induction rs using List.casesOn with
     | nil => exact False.elim h
     | cons x' rs => induction rs using List.casesOn with
      | cons _ _ => exact False.elim h
      | nil =>
       obtain ⟨g, h⟩ := Gd.out h
       refine t6 (by simpa using g) ((hr.e c h).mono fun a σ1 h => (hr.e c h).mono fun b σ2 h => (dY (K := fun v σ' => dy v fun t => Br t (r C (.e _ σ' fun d σ3 => iK _ b d fun e => dy (.v e) fun t' => K t' σ3)) (K false σ')) c.ok c.u h).mono fun v σ' k => (cJ (K := fun t σ' => Br t (r C (.e _ σ' fun d σ3 => iK _ b d fun e => dy (.v e) fun t' => K t' σ3)) (K false σ')) k).mono fun t σ4 k => k.mono (fun k => ⟨rfl, ?_⟩) id)
       exact (hr.e c k).mono fun d σ5 h => (dY (K := fun v σ' => dy v fun t => K t σ') c.ok c.u h).mono fun v σ' k => cJ k
theorem zg (hr : aq T r n) (c : Ctx T X C) {op : UnaryOp} {x : Expr} {pos : Pos} {K : AV → SS → Prop} (h : unE r C op x σ K) : JE X (.UnaryOp op x pos) σ K := by
 induction op using UnaryOp.casesOn with
 | Not => exact zq ((hr.e c h).mono fun v σ1 k => cJ (K := fun b σ1 => K (.v (.bool (!b))) σ1) k)
 | USub => exact wL (hr.e c h)
 | _ => exact False.elim h
theorem yY (hr : aq T r n) (c : Ctx T X C) {op : BoolOp} {vs : List Expr} {pos : Pos} {K : AV → SS → Prop} (h : orE r C op vs σ K) : JE X (.BoolOp op vs pos) σ K := by
 induction op using BoolOp.casesOn with
 | And => exact False.elim h
 | Or => induction vs using List.casesOn with
  | nil => exact False.elim h
  | cons a vs => induction vs using List.casesOn with
   | nil => exact False.elim h
   | cons b vs => induction vs using List.casesOn with
    | cons _ _ => exact False.elim h
    | nil => exact yP ((hr.e c h).mono fun v σ1 k => (cJ (K := fun b σ1 => Br b (K v σ1) (r C (.e _ σ1 K))) k).mono fun b σ2 k => k.mono (fun k => ⟨rfl, k⟩) (fun k => hr.e c k))
theorem wA (hr : aq T r n) (c : Ctx T X C) {v i : Expr} {pos : Pos} {K : AV → SS → Prop} (h : DL r C v i σ K) : JE X (.Subscript v i pos) σ K := by
 have sl : ∀ lo hi st q, i = .Slice lo hi st q → JE X (.Subscript v i pos) σ K := fun lo hi st q e => by
  subst e
  induction st using Option.casesOn with
  | none => exact sM ((hr.e c h).mono fun a σ1 h => (mT hr c h).mono fun i σ2 h => mT hr c h)
  | some _ => exact False.elim h
 induction i using Expr.casesOn with
 | Slice lo hi st q => exact sl _ _ _ _ rfl
 | _ => exact zB rfl ((hr.e c h).mono fun a σ1 h => hr.e c h)
theorem tL (c : Ctx T X C) {o : Expr} {attr : Str} {pos : Pos} {K : AV → SS → Prop} (h : yu T C o attr σ K) : JE X (.Attribute o attr pos) σ K := by
 induction o using Expr.casesOn with
 | Name x p =>
  refine sN ((ez c (K := fun a σ1 => rk attr a σ1 fun Cc d => Gd (cY Cc attr T.field && !vL d) (K (.v d) σ1)) h).mono fun a σ1 h => pX c.ok ?_)
  exact kc h fun Cc d g => by
   obtain ⟨g, k⟩ := g.out
   obtain ⟨g1, g2⟩ := Bool.and_eq_true_iff.mp g
   exact ⟨c.tb.field _ _ g1, by simpa using g2, k⟩
 | _ => exact False.elim h
end
end
section
section
variable {X : Fx} {σ : SS} {T : Tb} {C : Ct} {r : Run} {n : Nat}
theorem sW (c : Ctx T X C) {ks : List (Option Expr)} {vs : List Expr} {pos : Pos} {K : AV → SS → Prop} (h : s8 ks vs σ K) : JE X (.Dict ks vs pos) σ K := by
 unfold s8 at h
 generalize e : dQ ks vs = o at h
 induction o using Option.casesOn with
 | none => exact False.elim h
 | some l =>
  obtain ⟨g, h⟩ := Gd.out h
  exact uh c.ok e g h
theorem gY {iter : Expr} (h : lZ iter = false) (env : Env) : ∀ v, foldedSetIterable iter env v = pure v := by
 intro v
 induction iter using Expr.casesOn <;> first | rfl | cases h
theorem gu (c : Ctx T X C) {f : Addr} {sp : Spec} (hf : fnk f T.fn = some sp) {as : List AV} {K : AV → SS → Prop} (h : eC sp as σ K) : aB X (.ref f) as σ K := by
 obtain ⟨⟨D', U', fo, h1, h2⟩, _⟩ := c.tb.fn f sp hf
 exact jA c.ok fo h1 h2 h
noncomputable def CZ (X : Fx) (pos : Pos) (args : List Expr) (fv : AV) (σ : SS) (K : AV → SS → Prop) : Prop := match fv with
 | .v (.ref f) => keepIn (tp.heap_1 X.w.params) (.ref f) = true ∧ JL X pos args σ fun as σ2 => aB X (.ref f) as σ2 K
 | .v (.bi id) => JL X pos args σ fun as σ2 => aB X (.builtin id.id) as σ2 K
 | .v (.ty n) => JL X pos args σ fun as σ2 => aB X (.type n.id) as σ2 K
 | _ => False
theorem uy {K : AV → SS → Prop} {x : Str} {px pos : Pos} {e : Expr} {args : List Expr} (hs : az (e :: args) = true) (h : JE X (.Name x px) σ fun fv σ1 => CZ X pos (e :: args) fv σ1 K) : JE X (.Call (.Name x px) (e :: args) [] pos) σ K := by
 intro ow ρ s S Q E q
 refine Call_ (h ow ρ s S _ _ fun a sa σ1 ow1 ρ1 hz1 tk1 ez1 S1 rz1 kz1 => ?_)
 induction rz1 using AR.casesOn with
 | c => exact kz1.elim
 | v r => induction r using VR.casesOn with
  | ref f =>
   have kz1 : keepIn (tp.heap_1 X.w.params) (.ref f) = true ∧ JL X pos (e :: args) σ1 fun as σ2 => aB X (.ref f) as σ2 K := kz1
   exact dP (s := { s with heap := hz1, toks := tk1 }) hs kz1.1 S1 .nil kz1.2 _ _ fun v sv σ2 ow2 ρ2 hz2 tk2 ez2 S2 rz2 kz2 => q v sv σ2 ow2 ρ2 hz2 tk2 (ez1.trans ez2) S2 rz2 kz2
  | bi id =>
   have kz1 : JL X pos (e :: args) σ1 fun as σ2 => aB X (.builtin id.id) as σ2 K := kz1
   refine PyProof.Rows.callWith_builtin1 (kz1 ow1 ρ1 { s with heap := hz1, toks := tk1 } S1 _ _ fun vs as σ2 ow2 ρ2 hz2 tk2 ez2 S2 rz2 kz2 => ?_) (am hs) (aC (aZ hs))
   exact kz2 ow2 ρ2 { s with heap := hz2, toks := tk2 } _ S2 rz2 _ _ fun v sv σ3 ow3 ρ3 hz3 tk3 ez3 S3 rz3 kz3 => q v sv σ3 ow3 ρ3 hz3 tk3 ((ez1.trans ez2).trans ez3) S3 rz3 kz3
  | ty id =>
   have kz1 : JL X pos (e :: args) σ1 fun as σ2 => aB X (.type id.id) as σ2 K := kz1
   refine PyProof.Rows.callWith_type1 (kz1 ow1 ρ1 { s with heap := hz1, toks := tk1 } S1 _ _ fun vs as σ2 ow2 ρ2 hz2 tk2 ez2 S2 rz2 kz2 => ?_) (am hs) (aC (aZ hs))
   exact kz2 ow2 ρ2 { s with heap := hz2, toks := tk2 } _ S2 rz2 _ _ fun v sv σ3 ow3 ρ3 hz3 tk3 ez3 S3 rz3 kz3 => q v sv σ3 ow3 ρ3 hz3 tk3 ((ez1.trans ez2).trans ez3) S3 rz3 kz3
  | _ => exact kz1.elim
theorem yM (c : Ctx T X C) {t : Ty} {as : List AV} {K : AV → SS → Prop} (h : tyE t as σ K) : aB X (.type t.id) as σ K := by
 have other : tyD t as σ (fun v => K (.v v) σ) → aB X (.type t.id) as σ K := fun h => zC c.ok h
 induction t using Ty.casesOn with
 | bytes => induction as using List.casesOn with
  | nil => exact other h
  | cons a as => induction as using List.casesOn with
   | cons b as => induction a using AV.casesOn with
    | c i => exact other h
    | v x => induction x using SV.casesOn <;> exact other h
   | nil => induction a using AV.casesOn with
    | c i => exact rD h
    | v x => induction x using SV.casesOn with
     | rng a b d => exact rH h
     | _ => exact other h
 | _ => exact other h
theorem zP (c : Ctx T X C) {f : Addr} {sp : Spec} (hf : fnk f T.cls = some sp) {as : List AV} {K : AV → SS → Prop} (h : zA sp f as σ K) : aB X (.ref f) as σ K := by
 obtain ⟨⟨fI, D', U', co, fo, h1, h2⟩, _⟩ := c.tb.cls f sp hf
 exact qY c.ok co fo h1 h2 h
theorem rI (hr : aq T r n) (c : Ctx T X C) {x : Str} {px pos : Pos} {args : List Expr} {K : AV → SS → Prop} (hs : az args = true) (h : JE X (.Name x px) σ fun fv σ1 => eD T r C fv pos args σ1 K) : JE X (.Call (.Name x px) args [] pos) σ K := by
 induction args using List.casesOn with
 | nil =>
  refine tD (h.mono fun fv σ1 h => ?_)
  induction fv using AV.casesOn with
  | c i => exact False.elim h
  | v x => induction x using SV.casesOn with
   | ref f =>
    unfold eD at h
    dsimp only at h
    generalize e : fnk f T.fn = o at h
    induction o using Option.casesOn with
    | some sp => exact ⟨(c.tb.fn f sp e).2, gu c e h⟩
    | none =>
     dsimp only at h
     generalize fnk f T.cls = o at h
     induction o using Option.casesOn with
     | none => exact False.elim h
     | some sp => exact Bool.noConfusion (Gd.out h).1
   | bi id => unfold eD at h; dsimp only at h; exact Bool.noConfusion (Gd.out h).1
   | ty id => unfold eD at h; dsimp only at h; exact Bool.noConfusion (Gd.out h).1
   | _ => exact False.elim h
 | cons e rest =>
  refine uy hs (h.mono fun fv σ1 h => ?_)
  induction fv using AV.casesOn with
  | c i => exact False.elim h
  | v x => induction x using SV.casesOn with
   | ref f =>
    unfold eD at h
    dsimp only at h
    generalize e1 : fnk f T.fn = o at h
    induction o using Option.casesOn with
    | some sp => exact ⟨(c.tb.fn f sp e1).2, (hr.l c h).mono fun as σ2 h => gu c e1 h⟩
    | none =>
     dsimp only at h
     generalize e1 : fnk f T.cls = o at h
     induction o using Option.casesOn with
     | none => exact False.elim h
     | some sp => exact ⟨(c.tb.cls f sp e1).2, (hr.l c (Gd.out h).2).mono fun as σ2 h => zP c e1 h⟩
   | bi id => unfold eD at h; dsimp only at h; exact (hr.l c (Gd.out h).2).mono fun as σ2 h => t9 c.ok h
   | ty id => unfold eD at h; dsimp only at h; exact (hr.l c (Gd.out h).2).mono fun as σ2 h => yM c h
   | _ => exact False.elim h
theorem pb (name : Str) (i : Nat) {args : List Expr} {pos : Pos} {K : AV → SS → Prop} (hr : aq T r n) (c : Ctx T X C) {l : List SV} (hl : σ.cel[i]? = some (.lst l)) (h : o6 r C name i pos args σ K) : ∃ id, JGm X name (.c i) σ id ∧ JL X pos args σ fun as σ2 => aB X (.builtin id) (.c i :: as) σ2 K := by
 unfold o6 at h
 generalize e : Fast.sEq name "append" = b at h
 induction b using Bool.casesOn with
 | true =>
  obtain rfl := Fast.sEq_iff.mp e
  refine ⟨"list.append", mS PySem.F.slot_list_append PySem.F.type_list_append hl, (hr.l c h).mono fun as σ2 h => ?_⟩
  induction as using List.casesOn with
  | nil => exact False.elim h
  | cons a as => induction as using List.casesOn with
   | cons _ _ => induction a using AV.casesOn <;> exact False.elim h
   | nil => induction a using AV.casesOn with
    | c i => exact False.elim h
    | v d =>
     dsimp only at h
     unfold CJ at h
     generalize e2 : σ2.cel[i]? = o at h
     induction o using Option.casesOn with
     | none => exact False.elim h
     | some o => induction o using aa.casesOn with
      | lst l =>
       obtain ⟨g, h⟩ := Gd.out h
       exact oA e2 (Nat.le_of_ble_eq_true g) h
      | _ => exact False.elim h
 | false =>
  dsimp only at h
  generalize e : Fast.sEq name "extend" = b at h
  induction b using Bool.casesOn with
  | false => exact False.elim h
  | true =>
   obtain rfl := Fast.sEq_iff.mp e
   refine ⟨"list.extend", mS PySem.F.slot_list_extend PySem.F.type_list_extend hl, (hr.l c h).mono fun as σ2 h => ?_⟩
   induction as using List.casesOn with
   | nil => exact False.elim h
   | cons a as => induction as using List.casesOn with
    | cons _ _ => induction a using AV.casesOn with
     | c i => exact False.elim h
     | v d => induction d using SV.casesOn <;> exact False.elim h
    | nil => induction a using AV.casesOn with
     | c i => exact False.elim h
     | v d => induction d using SV.casesOn with
      | lst l2 =>
       dsimp only at h
       unfold CV at h
       generalize e2 : σ2.cel[i]? = o at h
       induction o using Option.casesOn with
       | none => exact False.elim h
       | some o => induction o using aa.casesOn with
        | lst l =>
         obtain ⟨g, h⟩ := Gd.out h
         exact oU e2 (Nat.le_of_ble_eq_true g) h
        | _ => exact False.elim h
      | _ => exact False.elim h
noncomputable def tr (X : Fx) (name : Str) (pos : Pos) (args : List Expr) (a : AV) (σ : SS) (K : AV → SS → Prop) : Prop :=
 (∃ id, ci args = true ∧ JGm X name a σ id ∧ JL X pos args σ fun as σ2 => aB X (.builtin id) (a :: as) σ2 K) ∨
 j8 name a σ fun Cc => ∃ f, dD X.w Cc name f ∧ (match args with
  | [] => aB X (.ref f) [a] σ K
  | args => JL X pos args σ fun as σ2 => aB X (.ref f) (a :: as) σ2 K)
theorem tP {K : AV → SS → Prop} {o : Expr} {name : Str} {apos pos : Pos} {args : List Expr} (O : X.Ok) (hb : gH o = true) (ho : mOk args apos pos = true) (h : JE X o σ fun a σ1 => tr X name pos args a σ1 K) : JE X (.Call (.Attribute o name apos) args [] pos) σ K := by
 have hs : az args = true := by unfold mOk at ho; exact (Bool.and_eq_true_iff.mp (Bool.and_eq_true_iff.mp ho).1).1
 intro ow ρ s S Q E q
 refine yy hb ho fun pl => h ow ρ s S _ _ fun va a σ1 ow1 ρ1 hz1 tk1 ez1 S1 rz1 kz1 => ?_
 rcases kz1 with ⟨id, ha, gm, k⟩ | kz1
 ·induction args using List.casesOn with
  | nil => cases ha
  | cons e args =>
   refine gm ow1 ρ1 { s with heap := hz1, toks := tk1 } va pl S1 rz1 _ _ ?_
   refine callWith_method1 (k ow1 ρ1 { s with heap := hz1, toks := tk1 } S1 _ _ fun vs as σ2 ow2 ρ2 hz2 tk2 ez2 S2 rz2 kz2 => ?_) (am hs) (aC (aZ hs))
   exact kz2 ow2 ρ2 { s with heap := hz2, toks := tk2 } _ S2 (.cons (S1.ar ez2 rz1) rz2) _ _ fun v sv σ3 ow3 ρ3 hz3 tk3 ez3 S3 rz3 kz3 => q v sv σ3 ow3 ρ3 hz3 tk3 ((ez1.trans ez2).trans ez3) S3 rz3 kz3
 ·obtain ⟨C, ⟨f, m, k⟩, go⟩ := u9 (s := { s with heap := hz1, toks := tk1 }) (pl := pl) O S1 rz1 kz1
  refine go f m _ _ ?_
  induction args using List.casesOn with
  | nil => exact fA (s := { s with heap := hz1, toks := tk1 }) m.k S1 (.cons rz1 .nil) k _ _ fun v sv σ2 ow2 ρ2 hz2 tk2 ez2 S2 rz2 kz2 => q v sv σ2 ow2 ρ2 hz2 tk2 (ez1.trans ez2) S2 rz2 kz2
  | cons e args => exact dP (s := { s with heap := hz1, toks := tk1 }) hs m.k S1 (.cons rz1 .nil) k _ _ fun v sv σ2 ow2 ρ2 hz2 tk2 ez2 S2 rz2 kz2 => q v sv σ2 ow2 ρ2 hz2 tk2 (ez1.trans ez2) S2 rz2 kz2
theorem uv (hr : aq T r n) (c : Ctx T X C) {name : Str} {a : AV} {Cc : Addr} {pos : Pos} {args : List Expr} {K : AV → SS → Prop} (h : lN T r C name a Cc pos args σ K) : ∃ f, dD X.w Cc name f ∧ (match (generalizing := false) args with
  | [] => aB X (.ref f) [a] σ K
  | args => JL X pos args σ fun as σ2 => aB X (.ref f) (a :: as) σ2 K) := by
 unfold lN at h
 generalize e1 : kF Cc name T.meth = o at h
 induction o using Option.casesOn with
 | none => exact False.elim h
 | some f =>
  dsimp only at h
  generalize e2 : fnk f T.fn = o at h
  induction o using Option.casesOn with
  | none => exact False.elim h
  | some sp =>
   refine ⟨f, c.tb.meth _ _ _ e1, ?_⟩
   induction args using List.casesOn with
   | nil => exact gu c e2 h
   | cons e args => exact (hr.l c h).mono fun as σ2 h => gu c e2 h
theorem tn (hr : aq T r n) (c : Ctx T X C) {name : Str} {a : AV} {pos : Pos} {args : List Expr} {isN : Bool} {K : AV → SS → Prop} (h : uO T r C name a pos args isN σ K) : tr X name pos args a σ K := by
 have user : ∀ i, a = .c i → Gd isN (j8 name a σ fun Cc => lN T r C name a Cc pos args σ K) → tr X name pos args a σ K := fun i e h => .inr (pB h.out.2 fun Cc h => uv hr c h)
 have name_of : ∀ {x : Str} {b : Bool} {P : Prop}, Gd (b && Fast.sEq name x) P → b = true ∧ name = x ∧ P := fun {x b P} h => by
  obtain ⟨g, h⟩ := h.out
  obtain ⟨g1, g2⟩ := Bool.and_eq_true_iff.mp g
  exact ⟨g1, Fast.sEq_iff.mp g2, h⟩
 induction a using AV.casesOn with
 | c i =>
  unfold uO at h
  dsimp only at h
  generalize hl : σ.cel[i]? = o at h
  induction o using Option.casesOn with
  | none => exact user i rfl h
  | some o => induction o using aa.casesOn with
   | lst l =>
    obtain ⟨g, h⟩ := Gd.out h
    obtain ⟨id, gm, k⟩ := pb _ _ hr c hl h
    exact .inl ⟨id, g, gm, k⟩
   | _ => exact user i rfl h
 | v x => induction x using SV.casesOn with
  | dic l =>
   obtain ⟨g1, rfl, h'⟩ := name_of h
   refine .inl ⟨"dict.get", g1, v9, (hr.l c h').mono fun as σ2 h => ?_⟩
   induction as using List.casesOn with
   | nil => exact False.elim h
   | cons a as => induction a using AV.casesOn with
    | c i => exact False.elim h
    | v x => induction x using SV.casesOn with
     | str x => induction as using List.casesOn with
      | nil => exact False.elim h
      | cons b as => induction b using AV.casesOn with
       | c i => exact False.elim h
       | v d => induction as using List.casesOn with
        | cons _ _ => exact False.elim h
        | nil =>
         unfold yx at h
         dsimp only at h
         generalize e : jJ x l = o at h
         induction o using Option.casesOn with
         | none => exact False.elim h
         | some o => exact vy e h
     | _ => exact False.elim h
  | bytes l => induction l using List.casesOn with
   | cons _ _ => exact False.elim h
   | nil =>
    obtain ⟨g1, rfl, h'⟩ := name_of h
    exact .inl ⟨"bytes.join", g1, nR, (hr.l c h').mono fun as σ2 h => mB h⟩
  | tup l =>
   obtain ⟨g1, rfl, h'⟩ := name_of h
   exact .inl ⟨"tuple.index", g1, wO, (hr.l c h').mono fun as σ2 h => qF h⟩
  | _ => exact False.elim h
theorem ui (hr : aq T r n) (c : Ctx T X C) {f : Expr} {args : List Expr} {pos : Pos} {K : AV → SS → Prop} (h : yD T r C f args pos σ K) : JE X (.Call f args [] pos) σ K := by
 induction f using Expr.casesOn with
 | Name x p =>
  obtain ⟨g, h⟩ := Gd.out h
  exact rI hr c g (ez c h)
 | Attribute o name apos =>
  obtain ⟨g, h⟩ := Gd.out h
  obtain ⟨g1, g2⟩ := Bool.and_eq_true_iff.mp g
  exact tP c.ok g2 g1 ((hr.e c h).mono fun a σ1 h => tn hr c h)
 | _ => exact False.elim h
end
end
section
section
variable {X : Fx} {σ : SS} {T : Tb} {C : Ct} {r : Run} {n : Nat}
theorem aY {X : Fx} (O : X.Ok) : interactive X.env = false := by
 unfold interactive
 rw [O.kind]; rfl
theorem mC (c : Ctx T X C) {sc : Scope} {X' : Fx} (ic : dN X X' sc) : Ctx T X' (l0 C sc) :=
 ⟨ic.ok, ⟨by rw [ic.names, c.ag.names]; rfl, by rw [ic.vid, c.ag.vid]; rfl, fun e => (by cases e), aY ic.ok⟩, by rw [ic.w, ic.D, ic.U]; exact c.tb, by rw [ic.U]; exact c.u⟩
theorem kB (hr : aq T r n) (c : Ctx T X C) {elt : Expr} {gens : List Comprehension} {sc : Scope} {K : List SV → SS → Prop} (h : uX r C elt gens sc σ K) : ∃ x px iter ifs, gens = [⟨.Name x px, iter, ifs, 0⟩] ∧ X.comp = none ∧ d7 sc x = true ∧ cG sc.names X.vid = true ∧ (∀ v, foldedSetIterable iter X.env v = pure v) ∧
  JE X iter σ fun a σ1 => ∃ its, eM X a σ1 its ∧ its.length ≤ 16384 ∧ ∀ X', dN X X' sc → gA X' x ifs elt its [] σ1.cel fun acc cel => K acc ⟨σ1.loc, cel⟩ := by
 induction gens using List.casesOn with
 | nil => exact False.elim h
 | cons g gs => induction gs using List.casesOn with
  | cons _ _ => exact False.elim h
  | nil =>
   refine hide fun Gz0 bk0 => ?_
   obtain ⟨t, iter, ifs, isa⟩ := g
   obtain ⟨x, px, rfl, h⟩ := nh h
   obtain ⟨g, h⟩ := Gd.out h
   obtain ⟨g, g5⟩ := Bool.and_eq_true_iff.mp g
   obtain ⟨g, g4⟩ := Bool.and_eq_true_iff.mp g
   obtain ⟨g, g3⟩ := Bool.and_eq_true_iff.mp g
   obtain ⟨g1, g2⟩ := Bool.and_eq_true_iff.mp g
   have hisa : isa = 0 := of_decide_eq_true g4
   subst hisa
   refine bk0 ⟨x, px, iter, ifs, rfl, c.ag.comp (by simpa using g1), g2, by rw [c.ag.vid]; exact g3, gY (by simpa using g5) _, (hr.e c h).mono fun a σ1 h => ?_⟩
   obtain ⟨its, hi, h⟩ := oj (σ := σ1) c h
   obtain ⟨g, h⟩ := h.out
   exact ⟨its, hi, Nat.le_of_ble_eq_true g, fun X' ic => hr X' _ _ (mC c ic) h.out⟩
theorem xr {op : Operator} {a b : AV} {K : AV → SS → Prop} (O : X.Ok) (h : zf op a b σ K) : J2 X (binaryOp op) a b σ K := by
 induction b using AV.casesOn with
 | v y => exact ql O h
 | c i => induction op using Operator.casesOn with
  | Add => induction a using AV.casesOn with
   | c j => exact False.elim h
   | v x => induction x using SV.casesOn with
    | lst x =>
     unfold zf at h
     dsimp only at h
     generalize hl : σ.cel[i]? = o at h
     induction o using Option.casesOn with
     | none => exact False.elim h
     | some o => induction o using aa.casesOn with
      | lst l =>
       obtain ⟨g, h⟩ := Gd.out h
       intro ow ρ s va vb S ra rb Q E q
       replace rb := rb.i; obtain ⟨_, rfl, hr⟩ := rb
       refine hide fun Gz0 bk0 => ?_
       obtain ⟨a, vs, n, rfl, ha, r1⟩ := bF ra.inv
       obtain ⟨ob, hb, e2⟩ := S.cel _ _ _ hr hl
       refine bk0 ?_; clear bk0 Gz0
       replace e2 := e2.i; obtain ⟨_, _, rfl, r2⟩ := e2
       rename_i ws m
       have g := Nat.le_of_ble_eq_true g
       refine P.add_list ha hb ?_ (by rw [List.size_toArray, List.size_toArray, r1.length, r2.length]; exact Nat.le_trans g (by decide))
       have e : vs.toArray ++ ws.toArray = (vs ++ ws).toArray := by simp
       rw [e]
       exact fH S (r1.append r2) h q
      | _ => exact False.elim h
    | _ => exact False.elim h
  | _ => exact False.elim h
theorem y7 (hr : aq T r n) (c : Ctx T X C) {e : Expr} {K : AV → SS → Prop} (h : stE T r C e σ K) : JE X e σ K := by
 induction e using Expr.casesOn with
 | Constant c k p => exact rj h
 | Name x p => exact ez c h
 | BinOp l op x p => exact cj ((hr.e c h).mono fun a σ1 h => (hr.e c h).mono fun b σ2 h => xr c.ok h)
 | Compare l ops rs p => exact xq hr c h
 | UnaryOp op x p => exact zg hr c h
 | IfExp t a b p => exact sF ((hr.t c h).mono fun t σ1 h => h.mono (hr.e c) (hr.e c))
 | BoolOp op vs p => exact yY hr c h
 | Tuple es k p => exact tB (hr.l c h)
 | List es p =>
  replace h : (match r9 p C.mu with | true => r C (.l p es σ fun l σ1 => jt l fun l => K (.c σ1.cel.length) ⟨σ1.loc, σ1.cel ++ [.lst l]⟩) | false => r C (.l p es σ fun l σ1 => jt l fun l => K (.v (.lst l)) σ1)) := h
  generalize r9 p C.mu = b at h
  induction b using Bool.casesOn with
  | true => exact mH (hr.l c h)
  | false => exact xT (hr.l c h)
 | Dict ks vs p => exact sW c h
 | Subscript v i p => exact wA hr c h
 | Attribute o attr p => exact tL c h
 | Call f args kws p => induction kws using List.casesOn with
  | nil => exact ui hr c h
  | cons _ _ => exact False.elim h
 | ListComp elt gens sc p =>
  refine hide fun Gz0 bk0 => ?_
  obtain ⟨x, px, iter, ifs, rfl, a1, a2, a3, a4, j⟩ := kB hr c h
  refine bk0 ?_; clear bk0 Gz0
  exact mY c.ok a1 a2 a3 a4 j
 | _ => exact False.elim h
theorem kP {e : Expr} (h : fT e = true) (env : Env) : isTrue e env (eval e env) = (do let v ← eval e env; standAt (Expr.pos e); holding [v] (truthy v)) := by
 induction e using Expr.casesOn <;> first | rfl | cases h | (rename_i op x pos; induction op using UnaryOp.casesOn <;> first | rfl | cases h)
theorem zF (hr : aq T r n) (c : Ctx T X C) {e : Expr} {K : Bool → SS → Prop} (h : stT r C e σ K) : JT X e σ K := by
 have other : Gd (fT e) (r C (.e e σ fun v σ1 => dy v fun b => K b σ1)) → JT X e σ K := fun h => by
  obtain ⟨g, h⟩ := h.out
  exact uu ((hr.e c h).mono fun v σ1 k => cJ k) (kP g _)
 induction e using Expr.casesOn with
 | UnaryOp op x p => induction op using UnaryOp.casesOn with
  | Not => exact zV (hr.t c h)
  | _ => exact other h
 | BoolOp op vs p => exact sm (hr.tl c h)
 | Compare l ops rs p => exact qV hr c h
 | _ => exact other h
theorem wE (hr : aq T r n) (c : Ctx T X C) {op : BoolOp} {es : List Expr} {K : Bool → SS → Prop} (h : DR r C op es σ K) : JTL X op es σ K := by
 induction es using List.casesOn with
 | nil => exact wJ h
 | cons x rest =>
  refine us ((hr.t c h).mono fun b σ1 h => ?_)
  induction op using BoolOp.casesOn
  ·exact Br.mono h (hr.tl c) id
  ·exact Br.mono h id (hr.tl c)
theorem zx (hr : aq T r n) (c : Ctx T X C) {pos : Pos} {es : List Expr} {K : List AV → SS → Prop} (h : stL r C pos es σ K) : JL X pos es σ K := by
 induction es using List.casesOn with
 | nil => exact dB h
 | cons e es =>
  obtain ⟨g, h⟩ := Gd.out h
  exact aH (am g) ((hr.e c h).mono fun a σ1 h => hr.l c h)
theorem zm (hr : aq T r n) (c : Ctx T X C) {es : List Stmt} {K : SF → SS → Prop} (h : stB r C es σ K) : JB X es σ K := by
 induction es using List.casesOn with
 | nil => exact i7 h
 | cons e es =>
  refine fq ((hr.s c h).mono fun f σ1 h => ?_)
  rw [kh] at h
  induction f using SF.casesOn
  ·exact hr.b c h
  ·exact h
  ·exact h
  ·exact h
theorem kZ {name : Str} {a v : AV} {k : SS → Prop} (c : Ctx T X C) (h : asV v fun d => oH name a d σ fun Cc σ2 => Gd (cY Cc name T.field) (k σ2)) : kN X name a v σ k := by
 obtain ⟨d, rfl, h'⟩ := bj h
 exact wx c.ok (rm h' fun Cc σ2 g => ⟨c.tb.field _ _ g.out.1, g.out.2⟩)
theorem nk {a b v : AV} {k : SS → Prop} (h : asV v fun d => xN a b d σ k) : nU X a b v σ k := by
 obtain ⟨d, rfl, h'⟩ := bj h
 induction a using AV.casesOn with
 | v x => exact False.elim h'
 | c n =>
  unfold xN at h'
  dsimp only at h'
  generalize σ.cel[n]? = o at h'
  induction o using Option.casesOn with
  | none => exact j0 h'
  | some o => induction o using aa.casesOn with
   | barr l => exact tS h'
   | _ => exact j0 h'
theorem w4 {o i : Expr} {pos : Pos} {v : AV} {K : SS → Prop} (h : JE X o σ fun a σ1 => JE X i σ1 fun b σ2 => nU X a b v σ2 K) : JA X (.Subscript o i pos) v σ K := by
 intro ow ρ s va S r Q E q
 refine kas_sub (h ow ρ s S _ _ fun a sa σ1 ow1 ρ1 hz1 tk1 ez1 S1 rz1 kz1 => kz1 ow1 ρ1 { s with heap := hz1, toks := tk1 } S1 _ _ fun b sb σ2 ow2 ρ2 hz2 tk2 ez2 S2 rz2 kz2 => ?_)
 exact kz2 ow2 ρ2 { s with heap := hz2, toks := tk2 } a b va S2 (S1.ar ez2 rz1) rz2 (S.ar (ez1.trans ez2) r) _ _ fun _ _ σ3 ow3 ρ3 hz3 tk3 ez3 S3 _ kz3 => q () () σ3 ow3 ρ3 hz3 tk3 ((ez1.trans ez2).trans ez3) S3 trivial kz3
theorem zT (hr : aq T r n) (c : Ctx T X C) {t : Expr} {v : AV} {K : SS → Prop} (h : stA T r C t v σ K) : JA X t v σ K := by
 induction t using Expr.casesOn with
 | Name x p => exact dU (gj c h)
 | Tuple ts k p => induction v using AV.casesOn with
  | c i => exact False.elim h
  | v x => induction x using SV.casesOn with
   | tup l =>
    obtain ⟨g, h⟩ := Gd.out h
    obtain ⟨g1, g2⟩ := Bool.and_eq_true_iff.mp g
    exact ud ((iX g2).trans (Nat.eq_of_beq_eq_true g1)) (jm g2) (fun v => .inl rfl) (hr.as c h)
   | _ => exact False.elim h
 | Attribute o attr p => exact xX ((hr.e c h).mono fun a σ1 h => kZ c h)
 | Subscript o i p => exact w4 ((hr.e c h).mono fun a σ1 h => (hr.e c h).mono fun b σ2 h => nk h)
 | _ => exact False.elim h
theorem xb (hr : aq T r n) (c : Ctx T X C) {ts : List Expr} {vs : List AV} {K : SS → Prop} (h : Bf r C ts vs σ K) : JAs X ts vs σ K := by
 induction ts using List.casesOn with
 | nil => induction vs using List.casesOn with
  | nil => exact we h
  | cons _ _ => exact False.elim h
 | cons t ts => induction vs using List.casesOn with
  | nil => exact False.elim h
  | cons v vs =>
   obtain ⟨g, h⟩ := Gd.out h
   exact ta (iw g) ((hr.a c h).mono fun σ1 h => hr.as c h)
theorem qQ (hr : aq T r n) (c : Ctx T X C) {ts : List Expr} {k : Nat} {tp pos : Pos} {value : Expr} {K : SF → SS → Prop} (h : t7 r C ts k tp value σ K) : JS X (.Assign [.Tuple ts k tp] value pos) σ K := by
 have other : sV value = false → Gd (!cA value) (r C (.e value σ fun v σ1 => r C (.a (.Tuple ts k tp) v σ1 fun σ2 => K .next σ2))) → JS X (.Assign [.Tuple ts k tp] value pos) σ K := fun ht h => by
  obtain ⟨g, h⟩ := h.out
  exact jh (ew (by simpa using g)) (lG ht) ((hr.e c h).mono fun v σ1 h => hr.a c h)
 induction value using Expr.casesOn with
 | Tuple vs k' vp =>
  replace h : (match jD C.names ts vs with | some ns => r C (.l vp vs σ fun l σ1 => Gd (Nat.beq ns.length l.length && Nat.ble l.length 1000) (jq C ns.reverse l.reverse σ1 fun σ2 => K .next σ2)) | none => False) := h
  generalize e : jD C.names ts vs = o at h
  induction o using Option.casesOn with
  | none => exact False.elim h
  | some ns =>
   rw [← c.ag.names] at e
   exact jG (ew rfl) (pn c.ok.kind e) ((hr.l c h).mono fun l σ1 h => h.mono fun h => kO c h)
 | _ => exact other rfl h
theorem pp (hr : aq T r n) (c : Ctx T X C) {x : Str} {px pos : Pos} {value : Expr} {K : SF → SS → Prop} (h : qD r C x px value σ K) : JS X (.Assign [.Name x px] value pos) σ K := by
 have other : Gd (!cA value) (r C (.e value σ fun v σ1 => h9 C x v σ1 fun σ2 => K .next σ2)) → JS X (.Assign [.Name x px] value pos) σ K := fun h => by
  obtain ⟨g, h⟩ := h.out
  exact jL (bG (by simpa using g)) ((hr.e c h).mono fun v σ1 h => gj c h)
 induction value using Expr.casesOn with
 | ListComp elt gens sc p =>
  refine hide fun Gz0 bk0 => ?_
  obtain ⟨g, h⟩ := Gd.out h
  obtain ⟨g, g3⟩ := Bool.and_eq_true_iff.mp g
  obtain ⟨g1, g2⟩ := Bool.and_eq_true_iff.mp g
  obtain ⟨y, py, iter, ifs, rfl, a1, a2, a3, a4, j⟩ := kB hr c h
  refine bk0 ?_; clear bk0 Gz0
  have hk : X.env.kindOf x = some .local := by
   rw [c.kind]
   generalize nlk x C.names = o at g1 ⊢
   induction o using Option.casesOn with
   | none => exact Bool.noConfusion g1
   | some k => induction k using NameKind.casesOn <;> first | rfl | exact Bool.noConfusion g1
  exact jX c.ok a1 a2 a3 a4 hk g2 (by simpa using g3) j
 | _ => exact other h
theorem wW (hr : aq T r n) (c : Ctx T X C) {t value : Expr} {pos : Pos} {K : SF → SS → Prop} (h : DP T r C t value σ K) : JS X (.Assign [t] value pos) σ K := by
 induction t using Expr.casesOn with
 | Name x px => exact pp hr c h
 | Tuple ts k tp => exact qQ hr c h
 | Attribute o attr p =>
  obtain ⟨g, h⟩ := Gd.out h
  exact jO (by simpa using g) ((hr.e c h).mono fun v σ1 h => (hr.e c h).mono fun a σ2 h => kZ c h)
 | Subscript o i p =>
  obtain ⟨g, h⟩ := Gd.out h
  exact k9 (by simpa using g) ((hr.e c h).mono fun v σ1 h => (hr.e c h).mono fun a σ2 h => (hr.e c h).mono fun b σ3 h => nk h)
 | _ => exact False.elim h
theorem kL {a : AV} {k k' : Int → Prop} (h : gW a k) (f : ∀ i, k i → k' i) : gW a k' := by
 induction a using AV.casesOn with
 | c => exact h
 | v x => induction x using SV.casesOn <;> first | exact f _ h | exact h
theorem xd (hr : aq T r n) (c : Ctx T X C) {t value : Expr} {op : Operator} {pos : Pos} {K : SF → SS → Prop} (h : Du T r C t op value σ K) : JS X (.AugAssign t op value pos) σ K := by
 induction t using Expr.casesOn with
 | Attribute o attr p => induction op using Operator.casesOn with
  | Add =>
   refine xR ((hr.e c h).mono fun a σ1 h => pX (K := fun old σ2 => JE X value σ2 fun v σ3 => gW old fun x => gW v fun y => kN X _ a (.v (.int (x + y))) σ3 fun σ4 => K .next σ4) c.ok (kc h fun Cc old g => ?_))
   obtain ⟨g, h⟩ := g.out
   obtain ⟨g1, g2⟩ := Bool.and_eq_true_iff.mp g
   refine ⟨c.tb.field _ _ g1, by simpa using g2, (hr.e c h).mono fun v σ3 h => ?_⟩
   exact kL h fun x h => kL h fun y h => kZ c (v := .v (.int (x + y))) h
  | _ => exact False.elim h
 | _ => exact False.elim h
theorem o9 {target iter e : Expr} {x : Str} {cpos : Pos} (h : uq target iter = some (x, cpos, e)) : ∃ ts k tp px, target = .Tuple ts k tp ∧ iter = .Call (.Name x px) [e] [] cpos := by
 have no : ∀ {P : Prop}, (none : Option (Str × Pos × Expr)) = some (x, cpos, e) → P := fun z => by cases z
 induction target using Expr.casesOn with
 | Tuple ts k tp => induction iter using Expr.casesOn with
  | Call f args kws cp => induction f using Expr.casesOn with
   | Name y py => induction args using List.casesOn with
    | nil => exact no h
    | cons e' args => induction args using List.casesOn with
     | cons _ _ => exact no h
     | nil => induction kws using List.casesOn with
      | cons _ _ => exact no h
      | nil =>
       replace h : (match Fast.sEq y "enumerate" with | true => some (y, cp, e') | false => none) = some (x, cpos, e) := h
       generalize Fast.sEq y "enumerate" = b at h
       induction b using Bool.casesOn with
       | true => injection h with h; injection h with h1 h2; injection h2 with h2 h3; subst h1 h2 h3; exact ⟨_, _, _, _, rfl, rfl⟩
       | false => exact no h
   | _ => exact no h
  | _ => exact no h
 | _ => exact no h
theorem vN (hr : aq T r n) (c : Ctx T X C) {target iter : Expr} {body : List Stmt} {pos : Pos} {K : SF → SS → Prop} (h : zE T r C target iter body σ K) : JS X (.For target iter body [] pos) σ K := by
 unfold zE at h
 generalize e : uq target iter = o at h
 induction o using Option.casesOn with
 | some p =>
  refine hide fun Gz0 bk0 => ?_
  obtain ⟨x, cpos, it⟩ := p
  obtain ⟨ts, k, tp, px, rfl, rfl⟩ := o9 e
  obtain ⟨g, h⟩ := Gd.out h
  refine bk0 ?_; clear bk0 Gz0
  refine pE c.ok g ((ez c h).mono fun fv σ1 h => ?_)
  induction fv using AV.casesOn with
  | c i => exact False.elim h
  | v x => induction x using SV.casesOn with
   | ty t => induction t using Ty.casesOn with
    | enumerate =>
     refine ⟨rfl, (hr.l c h).mono fun as σ2 h => ?_⟩
     unfold pV at h ⊢
     split at h
     ·exact hr X C _ c h.out
     ·exact h.elim
    | _ => exact False.elim h
   | _ => exact False.elim h
 | none =>
  obtain ⟨g, h⟩ := Gd.out h
  refine uQ c.ok (gY (by simpa using g) _) ((hr.e c h).mono fun a σ1 h => ?_)
  obtain ⟨its, hi, h⟩ := oj (σ := σ1) c h
  exact ⟨its, hi, hr X C _ c h.out⟩
theorem zj (hr : aq T r n) (c : Ctx T X C) {e : Stmt} {K : SF → SS → Prop} (h : stS T r C e σ K) : JS X e σ K := by
 induction e using Stmt.casesOn with
 | Expr e p =>
  obtain ⟨g, h⟩ := Gd.out h
  exact kY (aY c.ok) (bG (by simpa using g)) (hr.e c h)
 | Return o p => induction o using Option.casesOn with
  | none => exact False.elim h
  | some e => exact rL (hr.e c h)
 | If t a b p => exact BW ((hr.t c h).mono fun t σ1 h => h.mono (hr.b c) (hr.b c))
 | Assign ts value p => induction ts using List.casesOn with
  | nil => exact False.elim h
  | cons t ts => induction ts using List.casesOn with
   | nil => exact wW hr c h
   | cons _ _ => exact False.elim h
 | AugAssign t op value p => exact xd hr c h
 | For target iter body orelse p => induction orelse using List.casesOn with
  | nil => exact vN hr c h
  | cons _ _ => exact False.elim h
 | While test body orelse p => induction orelse using List.casesOn with
  | nil => exact s7 n (hr X C _ c (bh.out h))
  | cons _ _ => exact False.elim h
 | Try body hs orelse final p => induction hs using List.casesOn with
  | nil => exact False.elim h
  | cons a hs => induction orelse using List.casesOn with
   | cons _ _ => exact False.elim h
   | nil => induction final using List.casesOn with
    | nil => exact yH (hr.b c h)
    | cons _ _ => exact False.elim h
 | Pass p => exact fun ow ρ s S Q E q => wpAny_Pass (q _ _ σ ow ρ s.heap s.toks .refl S .next h)
 | _ => exact False.elim h
theorem zK (hr : aq T r n) (c : Ctx T X C) {target : Expr} {body : List Stmt} {its : List SV} {K : SF → SS → Prop} (h : stF r C target body its σ K) : jB X target body its σ K := by
 induction its using List.casesOn with
 | nil => exact h
 | cons d its =>
  refine (hr.a c h).mono fun σ1 h => (hr.b c h).mono fun f σ2 h => ?_
  induction f using SF.casesOn
  ·exact hr X C _ c h
  ·exact h
  ·exact hr X C _ c h
  ·exact h
theorem yQ (hr : aq T r n) (c : Ctx T X C) {test : Expr} {body : List Stmt} {K : SF → SS → Prop} (h : stW r C test body σ K) : JWh X test body (n + 1) σ K := by
 refine (hr.t c h).mono fun b σ1 h => h.mono (fun h => (hr.b c h).mono fun f σ2 h => ?_) id
 induction f using SF.casesOn
 ·exact hr X C _ c h
 ·exact h
 ·exact hr X C _ c h
 ·exact h
theorem yO (hr : aq T r n) (c : Ctx T X C) {x : Str} {ifs : List Expr} {elt : Expr} {its acc : List SV} {cel : List aa} {K : List SV → List aa → Prop} (h : stC r C x ifs elt its acc cel K) : gA X x ifs elt its acc cel K := by
 induction its using List.casesOn with
 | nil => exact h
 | cons d ds =>
  have fin : ∀ b σ1, Br b (r C (.e elt σ1 fun v σ2 => asV v fun sv => r C (.c x ifs elt ds (acc ++ [sv]) σ2.cel K))) (r C (.c x ifs elt ds acc σ1.cel K)) → Br b (JE X elt σ1 fun v σ2 => asV v fun sv => gA X x ifs elt ds (acc ++ [sv]) σ2.cel K) (gA X x ifs elt ds acc σ1.cel K) := fun b σ1 h => h.mono (fun h => (hr.e c h).mono fun v σ2 h => by
   obtain ⟨sv, rfl, h'⟩ := bj h
   exact hr X C _ c h') (fun h => hr X C _ c h)
  induction ifs using List.casesOn with
  | nil => exact fin true ⟨[(x, .v d)], cel⟩ h
  | cons t ts => induction ts using List.casesOn with
   | nil => exact (hr.t c h).mono fin
   | cons _ _ => exact False.elim h
theorem wy (hr : aq T r n) (c : Ctx T X C) (t : Tk) (h : step T r C t) : t.sound X (n + 1) := by
 induction t using Tk.casesOn with
 | e e σ K => exact y7 hr c h
 | t e σ K => exact zF hr c h
 | tl op es σ K => exact wE hr c h
 | l pos es σ K => exact zx hr c h
 | s st σ K => exact zj hr c h
 | b sts σ K => exact zm hr c h
 | a t v σ K => exact zT hr c h
 | as ts vs σ K => exact xb hr c h
 | f target body its σ K => exact zK hr c h
 | w test body σ K => exact yQ hr c h
 | c x ifs elt its acc cel K => exact yO hr c h
theorem ai (T : Tb) : ∀ n, aq T (run T n) n
 | 0 => fun X C t c h => h.elim
 | n + 1 => fun X C t c h => wy (ai T n) c t h
end
end
section
theorem aj.of_run {w : World} {f : Addr} {D U : Nat} {sp : Spec} {qual : Str} {params : Arguments} {body : List Stmt} {sc : Scope} {ns : List Str} {T : Tb} (mu : List Nat) (N : Nat)
  (hf : gZ w f qual params body sc) (hb : Bnd params ns)
  (hc : dq sc ns)
  (hlen : ∀ as cel K, sp as cel K → as.length = ns.length) (tb : iy w D U T) (hU : 10 ≤ U)
  (h : ∀ (as : List AV) (cel : List aa) (K : SV → List aa → Prop), sp as cel K → run T N ⟨sc.names, gk cel.length (c8 sc), mu, false⟩ (.b body (aR sc ns as cel) (oS cel.length K))) : aj w f (D + 1) (U + 3) sp :=
 aj.of_body hf hb hc hlen fun X as cel K O hw hD hU' ag hsp => ai T N X _ (.b body _ _) ⟨O, ⟨ag.names, ag.vid, fun _ => ag.comp, aY O⟩, by rw [hw, hD, hU']; exact tb, by rw [hU']; exact hU⟩ (h as cel K hsp)
noncomputable def vO (f : Addr) : Option FuncData := match (tp.heap_1 (aWorld 0).params).lookup f with
 | some ⟨_, _, .func fd, _⟩ => some fd
 | _ => none
end
section
noncomputable def bd (f : Addr) : List Stmt := match vO f with
 | some fd => (match fd.body with | .stmts b => b | _ => [])
 | none => []
noncomputable def scp (f : Addr) : Scope := match vO f with
 | some fd => fd.scope
 | none => ⟨.module, [], false, false, []⟩
noncomputable def prm (f : Addr) : Arguments := match vO f with
 | some fd => fd.params
 | none => ⟨[], [], none, [], [], none, []⟩
noncomputable def qul (f : Addr) : Str := match vO f with
 | some fd => fd.qualname
 | none => ""
noncomputable abbrev cy (f : Addr) (w : World) (n : Nat) (mu : List Nat) : Ct := ⟨(scp f).names, gk n (c8 (scp f)), mu, false⟩
noncomputable abbrev aD (f : Addr) (w : World) : Prop := gZ w f (qul f) (prm f) (bd f) (scp f)
noncomputable abbrev Rn (sp : Spec) (T : Tb) (N : Nat) (f : Addr) (mu : List Nat) (ns : List Str) (w : World) : Prop := ∀ (as : List AV) (cel : List aa) (K : SV → List aa → Prop), sp as cel K → run T N (cy f w cel.length mu) (.b (bd f) (aR (scp f) ns as cel) (oS cel.length K))
noncomputable abbrev bA (p : Arguments) (fd : FuncData) (vs : List Value) : Sem (List (Str × Value)) := bindArgs { fd with params := p, defaults := .none, kwdefaults := .none } ⟨vs, []⟩
theorem bnd {p : Arguments} {ns : List Str} (h : ∀ fd vs, vs.length = ns.length → bA p fd vs = pure (ns.zip vs)) : Bnd p ns := fun fd vs h1 h2 h3 hl => by
 have := h fd vs hl
 rw [← this]
 obtain ⟨name, qual, params, body, scope, globals, closure, defaults, kwdefaults⟩ := fd
 dsimp only at h1 h2 h3
 subst h1 h2 h3
 rfl
theorem ey {α : Type} {vs : List α} {n : Nat} (h : vs.length = n + 1) : ∃ v r, vs = v :: r ∧ r.length = n := by
 induction vs using List.casesOn with
 | nil => exact absurd h.symm (Nat.succ_ne_zero n)
 | cons v r => exact ⟨v, r, rfl, Nat.succ.inj h⟩
theorem Ef {p : Arguments} (h : ∀ fd, bA p fd [] = pure (([] : List Str).zip [])) : Bnd p [] := bnd fun fd vs hl => by
 obtain rfl := List.length_eq_zero_iff.mp hl
 exact h fd
theorem b7 {p : Arguments} {a : Str} (h : ∀ fd v, bA p fd [v] = pure ([a].zip [v])) : Bnd p [a] := bnd fun fd vs h0 => by
 obtain ⟨v, r1, rfl, h1⟩ := ey h0
 obtain rfl := List.length_eq_zero_iff.mp h1
 exact h fd v
theorem dG {p : Arguments} {a b : Str} (h : ∀ fd v w, bA p fd [v, w] = pure ([a, b].zip [v, w])) : Bnd p [a, b] := bnd fun fd vs h0 => by
 obtain ⟨v, r1, rfl, h1⟩ := ey h0
 obtain ⟨w, r2, rfl, h2⟩ := ey h1
 obtain rfl := List.length_eq_zero_iff.mp h2
 exact h fd v w
theorem rq {p : Arguments} {a b c : Str} (h : ∀ fd v w x, bA p fd [v, w, x] = pure ([a, b, c].zip [v, w, x])) : Bnd p [a, b, c] := bnd fun fd vs h0 => by
 obtain ⟨v, r1, rfl, h1⟩ := ey h0
 obtain ⟨w, r2, rfl, h2⟩ := ey h1
 obtain ⟨x, r3, rfl, h3⟩ := ey h2
 obtain rfl := List.length_eq_zero_iff.mp h3
 exact h fd v w x
theorem AS {p : Arguments} {a b c d : Str} (h : ∀ fd v w x y, bA p fd [v, w, x, y] = pure ([a, b, c, d].zip [v, w, x, y])) : Bnd p [a, b, c, d] := bnd fun fd vs h0 => by
 obtain ⟨v, r1, rfl, h1⟩ := ey h0
 obtain ⟨w, r2, rfl, h2⟩ := ey h1
 obtain ⟨x, r3, rfl, h3⟩ := ey h2
 obtain ⟨y, r4, rfl, h4⟩ := ey h3
 obtain rfl := List.length_eq_zero_iff.mp h4
 exact h fd v w x y
theorem aj.at {w : World} (f : Addr) {D U : Nat} {sp : Spec} {ns : List Str} {T : Tb} (mu : List Nat) (N : Nat)
  (hf : aD f w) (hb : Bnd (prm f) ns)
  (hc : dq (scp f) ns)
  (hlen : ∀ as cel K, sp as cel K → as.length = ns.length) (tb : iy w D U T) (hU : 10 ≤ U)
  (h : Rn sp T N f mu ns w) : aj w f (D + 1) (U + 3) sp :=
 aj.of_run mu N hf hb hc hlen tb hU h
inductive nJ (p : Int → (SV → Prop) → Prop) : List AV → List aa → (SV → List aa → Prop) → Prop
 | mk {n : Int} {K : SV → List aa → Prop} (_ : p n fun v => K v []) : nJ p [.v (.int n)] [] K
noncomputable def lu : Spec := nJ fun n k => 0 ≤ n ∧ n < 4611686018427387904 ∧ ((n < 64 → k (.int 1)) ∧ (64 ≤ n → n < 16384 → k (.int 2)) ∧ (16384 ≤ n → n < 1073741824 → k (.int 4)) ∧ (1073741824 ≤ n → k (.int 8)))
noncomputable def T0 : Tb := { glob := [("VARINT_SIZES", .tup [.int 1, .int 2, .int 4, .int 8])], fn := [], field := [], meth := [] }
theorem E5 (w : World) : aD 83 w := ⟨_, _, _, _, _, _, _, _, _, rfl, by kernel_rfl⟩
theorem zO (w : World) : Bnd (prm 83) ["n"] := b7 fun _ _ => by kernel_rfl
theorem iu (w : World) : Rn lu T0 200 83 [] ["n"] w := fun as cel K h => by
 obtain ⟨h0, h1, k1, k2, k3, k4⟩ := h
 apply bh.mk
 refine Br.intro (fun h => ?_) (fun h => absurd h (by simp; omega))
 refine Br.intro (fun h => ?_) (fun h => ?_)
 ·exact k1 (by simp at h; omega)
 refine Br.intro (fun h => ?_) (fun h => absurd h (by simp; omega))
 refine Br.intro (fun h => ?_) (fun h => ?_)
 ·exact k2 (by simp at *; omega) (by simp at *; omega)
 refine Br.intro (fun h => ?_) (fun h => absurd h (by simp; omega))
 refine Br.intro (fun h => ?_) (fun h => ?_)
 ·exact k3 (by simp at *; omega) (by simp at *; omega)
 refine Br.intro (fun h => ?_) (fun h => absurd h (by simp; omega))
 refine Br.intro (fun h => ?_) (fun h => absurd h (by simp; omega))
 exact k4 (by simp at *; omega)
end
section
noncomputable def zJ : List Str := ["bytearray", "put_whole", "put_varint", "put_numbers", "put_counted", "put_ack", "put_stream", "put_new_cid", "put_close", "put_octets_frame", "put_frame", "put_frames", "frame_size", "_law_packet_right"]
noncomputable def C8 (x : Str) : List Str → Bool
 | [] => false
 | y :: r => match Fast.sEq x y with
  | true => true
  | false => C8 x r
noncomputable def db : Nat → Expr → Bool
 | 0, _ => false
 | n + 1, e => exC false (e := e)
  (call := fun f args _ _ => exC false (e := f) (name := fun x _ => C8 x zJ) || args.any (db n))
  (bin := fun l _ r _ => db n l || db n r)
  (cmp := fun l _ rs _ => db n l || rs.any (db n))
  (bool := fun _ vs _ => vs.any (db n))
  (un := fun _ x _ => db n x)
  (ife := fun t a b _ => db n t || db n a || db n b)
  (lc := fun elt _ _ _ => db n elt)
  (tup := fun es _ _ => es.any (db n))
  (lst := fun es _ => es.any (db n))
  (sub := fun v _ _ => db n v)
inductive TkG where
 | e (e : Expr) (σ : SS) (K : AV → SS → Prop)
 | t (e : Expr) (σ : SS) (K : Bool → SS → Prop)
 | tl (op : BoolOp) (es : List Expr) (σ : SS) (K : Bool → SS → Prop)
 | l (pos : Pos) (es : List Expr) (σ : SS) (K : List AV → SS → Prop)
 | s (st : Stmt) (σ : SS) (K : SF → SS → Prop)
 | b (sts : List Stmt) (σ : SS) (K : SF → SS → Prop)
 | c (x : Str) (elt : Expr) (its acc : List SV) (cel : List aa) (K : List SV → List aa → Prop)
noncomputable abbrev dF := Ct → TkG → Prop
noncomputable def pC (T : Tb) (rg : dF) (C : Ct) (fv : AV) (pos : Pos) (args : List Expr) (σ : SS) (K : AV → SS → Prop) : Prop := match fv with
 | .v (.ref f) => (match fnk f T.fnG with
  | some sp => rg C (.l pos args σ fun as σ2 => eC sp as σ2 K)
  | none => (match fnk f T.fn with
   | some sp => rg C (.l pos args σ fun as σ2 => eC sp as σ2 K)
   | none => False))
 | .v (.bi b) => rg C (.l pos args σ fun as σ2 => biD b as fun v => K (.v v) σ2)
 | .v (.ty .bytearray) => rg C (.l pos args σ fun as σ2 => baD as σ2 K)
 | _ => False
noncomputable def AD (rg : dF) (C : Ct) (name : Str) (a : AV) (pos : Pos) (args : List Expr) (σ : SS) (K : AV → SS → Prop) : Prop := match a with
 | .v (.bytes []) => Gd (Fast.sEq name "join") (rg C (.l pos args σ fun as σ2 => ti as fun v => K (.v v) σ2))
 | _ => False
noncomputable def xY (T : Tb) (r : Run) (rg : dF) (C : Ct) (f : Expr) (args : List Expr) (pos : Pos) (σ : SS) (K : AV → SS → Prop) : Prop := exC False (e := f)
 (name := fun x _ => Gd (az args && ci args) (i4 T C x σ fun fv σ1 => pC T rg C fv pos args σ1 K))
 (att := fun o name apos => Gd (mOk args apos pos && gH o && ci args) (r C (.e o σ fun a σ1 => AD rg C name a pos args σ1 K)))
noncomputable def yF (r : Run) (rg : dF) (C : Ct) (elt : Expr) (gens : List Comprehension) (sc : Scope) (σ : SS) (K : List SV → SS → Prop) : Prop := match gens with
 | [g] => exC False (e := g.target) (name := fun x _ => match g.ifs with
  | [] => Gd (!C.comp && d7 sc x && cG sc.names C.vid && decide (g.is_async = 0) && !lZ g.iter) (r C (.e g.iter σ fun a σ1 => itD a fun its => Gd (Nat.ble its.length 16384) (bh (rg (l0 C sc) (.c x elt its [] σ1.cel fun acc cel => K acc ⟨σ1.loc, cel⟩)))))
  | _ => False)
 | _ => False
noncomputable def DV (r : Run) (rg : dF) (C : Ct) (l : Expr) (ops : List CmpOp) (rs : List Expr) (σ : SS) (K : AV → SS → Prop) : Prop := match ops, rs with
 | [op], [x] => Gd (!behindInMarks op x) (rg C (.e l σ fun a σ1 => rg C (.e x σ1 fun b σ2 => iK op a b fun v => K (.v v) σ2)))
 | _, _ => False
noncomputable def gOr (rg : dF) (C : Ct) (op : BoolOp) (vs : List Expr) (σ : SS) (K : AV → SS → Prop) : Prop := match op, vs with
 | .Or, [a, b] => rg C (.e a σ fun v σ1 => dy v fun c => Br c (K v σ1) (rg C (.e b σ1 K)))
 | _, _ => False
noncomputable def gE1 (T : Tb) (r : Run) (rg : dF) (C : Ct) (e : Expr) (σ : SS) (K : AV → SS → Prop) : Prop := exC False (e := e)
 (bin := fun l op x _ => rg C (.e l σ fun a σ1 => rg C (.e x σ1 fun b σ2 => y0 op a b fun v => K (.v v) σ2)))
 (cmp := fun l ops rs _ => DV r rg C l ops rs σ K)
 (ife := fun t a b _ => rg C (.t t σ fun c σ1 => Br c (rg C (.e a σ1 K)) (rg C (.e b σ1 K))))
 (bool := fun op vs _ => gOr rg C op vs σ K)
 (call := fun f args kws pos => match kws with | [] => xY T r rg C f args pos σ K | _ => False)
 (lc := fun elt gens sc _ => yF r rg C elt gens sc σ fun acc σ1 => K (.v (.lst acc)) σ1)
noncomputable def gE (T : Tb) (r : Run) (rg : dF) (C : Ct) (e : Expr) (σ : SS) (K : AV → SS → Prop) : Prop := match db 12 e with
 | false => r C (.e e σ K)
 | true => gE1 T r rg C e σ K
noncomputable def sS (rg : dF) (C : Ct) (l : Expr) (ops : List CmpOp) (rs : List Expr) (σ : SS) (K : Bool → SS → Prop) : Prop := match ops, rs with
 | [op], [x] => Gd (!behindInMarks op x) (rg C (.e l σ fun a σ1 => rg C (.e x σ1 fun b σ2 => iK op a b fun c => dy (.v c) fun t => K t σ2)))
 | _, _ => False
noncomputable def gT1 (r : Run) (rg : dF) (C : Ct) (e : Expr) (σ : SS) (K : Bool → SS → Prop) : Prop := exC (Gd (fT e) (rg C (.e e σ fun v σ1 => dy v fun b => K b σ1))) (e := e)
 (un := fun op x _ => match s6 op with
   | true => rg C (.t x σ fun b σ1 => K (!b) σ1)
   | false => Gd (fT e) (rg C (.e e σ fun v σ1 => dy v fun b => K b σ1)))
 (bool := fun op vs _ => rg C (.tl op vs σ K))
 (cmp := fun l ops rs _ => sS rg C l ops rs σ K)
noncomputable def gT (r : Run) (rg : dF) (C : Ct) (e : Expr) (σ : SS) (K : Bool → SS → Prop) : Prop := match db 12 e with
 | false => r C (.t e σ K)
 | true => gT1 r rg C e σ K
noncomputable def gTL (r : Run) (rg : dF) (C : Ct) (op : BoolOp) (es : List Expr) (σ : SS) (K : Bool → SS → Prop) : Prop := match es with
 | [] => r C (.tl op [] σ K)
 | x :: rest => rg C (.t x σ fun b σ1 => match op with | .And => Br b (rg C (.tl op rest σ1 K)) (K false σ1) | .Or => Br b (K true σ1) (rg C (.tl op rest σ1 K)))
noncomputable def gL (rg : dF) (C : Ct) (pos : Pos) (es : List Expr) (σ : SS) (K : List AV → SS → Prop) : Prop := match es with
 | [] => K [] σ
 | e :: es => Gd (az (e :: es)) (rg C (.e e σ fun a σ1 => rg C (.l pos es σ1 fun as σ2 => K (a :: as) σ2)))
noncomputable def gB (rg : dF) (C : Ct) (sts : List Stmt) (σ : SS) (K : SF → SS → Prop) : Prop := match sts with
 | [] => K .next σ
 | st :: rest => rg C (.s st σ fun f σ1 => pe σ1 fun σ1 => match f with | .next => rg C (.b rest σ1 K) | f => K f σ1)
noncomputable def zp (r : Run) (rg : dF) (C : Ct) (ts : List Expr) (value : Expr) (pos : Pos) (σ : SS) (K : SF → SS → Prop) : Prop := match db 12 value with
 | false => r C (.s (.Assign ts value pos) σ K)
 | true => (match ts with
  | [t] => exC False (e := t) (name := fun x _ => Gd (!cA value) (rg C (.e value σ fun v σ1 => h9 C x v σ1 fun σ2 => K .next σ2)))
  | _ => False)
noncomputable def gS (r : Run) (rg : dF) (C : Ct) (st : Stmt) (σ : SS) (K : SF → SS → Prop) : Prop := smC (r C (.s st σ K)) (s := st)
 (ret := fun o => match o with | some e => rg C (.e e σ fun v σ1 => K (.ret v) σ1) | none => r C (.s st σ K))
 (if_ := fun t a b => rg C (.t t σ fun c σ1 => Br c (rg C (.b a σ1 K)) (rg C (.b b σ1 K))))
 (asg := fun ts value pos => zp r rg C ts value pos σ K)
noncomputable def gC (rg : dF) (C : Ct) (x : Str) (elt : Expr) (its acc : List SV) (cel : List aa) (K : List SV → List aa → Prop) : Prop := match its with
 | [] => K acc cel
 | d :: ds => rg C (.e elt ⟨[(x, .v d)], cel⟩ fun v σ2 => asV v fun sv => rg C (.c x elt ds (acc ++ [sv]) σ2.cel K))
noncomputable def x7 (T : Tb) (r : Run) (rg : dF) (C : Ct) (t : TkG) : Prop := match t with
 | .e e σ K => gE T r rg C e σ K
 | .t e σ K => gT r rg C e σ K
 | .tl op es σ K => gTL r rg C op es σ K
 | .l pos es σ K => gL rg C pos es σ K
 | .s st σ K => gS r rg C st σ K
 | .b sts σ K => gB rg C sts σ K
 | .c x elt its acc cel K => gC rg C x elt its acc cel K
noncomputable def jT (T : Tb) : Nat → dF
 | 0 => fun _ _ => False
 | n + 1 => fun C t => x7 T (run T n) (jT T n) C t
noncomputable def TkG.sound (X : Fx) : TkG → Prop
 | .e x σ K => JEG X x σ K
 | .t x σ K => JTG X x σ K
 | .tl op es σ K => mU X op es σ K
 | .l pos es σ K => JLG X pos es σ K
 | .s st σ K => JSG X st σ K
 | .b sts σ K => JBG X sts σ K
 | .c x elt its acc cel K => nY X x elt its acc cel K
noncomputable abbrev bo (T : Tb) (rg : dF) : Prop := ∀ X C t, Ctx T X C → rg C t → t.sound X
section
variable {X : Fx} {σ : SS} {T : Tb} {C : Ct} {r : Run} {rg : dF} {n : Nat}
theorem bo.e (hr : bo T rg) (c : Ctx T X C) {e : Expr} {K : AV → SS → Prop} (h : rg C (.e e σ K)) : JEG X e σ K := hr X C _ c h
theorem bo.t (hr : bo T rg) (c : Ctx T X C) {e : Expr} {K : Bool → SS → Prop} (h : rg C (.t e σ K)) : JTG X e σ K := hr X C _ c h
theorem bo.tl (hr : bo T rg) (c : Ctx T X C) {op : BoolOp} {e : List Expr} {K : Bool → SS → Prop} (h : rg C (.tl op e σ K)) : mU X op e σ K := hr X C _ c h
theorem bo.l (hr : bo T rg) (c : Ctx T X C) {p : Pos} {e : List Expr} {K : List AV → SS → Prop} (h : rg C (.l p e σ K)) : JLG X p e σ K := hr X C _ c h
theorem bo.s (hr : bo T rg) (c : Ctx T X C) {e : Stmt} {K : SF → SS → Prop} (h : rg C (.s e σ K)) : JSG X e σ K := hr X C _ c h
theorem bo.b (hr : bo T rg) (c : Ctx T X C) {e : List Stmt} {K : SF → SS → Prop} (h : rg C (.b e σ K)) : JBG X e σ K := hr X C _ c h
theorem sI (c : Ctx T X C) {f : Addr} {sp : Spec} (hf : fnk f T.fnG = some sp) {as : List AV} {K : AV → SS → Prop} (h : eC sp as σ K) : bU X (.ref f) as σ K := by
 obtain ⟨⟨D', U', fo, h1, h2⟩, _⟩ := c.tb.fnG f sp hf
 exact ru c.ok fo h1 h2 h
theorem qO (hr : bo T rg) (c : Ctx T X C) {fv : AV} {pos : Pos} {args : List Expr} {K : AV → SS → Prop} (h : pC T rg C fv pos args σ K) : uY X pos args fv σ K := by
 unfold pC at h
 induction fv using AV.casesOn with
 | c i => exact False.elim h
 | v x => induction x using SV.casesOn with
  | ref f =>
   dsimp only at h
   generalize e : fnk f T.fnG = o at h
   induction o using Option.casesOn with
   | some sp => exact ⟨(c.tb.fnG _ sp e).2, (hr.l c h).mono fun as σ2 h => sI c e h⟩
   | none =>
    dsimp only at h
    generalize e : fnk f T.fn = o at h
    induction o using Option.casesOn with
    | some sp => exact ⟨(c.tb.fn _ sp e).2, (hr.l c h).mono fun as σ2 h => .of (gu c e h)⟩
    | none => exact False.elim h
  | bi id => exact (hr.l c h).mono fun as σ2 h => .of (t9 c.ok h)
  | ty t => induction t using Ty.casesOn with
   | bytearray => exact (hr.l c h).mono fun as σ2 h => zr h
   | _ => exact False.elim h
  | _ => exact False.elim h
theorem tJ (hr : aq T r n) (hg : bo T rg) (c : Ctx T X C) {f : Expr} {args : List Expr} {pos : Pos} {K : AV → SS → Prop} (h : xY T r rg C f args pos σ K) : JEG X (.Call f args [] pos) σ K := by
 induction f using Expr.casesOn with
 | Name x p =>
  obtain ⟨g, h⟩ := Gd.out h
  obtain ⟨g1, g2⟩ := Bool.and_eq_true_iff.mp g
  induction args using List.casesOn with
  | nil => exact Bool.noConfusion g2
  | cons e args => exact u4 g1 ((ez c h).mono fun fv σ1 h => qO hg c h)
 | Attribute o name apos =>
  obtain ⟨g, h⟩ := Gd.out h
  obtain ⟨g, g3⟩ := Bool.and_eq_true_iff.mp g
  obtain ⟨g1, g2⟩ := Bool.and_eq_true_iff.mp g
  induction args using List.casesOn with
  | nil => exact Bool.noConfusion g3
  | cons e args =>
   refine sh g2 g1 ((hr.e c h).mono fun a σ1 h => ?_)
   induction a using AV.casesOn with
   | c i => exact False.elim h
   | v x => induction x using SV.casesOn with
    | bytes l => induction l using List.casesOn with
     | nil =>
      obtain ⟨g, h⟩ := Gd.out h
      obtain rfl := Fast.sEq_iff.mp g
      exact ⟨"bytes.join", nR, (hg.l c h).mono fun as σ2 h => .of (mB h)⟩
     | cons _ _ => exact False.elim h
    | _ => exact False.elim h
 | _ => exact False.elim h
theorem tR {l : Expr} {ops : List CmpOp} {rs : List Expr} {K : AV → SS → Prop} (h : DV r rg C l ops rs σ K) : ∃ op x, ops = [op] ∧ rs = [x] ∧ behindInMarks op x = false ∧ rg C (.e l σ fun a σ1 => rg C (.e x σ1 fun b σ2 => iK op a b fun v => K (.v v) σ2)) := by
 induction ops using List.casesOn with
 | nil => exact False.elim h
 | cons op ops => induction ops using List.casesOn with
  | cons _ _ => exact False.elim h
  | nil => induction rs using List.casesOn with
   | nil => exact False.elim h
   | cons x rs => induction rs using List.casesOn with
    | cons _ _ => exact False.elim h
    | nil => exact ⟨op, x, rfl, rfl, by simpa using (Gd.out h).1, (Gd.out h).2⟩
theorem oK {l : Expr} {ops : List CmpOp} {rs : List Expr} {K : Bool → SS → Prop} (h : sS rg C l ops rs σ K) : ∃ op x, ops = [op] ∧ rs = [x] ∧ behindInMarks op x = false ∧ rg C (.e l σ fun a σ1 => rg C (.e x σ1 fun b σ2 => iK op a b fun c => dy (.v c) fun t => K t σ2)) := by
 induction ops using List.casesOn with
 | nil => exact False.elim h
 | cons op ops => induction ops using List.casesOn with
  | cons _ _ => exact False.elim h
  | nil => induction rs using List.casesOn with
   | nil => exact False.elim h
   | cons x rs => induction rs using List.casesOn with
    | cons _ _ => exact False.elim h
    | nil => exact ⟨op, x, rfl, rfl, by simpa using (Gd.out h).1, (Gd.out h).2⟩
theorem ur (hr : aq T r n) (hg : bo T rg) (c : Ctx T X C) {elt : Expr} {gens : List Comprehension} {sc : Scope} {p : Pos} {K : AV → SS → Prop} (h : yF r rg C elt gens sc σ fun acc σ1 => K (.v (.lst acc)) σ1) : JEG X (.ListComp elt gens sc p) σ K := by
 induction gens using List.casesOn with
 | nil => exact False.elim h
 | cons g gs =>
  obtain ⟨t, iter, ifs, isa⟩ := g
  induction gs using List.casesOn with
  | cons _ _ => exact False.elim h
  | nil =>
   refine hide fun Gz0 bk0 => ?_
   obtain ⟨x, px, rfl, h⟩ := nh h
   induction ifs using List.casesOn with
   | cons _ _ => exact False.elim h
   | nil =>
    obtain ⟨g, h'⟩ := Gd.out h
    obtain ⟨g, g5⟩ := Bool.and_eq_true_iff.mp g
    obtain ⟨g, g4⟩ := Bool.and_eq_true_iff.mp g
    obtain ⟨g, g3⟩ := Bool.and_eq_true_iff.mp g
    obtain ⟨g1, g2⟩ := Bool.and_eq_true_iff.mp g
    have hisa : isa = 0 := of_decide_eq_true g4
    subst hisa
    refine bk0 (lb c.ok (c.ag.comp (by simpa using g1)) g2 (by rw [c.ag.vid]; exact g3) (gY (by simpa using g5) _) ((hr.e c h').mono fun a σ1 h => ?_))
    obtain ⟨its, hi, h⟩ := oj (σ := σ1) c h
    obtain ⟨g, h⟩ := h.out
    exact ⟨its, hi, Nat.le_of_ble_eq_true g, fun X' ic => hg X' _ _ (mC c ic) h.out⟩
theorem Dt (hr : aq T r n) (hg : bo T rg) (c : Ctx T X C) {e : Expr} {K : AV → SS → Prop} (h : gE T r rg C e σ K) : JEG X e σ K := by
 have e1 : (match db 12 e with | false => r C (.e e σ K) | true => gE1 T r rg C e σ K) := h
 clear h
 generalize db 12 e = b at e1
 induction b using Bool.casesOn with
 | false => exact .of (hr.e c e1)
 | true =>
  have h : gE1 T r rg C e σ K := e1
  clear e1
  induction e using Expr.casesOn with
  | BinOp l op x p => exact rJ ((hg.e c h).mono fun a σ1 h => (hg.e c h).mono fun b σ2 h => ql c.ok h)
  | Compare l ops rs p =>
   obtain ⟨op, x, rfl, rfl, g, h⟩ := tR (r := r) h
   exact mz g ((hg.e c h).mono fun a σ1 h => (hg.e c h).mono fun b σ2 h => dY c.ok c.u h)
  | IfExp t a b p => exact rE ((hg.t c h).mono fun t σ1 h => h.mono (hg.e c) (hg.e c))
  | BoolOp op vs p => induction op using BoolOp.casesOn with
   | And => exact False.elim h
   | Or => induction vs using List.casesOn with
    | nil => exact False.elim h
    | cons a vs => induction vs using List.casesOn with
     | nil => exact False.elim h
     | cons b vs => induction vs using List.casesOn with
      | cons _ _ => exact False.elim h
      | nil => exact wH ((hg.e c h).mono fun v σ1 k => (cJ (K := fun b σ1 => Br b (K v σ1) (rg C (.e _ σ1 K))) k).mono fun b σ2 k => k.mono (fun k => ⟨rfl, k⟩) (fun k => hg.e c k))
  | Call f args kws p => induction kws using List.casesOn with
   | nil => exact tJ hr hg c h
   | cons _ _ => exact False.elim h
  | ListComp elt gens sc p => exact ur hr hg c h
  | _ => exact False.elim h
theorem Dw (hr : aq T r n) (hg : bo T rg) (c : Ctx T X C) {e : Expr} {K : Bool → SS → Prop} (h : gT r rg C e σ K) : JTG X e σ K := by
 have e1 : (match db 12 e with | false => r C (.t e σ K) | true => gT1 r rg C e σ K) := h
 clear h
 generalize db 12 e = b at e1
 induction b using Bool.casesOn with
 | false => exact .of (hr.t c e1)
 | true =>
  have h : gT1 r rg C e σ K := e1
  clear e1
  have other : Gd (fT e) (rg C (.e e σ fun v σ1 => dy v fun b => K b σ1)) → JTG X e σ K := fun h => by
   obtain ⟨g, h⟩ := h.out
   exact rR ((hg.e c h).mono fun v σ1 k => cJ k) (kP g _)
  induction e using Expr.casesOn with
  | UnaryOp op x p => induction op using UnaryOp.casesOn with
   | Not => exact xy (hg.t c h)
   | _ => exact other h
  | BoolOp op vs p => exact oP (hg.tl c h)
  | Compare l ops rs p =>
   obtain ⟨op, x, rfl, rfl, g, h⟩ := oK h
   exact mO g ((hg.e c h).mono fun a σ1 h => (hg.e c h).mono fun b σ2 h => (dY (K := fun v σ' => dy v fun t => K t σ') c.ok c.u h).mono fun v σ' k => cJ k)
  | _ => exact other h
theorem BK (hr : aq T r n) (hg : bo T rg) (c : Ctx T X C) {st : Stmt} {K : SF → SS → Prop} (h : gS r rg C st σ K) : JSG X st σ K := by
 induction st using Stmt.casesOn with
 | Return o p => induction o using Option.casesOn with
  | none => exact .of (hr.s c h)
  | some e => exact pN (hg.e c h)
 | If t a b p => exact yZ ((hg.t c h).mono fun t σ1 h => h.mono (hg.b c) (hg.b c))
 | Assign ts value p =>
  replace h : zp r rg C ts value p σ K := h
  unfold zp at h
  generalize db 12 value = b at h
  induction b using Bool.casesOn with
  | false => exact .of (hr.s c h)
  | true => induction ts using List.casesOn with
   | nil => exact False.elim h
   | cons t ts => induction ts using List.casesOn with
    | cons _ _ => exact False.elim h
    | nil => induction t using Expr.casesOn with
     | Name x px =>
      obtain ⟨g, h⟩ := Gd.out h
      exact jk (bG (by simpa using g)) ((hg.e c h).mono fun v σ1 h => gj c h)
     | _ => exact False.elim h
 | _ => exact .of (hr.s c h)
theorem ux (hr : aq T r n) (hg : bo T rg) (c : Ctx T X C) (t : TkG) (h : x7 T r rg C t) : t.sound X := by
 induction t using TkG.casesOn with
 | e e σ K => exact Dt hr hg c h
 | t e σ K => exact Dw hr hg c h
 | tl op es σ K =>
  induction es using List.casesOn with
  | nil => exact .of (hr.tl c h)
  | cons x rest =>
   refine qK ((hg.t c h).mono fun b σ1 h => ?_)
   induction op using BoolOp.casesOn
   ·exact h.mono (hg.tl c) id
   ·exact h.mono id (hg.tl c)
 | l pos es σ K =>
  induction es using List.casesOn with
  | nil => exact wG h
  | cons e es => exact su (am (Gd.out h).1) ((hg.e c (Gd.out h).2).mono fun a σ1 h => hg.l c h)
 | s st σ K =>
  exact BK hr hg c h
 | b sts σ K =>
  induction sts using List.casesOn with
  | nil => exact xp h
  | cons st rest =>
   refine tA ((hg.s c h).mono fun f σ1 h => ?_)
   replace h := (kh _ _).mp h
   induction f using SF.casesOn
   ·exact hg.b c h
   ·exact h
   ·exact h
   ·exact h
 | c x elt its acc cel K =>
  induction its using List.casesOn with
  | nil => exact h
  | cons d ds =>
   refine (hg.e c h).mono fun v σ2 h => ?_
   obtain ⟨sv, rfl, h'⟩ := bj h
   exact hg X C _ c h'
theorem cZ (T : Tb) : ∀ n, bo T (jT T n)
 | 0 => fun X C t c h => h.elim
 | n + 1 => fun X C t c h => ux (ai T n) (cZ T n) c t h
end
noncomputable abbrev RnG (sp : Spec) (T : Tb) (N : Nat) (f : Addr) (mu : List Nat) (ns : List Str) (w : World) : Prop := ∀ (as : List AV) (cel : List aa) (K : SV → List aa → Prop), sp as cel K → jT T N (cy f w cel.length mu) (.b (bd f) (aR (scp f) ns as cel) (oS cel.length K))
theorem aW.at {w : World} (f : Addr) {D U : Nat} {sp : Spec} {ns : List Str} {T : Tb} (mu : List Nat) (N : Nat)
  (hf : aD f w) (hb : Bnd (prm f) ns)
  (hc : dq (scp f) ns)
  (hlen : ∀ as cel K, sp as cel K → as.length = ns.length) (tb : iy w D U T) (hU : 10 ≤ U)
  (h : RnG sp T N f mu ns w) : aW w f (D + 1) (U + 3) sp :=
 aW.of_body hf hb hc hlen fun X as cel K O hw hD hU' ag hsp =>
  cZ T N X _ (.b (bd f) _ _) ⟨O, ⟨ag.names, ag.vid, fun _ => ag.comp, aY O⟩, by rw [hw, hD, hU']; exact tb, by rw [hU']; exact hU⟩ (h as cel K hsp)
theorem ei.at {w : World} (f : Addr) {D U : Nat} {sp : Spec} {ns : List Str} {T : Tb} (mu : List Nat) (N : Nat)
  (hf : aD f w) (hb : Bnd (prm f) ns)
  (hc : dq (scp f) ns)
  (hlen : ∀ as cel K, sp as cel K → as.length = ns.length) (tb : iy w D U T) (hU : 10 ≤ U)
  (h : Rn sp T N f mu ns w) : ei w f (D + 1) (U + 3) sp :=
 ei.of_body hf hb hc hlen fun X as cel K O hw hD hU' ag hsp =>
  ai T N X _ (.b (bd f) _ _) ⟨O, ⟨ag.names, ag.vid, fun _ => ag.comp, aY O⟩, by rw [hw, hD, hU']; exact tb, by rw [hU']; exact hU⟩ (h as cel K hsp)
end
section
noncomputable def ad (w : World) (x : Str) (sv : SV) : Prop := (∃ v, nsIn (tp.heap_1 w.params) mainGlobals x = some (some v) ∧ KV w v sv) ∨ (x ≠ "__name__" ∧ nsIn (tp.heap_1 w.params) mainGlobals x = some none ∧ ∃ v, bootBuiltins x = some v ∧ KV w v sv)
inductive n9 (w : World) : List (Str × SV) → Prop
 | nil : n9 w []
 | cons {x : Str} {sv : SV} {l : List (Str × SV)} : ad w x sv → n9 w l → n9 w ((x, sv) :: l)
theorem n9.get {w : World} {l : List (Str × SV)} (h : n9 w l) : ∀ x sv, glk x l = some sv → ad w x sv := by
 induction h with
 | nil => intro x sv e; cases e
 | cons g _ ih =>
  intro x sv e
  unfold glk at e
  split at e
  ·rename_i q; cases e; rw [Fast.sEq_iff.mp q]; exact g
  ·exact ih x sv e
noncomputable def eqN (n : Nat) (l : List Nat) : Bool := List.rec false (fun a _ ih => Bool.rec ih true (Nat.beq n a)) l
noncomputable def dsN (l : List Nat) : Bool := List.rec true (fun a r ih => Bool.rec ih false (eqN a r)) l
theorem k8 {n : Nat} {l : List Nat} (h : n ∈ l) : eqN n l = true := by
 induction h with
 | head r => show Bool.rec (eqN n r) true (Nat.beq n n) = true; rw [Nat.beq_refl]
 | tail a _ ih => show Bool.rec (eqN n _) true (Nat.beq n a) = true; rw [ih]; cases Nat.beq n a <;> rfl
theorem tc {a : Nat} {r : List Nat} (h : dsN (a :: r) = true) : eqN a r = false ∧ dsN r = true := by
 have h : Bool.rec (dsN r) false (eqN a r) = true := h
 cases e : eqN a r with
 | false => rw [e] at h; exact ⟨rfl, h⟩
 | true => rw [e] at h; cases h
theorem Cn {α : Type} {c : α → Nat} {b a : α} {l : List α} : ∀ {i : Nat}, dsN (l.map c) = true → l[i]? = some b → a ∈ l → c a = c b → a = b := by
 induction l with
 | nil => intro i _ _ m; cases m
 | cons y r ih =>
  intro i d h m e
  obtain ⟨d1, d2⟩ := tc d
  induction i using Nat.casesOn with
  | zero =>
   obtain rfl : y = b := Option.some.inj h
   rcases List.mem_cons.mp m with q | q
   ·exact q
   ·rw [← e, k8 (List.mem_map_of_mem q)] at d1; cases d1
  | succ i =>
   have h : r[i]? = some b := h
   rcases List.mem_cons.mp m with q | q
   ·rw [← q, e, k8 (List.mem_map_of_mem (List.mem_of_getElem? h))] at d1; cases d1
   ·exact ih d2 h q e
theorem wU {α : Type} {p : α → Bool} {b : α} {l : List α} (h : ∀ a ∈ l, p a = true → a = b) (m : b ∈ l) (q : p b = true) : l.find? p = some b := by
 cases e : l.find? p with
 | none => exact absurd q (List.find?_eq_none.mp e b m)
 | some a => rw [h a (List.mem_of_find?_eq_some e) (List.find?_some e)]
noncomputable def cdN (x : Str) : Nat := Fast.code x.cps.toList
noncomputable def nms : List Str := ["len", "min", "sum", "isinstance", "range", "bytes", "bytearray", "tuple", "list", "int", "enumerate", "str", "Exception"]
noncomputable def cds : List Nat := mL.map fun x => cdN x.1
theorem Dy : (dsN cds && nms.all fun x => !eqN (cdN x) cds) = true := by kernel_rfl
noncomputable def nsE (es : List DictEntry) (x : Str) : Option (Option Value) := match es.find? (·.key.isStr x) with
 | some e => some (some e.val)
 | none => if es.any (·.refKey) then none else some none
theorem nsM (P : Params) (x : Str) : nsIn (tp.heap_1 P) mainGlobals x = nsE (mL.map (mEn P)) x := by kernel_rfl
theorem CF {x : Str} {v : Value} (P : Params) (i t : Nat) (h : mL[i]? = some (x, t, v)) : nsIn (tp.heap_1 P) mainGlobals x = some (some v) := by
 have f : (mL.map (mEn P)).find? (·.key.isStr x) = some (mEn P (x, t, v)) := by
  refine wU (fun a ha q => ?_) (List.mem_map_of_mem (List.mem_of_getElem? h)) (beq_self_eq_true x)
  obtain ⟨y, hy, rfl⟩ := List.mem_map.mp ha
  have q : (y.1 == x) = true := q
  rw [Cn (Bool.and_eq_true_iff.mp Dy).1 h hy (congrArg cdN (beq_iff_eq.mp q))]
 rw [nsM, nsE, f]
 rfl
theorem gM {w : World} {x : Str} {v : Value} {sv : SV} (i t : Nat) (h : mL[i]? = some (x, t, v)) (k : KV w v sv) : ad w x sv := .inl ⟨v, CF _ i t h, k⟩
theorem gI {w : World} {x : Str} {n : Int} (i t m : Nat) (h : mL[i]? = some (x, t, .int n m)) : ad w x (.int n) := gM i t h fun P hP => .int _ _
theorem gR {w : World} {x : Str} {a : Addr} (i t : Nat) (h : mL[i]? = some (x, t, .ref a)) : ad w x (.ref a) := gM i t h fun P hP => .ref _
theorem noM {x : Str} (P : Params) (j : Nat) (h : nms[j]? = some x) : x ≠ "__name__" ∧ nsIn (tp.heap_1 P) mainGlobals x = some none := by
 have d := List.all_eq_true.mp (Bool.and_eq_true_iff.mp Dy).2 x (List.mem_of_getElem? h)
 have z : ∀ y ∈ mL, y.1 ≠ x := fun y hy e => by
  rw [← e, show eqN (cdN y.1) cds = true from k8 (List.mem_map_of_mem (f := fun x : Str × Nat × Value => cdN x.1) hy)] at d; cases d
 refine ⟨fun e => z _ (.head _) e.symm, ?_⟩
 have f : (mL.map (mEn P)).find? (·.key.isStr x) = none := List.find?_eq_none.mpr fun a ha q => by
  obtain ⟨y, hy, rfl⟩ := List.mem_map.mp ha
  exact z y hy (beq_iff_eq.mp q)
 have g : (mL.map (mEn P)).any (·.refKey) = false := List.any_eq_false.mpr fun a ha q => by
  obtain ⟨y, hy, rfl⟩ := List.mem_map.mp ha
  cases q
 rw [nsM, nsE, f, g]
 rfl
theorem xf {α : Type} {x : Str} {v : α} {l : List (Str × α)} (h : ∀ a ∈ l, a.1 = x → a.2 = v) (m : (x, v) ∈ l) : l.lookup x = some v := by
 induction l with
 | nil => cases m
 | cons a r ih =>
  obtain ⟨k, u⟩ := a
  rw [List.lookup_cons]
  cases e : x == k with
  | true => exact congrArg some (h _ (.head _) (beq_iff_eq.mp e).symm)
  | false =>
   refine ih (fun a ha => h a (.tail _ ha)) ?_
   cases m with
   | head => rw [beq_self_eq_true] at e; cases e
   | tail _ m => exact m
theorem D8 : dsN (Fast.bltCps.map Fast.code) = true := by kernel_rfl
theorem zh {n : String} {v : Value} (i : Nat) (h : Manifest.builtinsNames[i]?.map (fun y => (y.1, bootValue y.2 y.1)) = some (n, v)) : bootBuiltins (Str.ofString n) = some v := by
 obtain ⟨y, hy, e⟩ := Option.map_eq_some_iff.mp h
 obtain ⟨rfl, rfl⟩ := Prod.mk.inj e
 have d : dsN (Manifest.builtinsNames.map fun y => cdN (Str.ofString y.1)) = true := by
  rw [← D8, ← Fast.blt_decoded, Fast.decodeAll, List.map_map]
  rfl
 refine xf (fun a ha q => ?_) (List.mem_reverse.mpr (List.mem_map_of_mem (List.mem_of_getElem? hy)))
 obtain ⟨z, hz, rfl⟩ := List.mem_map.mp (List.mem_reverse.mp ha)
 rw [Cn d hy hz (congrArg cdN q)]
theorem gBt {w : World} {n : String} {v : Value} {sv : SV} (j i : Nat) (h : nms[j]? = some (Str.ofString n)) (hb : Manifest.builtinsNames[i]?.map (fun y => (y.1, bootValue y.2 y.1)) = some (n, v)) (k : KV w v sv) : ad w (Str.ofString n) sv :=
 .inr ⟨(noM w.params j h).1, (noM w.params j h).2, v, zh i hb, k⟩
noncomputable def dv : SV := .tup [.int 1, .int 2, .int 4, .int 8]
theorem g_0 (w : World) : ad w "VARINT_SIZES" dv := gM 47 340 (v := (.ref 62)) (by kernel_rfl) (fun P hP => (.tup (a := 62) (hP _ _ rfl) (.cons (.int _ _) (.cons (.int _ _) (.cons (.int _ _) (.cons (.int _ _) .nil))))))
noncomputable def fJ : SV := .dic [(.int 1, .tup [.str "ping", .int 0]), (.int 4, .tup [.str "reset_stream", .int 3]), (.int 5, .tup [.str "stop_sending", .int 2]), (.int 16, .tup [.str "max_data", .int 1]), (.int 17, .tup [.str "max_stream_data", .int 2]), (.int 20, .tup [.str "data_blocked", .int 1]), (.int 21, .tup [.str "stream_data_blocked", .int 2]), (.int 25, .tup [.str "retire_connection_id", .int 1]), (.int 30, .tup [.str "handshake_done", .int 0])]
theorem g_1 (w : World) : ad w "PLAIN_FRAMES" fJ := gM 54 488 (v := (.ref 154)) (by kernel_rfl) (fun P hP => (.dic (a := 154) (hP _ _ rfl) rfl (.cons (.int rfl rfl) (.tup (a := _) (hP _ _ rfl) (.cons (.str _ _) (.cons (.int _ _) .nil))) (.cons (.int rfl rfl) (.tup (a := _) (hP _ _ rfl) (.cons (.str _ _) (.cons (.int _ _) .nil))) (.cons (.int rfl rfl) (.tup (a := _) (hP _ _ rfl) (.cons (.str _ _) (.cons (.int _ _) .nil))) (.cons (.int rfl rfl) (.tup (a := _) (hP _ _ rfl) (.cons (.str _ _) (.cons (.int _ _) .nil))) (.cons (.int rfl rfl) (.tup (a := _) (hP _ _ rfl) (.cons (.str _ _) (.cons (.int _ _) .nil))) (.cons (.int rfl rfl) (.tup (a := _) (hP _ _ rfl) (.cons (.str _ _) (.cons (.int _ _) .nil))) (.cons (.int rfl rfl) (.tup (a := _) (hP _ _ rfl) (.cons (.str _ _) (.cons (.int _ _) .nil))) (.cons (.int rfl rfl) (.tup (a := _) (hP _ _ rfl) (.cons (.str _ _) (.cons (.int _ _) .nil))) (.cons (.int rfl rfl) (.tup (a := _) (hP _ _ rfl) (.cons (.str _ _) (.cons (.int _ _) .nil))) .nil)))))))))))
noncomputable def fG : SV := .dic [(.int 18, .tup [.str "max_streams", .bool false]), (.int 19, .tup [.str "max_streams", .bool true]), (.int 22, .tup [.str "streams_blocked", .bool false]), (.int 23, .tup [.str "streams_blocked", .bool true])]
theorem g_2 (w : World) : ad w "COUNT_FRAMES" fG := gM 55 497 (v := (.ref 164)) (by kernel_rfl) (fun P hP => (.dic (a := 164) (hP _ _ rfl) rfl (.cons (.int rfl rfl) (.tup (a := _) (hP _ _ rfl) (.cons (.str _ _) (.cons (.bool _) .nil))) (.cons (.int rfl rfl) (.tup (a := _) (hP _ _ rfl) (.cons (.str _ _) (.cons (.bool _) .nil))) (.cons (.int rfl rfl) (.tup (a := _) (hP _ _ rfl) (.cons (.str _ _) (.cons (.bool _) .nil))) (.cons (.int rfl rfl) (.tup (a := _) (hP _ _ rfl) (.cons (.str _ _) (.cons (.bool _) .nil))) .nil))))))
noncomputable def qo : SV := .dic [(.str "padding", .str "IH01"), (.str "ping", .str "IH01"), (.str "ack", .str "IH1"), (.str "reset_stream", .str "01"), (.str "stop_sending", .str "01"), (.str "crypto", .str "IH1"), (.str "new_token", .str "1"), (.str "stream", .str "01"), (.str "max_data", .str "01"), (.str "max_stream_data", .str "01"), (.str "max_streams", .str "01"), (.str "data_blocked", .str "01"), (.str "stream_data_blocked", .str "01"), (.str "streams_blocked", .str "01"), (.str "new_connection_id", .str "01"), (.str "retire_connection_id", .str "1"), (.str "path_challenge", .str "01"), (.str "path_response", .str "1"), (.str "close", .str "IH01"), (.str "handshake_done", .str "1")]
theorem g_3 (w : World) : ad w "PLACES" qo := gM 70 689 (v := (.ref 263)) (by kernel_rfl) (fun P hP => (.dic (a := 263) (hP _ _ rfl) rfl (.cons (.str rfl rfl) (.str _ _) (.cons (.str rfl rfl) (.str _ _) (.cons (.str rfl rfl) (.str _ _) (.cons (.str rfl rfl) (.str _ _) (.cons (.str rfl rfl) (.str _ _) (.cons (.str rfl rfl) (.str _ _) (.cons (.str rfl rfl) (.str _ _) (.cons (.str rfl rfl) (.str _ _) (.cons (.str rfl rfl) (.str _ _) (.cons (.str rfl rfl) (.str _ _) (.cons (.str rfl rfl) (.str _ _) (.cons (.str rfl rfl) (.str _ _) (.cons (.str rfl rfl) (.str _ _) (.cons (.str rfl rfl) (.str _ _) (.cons (.str rfl rfl) (.str _ _) (.cons (.str rfl rfl) (.str _ _) (.cons (.str rfl rfl) (.str _ _) (.cons (.str rfl rfl) (.str _ _) (.cons (.str rfl rfl) (.str _ _) (.cons (.str rfl rfl) (.str _ _) .nil))))))))))))))))))))))
noncomputable def mn : SV := .dic [(.str "initial", .str "I"), (.str "handshake", .str "H"), (.str "zero", .str "0"), (.str "short", .str "1")]
theorem g_4 (w : World) : ad w "LETTERS" mn := gM 71 702 (v := (.ref 265)) (by kernel_rfl) (fun P hP => (.dic (a := 265) (hP _ _ rfl) rfl (.cons (.str rfl rfl) (.str _ _) (.cons (.str rfl rfl) (.str _ _) (.cons (.str rfl rfl) (.str _ _) (.cons (.str rfl rfl) (.str _ _) .nil))))))
noncomputable def eZ : SV := .tup [.str "ack", .str "padding", .str "close"]
theorem g_5 (w : World) : ad w "NOT_ELICITING" eZ := gM 72 706 (v := (.ref 266)) (by kernel_rfl) (fun P hP => (.tup (a := 266) (hP _ _ rfl) (.cons (.str _ _) (.cons (.str _ _) (.cons (.str _ _) .nil)))))
noncomputable def mx : SV := .tup [.str "path_challenge", .str "path_response", .str "new_connection_id", .str "padding"]
theorem g_6 (w : World) : ad w "PROBING" mx := gM 73 711 (v := (.ref 267)) (by kernel_rfl) (fun P hP => (.tup (a := 267) (hP _ _ rfl) (.cons (.str _ _) (.cons (.str _ _) (.cons (.str _ _) (.cons (.str _ _) .nil))))))
noncomputable def fL : SV := .tup [.str "new_token", .str "handshake_done"]
theorem g_7 (w : World) : ad w "SERVER_ALONE" fL := gM 74 714 (v := (.ref 268)) (by kernel_rfl) (fun P hP => (.tup (a := 268) (hP _ _ rfl) (.cons (.str _ _) (.cons (.str _ _) .nil))))
noncomputable def eN : SV := .dic [(.str "ping", .int 1), (.str "reset_stream", .int 4), (.str "stop_sending", .int 5), (.str "max_data", .int 16), (.str "max_stream_data", .int 17), (.str "data_blocked", .int 20), (.str "stream_data_blocked", .int 21), (.str "retire_connection_id", .int 25), (.str "handshake_done", .int 30)]
theorem g_8 (w : World) : ad w "NUMBER_FRAMES" eN := gM 86 816 (v := (.ref 338)) (by kernel_rfl) (fun P hP => (.dic (a := 338) (hP _ _ rfl) rfl (.cons (.str rfl rfl) (.int _ _) (.cons (.str rfl rfl) (.int _ _) (.cons (.str rfl rfl) (.int _ _) (.cons (.str rfl rfl) (.int _ _) (.cons (.str rfl rfl) (.int _ _) (.cons (.str rfl rfl) (.int _ _) (.cons (.str rfl rfl) (.int _ _) (.cons (.str rfl rfl) (.int _ _) (.cons (.str rfl rfl) (.int _ _) .nil)))))))))))
noncomputable def fV : SV := .tup [.str "ping", .str "ack", .str "crypto", .str "stream", .str "max_data", .str "max_streams", .str "new_connection_id", .str "path_response", .str "close", .str "handshake_done", .str "retire_connection_id", .str "path_challenge", .str "new_token"]
theorem g_9 (w : World) : ad w "_law_kinds" fV := gM 98 940 (v := (.ref 412)) (by kernel_rfl) (fun P hP => (.tup (a := 412) (hP _ _ rfl) (.cons (.str _ _) (.cons (.str _ _) (.cons (.str _ _) (.cons (.str _ _) (.cons (.str _ _) (.cons (.str _ _) (.cons (.str _ _) (.cons (.str _ _) (.cons (.str _ _) (.cons (.str _ _) (.cons (.str _ _) (.cons (.str _ _) (.cons (.str _ _) .nil)))))))))))))))
theorem sq (w : World) : ad w "PROTOCOL_VIOLATION" (.int 10) := gI 12 201 200 (by kernel_rfl)
theorem Bc (w : World) : ad w "PADDING" (.int 0) := gI 15 265 264 (by kernel_rfl)
theorem DX (w : World) : ad w "ACK" (.int 2) := gI 17 269 268 (by kernel_rfl)
theorem zz (w : World) : ad w "ACK_ECN" (.int 3) := gI 18 271 270 (by kernel_rfl)
theorem BU (w : World) : ad w "CRYPTO" (.int 6) := gI 21 277 276 (by kernel_rfl)
theorem Bp (w : World) : ad w "NEW_TOKEN" (.int 7) := gI 22 279 278 (by kernel_rfl)
theorem yU (w : World) : ad w "STREAM" (.int 8) := gI 23 281 280 (by kernel_rfl)
theorem Fp (w : World) : ad w "MAX_STREAMS_BIDI" (.int 18) := gI 26 287 286 (by kernel_rfl)
theorem D9 (w : World) : ad w "MAX_STREAMS_UNI" (.int 19) := gI 27 289 288 (by kernel_rfl)
theorem Au (w : World) : ad w "NEW_CONNECTION_ID" (.int 24) := gI 32 299 298 (by kernel_rfl)
theorem A6 (w : World) : ad w "PATH_CHALLENGE" (.int 26) := gI 34 303 302 (by kernel_rfl)
theorem Dm (w : World) : ad w "PATH_RESPONSE" (.int 27) := gI 35 305 304 (by kernel_rfl)
theorem yW (w : World) : ad w "CLOSE" (.int 28) := gI 36 307 306 (by kernel_rfl)
theorem Bb (w : World) : ad w "CLOSE_APPLICATION" (.int 29) := gI 37 309 308 (by kernel_rfl)
theorem Ag (w : World) : ad w "BIT_FIN" (.int 1) := gI 39 313 312 (by kernel_rfl)
theorem Ck (w : World) : ad w "BIT_LENGTH" (.int 2) := gI 40 315 314 (by kernel_rfl)
theorem A1 (w : World) : ad w "BIT_OFFSET" (.int 4) := gI 41 317 316 (by kernel_rfl)
theorem Ad (w : World) : ad w "GREATEST" (.int 4611686018427387903) := gI 42 323 322 (by kernel_rfl)
theorem Ej (w : World) : ad w "MOST_STREAMS" (.int 1152921504606846976) := gI 43 327 326 (by kernel_rfl)
theorem Fw (w : World) : ad w "CID_SIZE" (.int 20) := gI 44 329 328 (by kernel_rfl)
theorem Ey (w : World) : ad w "TOKEN_SIZE" (.int 16) := gI 45 331 330 (by kernel_rfl)
theorem D4 (w : World) : ad w "CHALLENGE_SIZE" (.int 8) := gI 46 333 332 (by kernel_rfl)
theorem Ed (w : World) : ad w "put_whole" (.ref 69) := gR 48 350 (by kernel_rfl)
theorem C0 (w : World) : ad w "get_whole" (.ref 76) := gR 49 361 (by kernel_rfl)
theorem CC (w : World) : ad w "varint_size" (.ref 83) := gR 50 369 (by kernel_rfl)
theorem Ac (w : World) : ad w "put_varint" (.ref 90) := gR 51 378 (by kernel_rfl)
theorem E9 (w : World) : ad w "get_varint" (.ref 97) := gR 52 387 (by kernel_rfl)
theorem D6 (w : World) : ad w "Reader" (.ref 149) := gR 53 458 (by kernel_rfl)
theorem EF (w : World) : ad w "read_type" (.ref 182) := gR 57 514 (by kernel_rfl)
theorem xz (w : World) : ad w "read_counted" (.ref 189) := gR 58 521 (by kernel_rfl)
theorem Fa (w : World) : ad w "read_ranges" (.ref 196) := gR 59 535 (by kernel_rfl)
theorem EW (w : World) : ad w "read_ack" (.ref 201) := gR 60 541 (by kernel_rfl)
theorem EX (w : World) : ad w "read_stream" (.ref 208) := gR 61 553 (by kernel_rfl)
theorem EO (w : World) : ad w "read_crypto" (.ref 215) := gR 62 563 (by kernel_rfl)
theorem Ev (w : World) : ad w "read_new_cid" (.ref 222) := gR 63 575 (by kernel_rfl)
theorem EL (w : World) : ad w "read_close" (.ref 229) := gR 64 585 (by kernel_rfl)
theorem Fc (w : World) : ad w "read_octets_frame" (.ref 243) := gR 66 603 (by kernel_rfl)
theorem EV (w : World) : ad w "read_body" (.ref 248) := gR 67 609 (by kernel_rfl)
theorem Et (w : World) : ad w "read_frame" (.ref 255) := gR 68 617 (by kernel_rfl)
theorem DD (w : World) : ad w "read_frames" (.ref 262) := gR 69 626 (by kernel_rfl)
theorem B2 (w : World) : ad w "may_stand" (.ref 275) := gR 75 722 (by kernel_rfl)
theorem Ee (w : World) : ad w "is_eliciting" (.ref 282) := gR 76 729 (by kernel_rfl)
theorem Fj (w : World) : ad w "counts_in_flight" (.ref 289) := gR 77 736 (by kernel_rfl)
theorem Ew (w : World) : ad w "is_probing" (.ref 296) := gR 78 743 (by kernel_rfl)
theorem Eo (w : World) : ad w "any_eliciting" (.ref 301) := gR 79 749 (by kernel_rfl)
theorem EC (w : World) : ad w "any_in_flight" (.ref 306) := gR 80 755 (by kernel_rfl)
theorem Fd (w : World) : ad w "are_probing" (.ref 311) := gR 81 761 (by kernel_rfl)
theorem CG (w : World) : ad w "check_frames" (.ref 332) := gR 84 789 (by kernel_rfl)
theorem Ep (w : World) : ad w "without_kinds" (.ref 337) := gR 85 795 (by kernel_rfl)
theorem rN (w : World) : ad w "put_numbers" (.ref 343) := gR 87 822 (by kernel_rfl)
theorem zU (w : World) : ad w "put_counted" (.ref 350) := gR 88 829 (by kernel_rfl)
theorem Es (w : World) : ad w "ack_numbers" (.ref 357) := gR 89 842 (by kernel_rfl)
theorem E7 (w : World) : ad w "put_ack" (.ref 364) := gR 90 856 (by kernel_rfl)
theorem Eb (w : World) : ad w "put_stream" (.ref 371) := gR 91 871 (by kernel_rfl)
theorem Fo (w : World) : ad w "put_new_cid" (.ref 378) := gR 92 883 (by kernel_rfl)
theorem FC (w : World) : ad w "put_close" (.ref 385) := gR 93 894 (by kernel_rfl)
theorem Er (w : World) : ad w "put_octets_frame" (.ref 392) := gR 94 902 (by kernel_rfl)
theorem Dp (w : World) : ad w "put_frame" (.ref 399) := gR 95 911 (by kernel_rfl)
theorem DF (w : World) : ad w "put_frames" (.ref 404) := gR 96 917 (by kernel_rfl)
theorem Ff (w : World) : ad w "frame_size" (.ref 411) := gR 97 924 (by kernel_rfl)
theorem EY (w : World) : ad w "_law_places" (.ref 419) := gR 99 946 (by kernel_rfl)
theorem vt (w : World) : ad w "_law_take" (.ref 426) := gR 100 955 (by kernel_rfl)
theorem Fz (w : World) : ad w "_law_number" (.ref 433) := gR 101 962 (by kernel_rfl)
theorem Eh (w : World) : ad w "_law_some" (.ref 440) := gR 102 969 (by kernel_rfl)
theorem EN (w : World) : ad w "_law_frame" (.ref 447) := gR 103 979 (by kernel_rfl)
theorem BZ (w : World) : ad w "_law_varint" (.ref 452) := gR 104 985 (by kernel_rfl)
theorem Ek (w : World) : ad w "_law_counted" (.ref 459) := gR 105 993 (by kernel_rfl)
theorem Fs (w : World) : ad w "_law_parts" (.ref 466) := gR 106 1008 (by kernel_rfl)
theorem EH (w : World) : ad w "_law_written" (.ref 473) := gR 107 1021 (by kernel_rfl)
theorem D7 (w : World) : ad w "_law_may_be" (.ref 480) := gR 108 1030 (by kernel_rfl)
theorem ED (w : World) : ad w "_law_judged" (.ref 487) := gR 109 1040 (by kernel_rfl)
theorem Ch (w : World) : ad w "QuicError" (.ref 38) := gR 13 234 (by kernel_rfl)
theorem fz (w : World) : ad w "len" (.bi .len) := gBt 0 33 (by kernel_rfl) (by kernel_rfl) fun P hP => .bi _
theorem EP (w : World) : ad w "min" (.bi .min) := gBt 1 36 (by kernel_rfl) (by kernel_rfl) fun P hP => .bi _
theorem Ft (w : World) : ad w "sum" (.bi .sum) := gBt 2 47 (by kernel_rfl) (by kernel_rfl) fun P hP => .bi _
theorem EZ (w : World) : ad w "isinstance" (.bi .isi) := gBt 3 29 (by kernel_rfl) (by kernel_rfl) fun P hP => .bi _
theorem oz (w : World) : ad w "range" (.ty .range) := gBt 4 70 (by kernel_rfl) (by kernel_rfl) fun P hP => .ty _
theorem rU (w : World) : ad w "bytes" (.ty .bytes) := gBt 5 57 (by kernel_rfl) (by kernel_rfl) fun P hP => .ty _
theorem Em (w : World) : ad w "bytearray" (.ty .bytearray) := gBt 6 56 (by kernel_rfl) (by kernel_rfl) fun P hP => .ty _
theorem xx (w : World) : ad w "tuple" (.ty .tuple) := gBt 7 77 (by kernel_rfl) (by kernel_rfl) fun P hP => .ty _
theorem zI (w : World) : ad w "list" (.ty .list) := gBt 8 67 (by kernel_rfl) (by kernel_rfl) fun P hP => .ty _
theorem AF (w : World) : ad w "int" (.ty .int) := gBt 9 66 (by kernel_rfl) (by kernel_rfl) fun P hP => .ty _
theorem EJ (w : World) : ad w "enumerate" (.ty .enumerate) := gBt 10 61 (by kernel_rfl) (by kernel_rfl) fun P hP => .ty _
end
section
inductive pi (w : World) (D U : Nat) : List (Nat × Spec) → Prop
 | nil : pi w D U []
 | cons {a D' U' : Nat} {sp : Spec} {l : List (Nat × Spec)} : aj w a D' U' sp → Nat.ble D' D = true → Nat.ble U' U = true → keepIn (tp.heap_1 w.params) (.ref a) = true → pi w D U l → pi w D U ((a, sp) :: l)
theorem pi.get {w : World} {D U : Nat} {l : List (Nat × Spec)} (h : pi w D U l) : ∀ a sp, fnk a l = some sp → (∃ D' U', aj w a D' U' sp ∧ D' ≤ D ∧ U' ≤ U) ∧ keepIn (tp.heap_1 w.params) (.ref a) = true := by
 induction h with
 | nil => intro a sp e; cases e
 | cons f d u k _ ih =>
  intro a sp e
  unfold fnk at e
  split at e
  ·rename_i q; cases e; rw [Nat.eq_of_beq_eq_true q]; exact ⟨⟨_, _, f, Nat.le_of_ble_eq_true d, Nat.le_of_ble_eq_true u⟩, k⟩
  ·exact ih a sp e
inductive iU (w : World) (D U : Nat) : List (Nat × Spec) → Prop
 | nil : iU w D U []
 | cons {a D' U' : Nat} {sp : Spec} {l : List (Nat × Spec)} : aW w a D' U' sp → Nat.ble D' D = true → Nat.ble U' U = true → keepIn (tp.heap_1 w.params) (.ref a) = true → iU w D U l → iU w D U ((a, sp) :: l)
theorem iU.get {w : World} {D U : Nat} {l : List (Nat × Spec)} (h : iU w D U l) : ∀ a sp, fnk a l = some sp → (∃ D' U', aW w a D' U' sp ∧ D' ≤ D ∧ U' ≤ U) ∧ keepIn (tp.heap_1 w.params) (.ref a) = true := by
 induction h with
 | nil => intro a sp e; cases e
 | cons f d u k _ ih =>
  intro a sp e
  unfold fnk at e
  split at e
  ·rename_i q; cases e; rw [Nat.eq_of_beq_eq_true q]; exact ⟨⟨_, _, f, Nat.le_of_ble_eq_true d, Nat.le_of_ble_eq_true u⟩, k⟩
  ·exact ih a sp e
inductive jC (w : World) : List (Nat × Str) → Prop
 | nil : jC w []
 | cons {C : Nat} {x : Str} {l : List (Nat × Str)} : dT w C x → jC w l → jC w ((C, x) :: l)
theorem jC.get {w : World} {l : List (Nat × Str)} (h : jC w l) : ∀ C x, cY C x l = true → dT w C x := by
 induction h with
 | nil => intro a sp e; cases e
 | cons f _ ih =>
  intro C x e
  unfold cY at e
  split at e
  ·rename_i q
   obtain ⟨q1, q2⟩ := Bool.and_eq_true_iff.mp q
   rw [Nat.eq_of_beq_eq_true q1, Fast.sEq_iff.mp q2]; exact f
  ·exact ih C x e
inductive jo (w : World) : List ((Nat × Str) × Nat) → Prop
 | nil : jo w []
 | cons {C f : Nat} {x : Str} {l : List ((Nat × Str) × Nat)} : dD w C x f → jo w l → jo w (((C, x), f) :: l)
theorem jo.get {w : World} {l : List ((Nat × Str) × Nat)} (h : jo w l) : ∀ C x f, kF C x l = some f → dD w C x f := by
 induction h with
 | nil => intro a sp f e; cases e
 | cons g _ ih =>
  intro C x f e
  unfold kF at e
  split at e
  ·rename_i q
   obtain ⟨q1, q2⟩ := Bool.and_eq_true_iff.mp q
   cases e
   rw [Nat.eq_of_beq_eq_true q1, Fast.sEq_iff.mp q2]; exact g
  ·exact ih C x f e
theorem aJ {w : World} {D U : Nat} {gl : List (Str × SV)} {fn fnG : List (Nat × Spec)} {fd : List (Nat × Str)} {mt : List ((Nat × Str) × Nat)} (g : n9 w gl) (f : pi w D U fn) (fg : iU w D U fnG) (fi : jC w fd) (m : jo w mt) : iy w D U { glob := gl, fn := fn, fnG := fnG, cls := [], field := fd, meth := mt } where
 glob := g.get
 fn := f.get
 fnG := fg.get
 cls := fun a sp e => by cases e
 field := fi.get
 meth := m.get
noncomputable def beI : Nat → Int → List UInt8
 | 0, _ => []
 | k + 1, n => beI k (n.fdiv 256) ++ [(n.fmod 256).toNat.toUInt8]
inductive wT (p : Int → Int → (SV → Prop) → Prop) : List AV → List aa → (SV → List aa → Prop) → Prop
 | mk {n : Int} {m : Int} {K : SV → List aa → Prop} (_ : p n m fun v => K v []) : wT p [.v (.int n), .v (.int m)] [] K
theorem Br.f {b : Bool} {P Q : Prop} (h : b = false) (q : Q) : Br b P Q := by subst h; exact q
theorem Br.t {b : Bool} {P Q : Prop} (h : b = true) (q : P) : Br b P Q := by subst h; exact q
theorem fM {a b c : Bool} (ha : a = true) (hb : b = true) (hc : c = true) : (a && b && c) = true := by rw [ha, hb, hc]; rfl
theorem gw {a b : Bool} (ha : a = true) (hb : b = true) : (a && b) = true := by rw [ha, hb]; rfl
theorem aI (n : Int) : mr (n.fmod 256) = true := by
 unfold mr
 have h1 := Int.fmod_nonneg_of_pos n (show (0 : Int) < 256 by decide)
 have h2 := Int.fmod_lt_of_pos n (show (0 : Int) < 256 by decide)
 rw [decide_eq_true h1, decide_eq_true h2]; rfl
theorem iH {n m : Int} (h0 : 0 ≤ n) (h1 : n < m) : (n.fdiv m != 0) = false := by
 have : n.fdiv m = 0 := by rw [Int.fdiv_eq_ediv_of_nonneg _ (by lia)]; exact Int.ediv_eq_zero_of_lt h0 h1
 rw [this]; rfl
noncomputable def lT : Spec := wT fun n s k => 0 ≤ n ∧ ((s = 1 ∧ n < 256 ∧ k (.bytes (beI 1 n))) ∨ (s = 2 ∧ n < 65536 ∧ k (.bytes (beI 2 n))) ∨ (s = 4 ∧ n < 4294967296 ∧ k (.bytes (beI 4 n))) ∨ (s = 8 ∧ n < 18446744073709551616 ∧ k (.bytes (beI 8 n))))
noncomputable def T69 : Tb := { glob := [("range", .ty .range), ("bytes", .ty .bytes), ("bytearray", .ty .bytearray)], fn := [], field := [], meth := [] }
theorem qZ (w : World) : RnG lT T69 200 69 [] ["n", "size"] w := fun as cel K h => by
 obtain ⟨h⟩ := h
 rename_i n s
 obtain ⟨h0, ⟨rfl, h1, k⟩ | ⟨rfl, h1, k⟩ | ⟨rfl, h1, k⟩ | ⟨rfl, h1, k⟩⟩ := h
 ·apply Br.f
  ·exact by simp; lia
  apply Br.f
  ·exact iH h0 h1
  apply bh.mk
  apply Gd.mk
  ·exact fM rfl rfl (aI _)
  exact k
 ·apply Br.f
  ·exact by simp; lia
  apply Br.f
  ·exact iH h0 h1
  apply bh.mk
  apply Gd.mk
  ·exact fM rfl rfl (aI _)
  apply Gd.mk
  ·exact fM rfl rfl (aI _)
  exact k
 ·apply Br.f
  ·exact by simp; lia
  apply Br.f
  ·exact iH h0 h1
  apply bh.mk
  apply Gd.mk
  ·exact fM rfl rfl (aI _)
  apply Gd.mk
  ·exact fM rfl rfl (aI _)
  apply Gd.mk
  ·exact fM rfl rfl (aI _)
  apply Gd.mk
  ·exact fM rfl rfl (aI _)
  exact k
 ·apply Br.f
  ·exact by simp; lia
  apply Br.f
  ·exact iH h0 h1
  apply bh.mk
  apply Gd.mk
  ·exact fM rfl rfl (aI _)
  apply Gd.mk
  ·exact fM rfl rfl (aI _)
  apply Gd.mk
  ·exact fM rfl rfl (aI _)
  apply Gd.mk
  ·exact fM rfl rfl (aI _)
  apply Gd.mk
  ·exact fM rfl rfl (aI _)
  apply Gd.mk
  ·exact fM rfl rfl (aI _)
  apply Gd.mk
  ·exact fM rfl rfl (aI _)
  apply Gd.mk
  ·exact fM rfl rfl (aI _)
  exact k
theorem uT {p : Int → Int → (SV → Prop) → Prop} (as : List AV) (cel : List aa) (K : SV → List aa → Prop) (h : wT p as cel K) : as.length = 2 := by
 induction h using wT.casesOn; rfl
theorem E1 (w : World) : aD 69 w := ⟨_, _, _, _, _, _, _, _, _, rfl, by kernel_rfl⟩
theorem zu (w : World) : Bnd (prm 69) ["n", "size"] := dG fun _ _ _ => by kernel_rfl
theorem Fi (w : World) : aW w 69 1 13 lT :=
 aW.at (ns := ["n", "size"]) (T := T69) (U := 10) (D := 0) 69 [] 200 (E1 w) (zu w) (by kernel_rfl) uT (aJ (.cons (oz w) (.cons (rU w) (.cons (Em w) .nil))) .nil .nil .nil .nil) (by decide) (qZ w)
end
section
theorem sO {x y : Int} (hx : 0 ≤ x) (hy : 0 ≤ y) : Builtin.bitOr x y = ((x.toNat ||| y.toNat : Nat) : Int) := by
 unfold Builtin.bitOr Builtin.bitAnd
 have h1 : ¬ (0 ≤ Builtin.bitNot x) := by unfold Builtin.bitNot; lia
 have h2 : ¬ (0 ≤ Builtin.bitNot y) := by unfold Builtin.bitNot; lia
 rw [decide_eq_false h1, decide_eq_false h2]
 have e1 : Builtin.bitNot (Builtin.bitNot x) = x := by unfold Builtin.bitNot; lia
 have e2 : Builtin.bitNot (Builtin.bitNot y) = y := by unfold Builtin.bitNot; lia
 show Builtin.bitNot (Builtin.bitNot (((Builtin.bitNot (Builtin.bitNot x)).toNat ||| (Builtin.bitNot (Builtin.bitNot y)).toNat : Nat) : Int)) = _
 rw [e1, e2]
 unfold Builtin.bitNot; lia
theorem lC {e i : Nat} {n : Int} (h0 : 0 ≤ n) (h1 : n < ((2 ^ i : Nat) : Int)) : Builtin.bitOr (((e * 2 ^ i : Nat)) : Int) n = n + ((e * 2 ^ i : Nat) : Int) := by
 rw [sO (Int.natCast_nonneg _) h0]
 obtain ⟨m, rfl⟩ := Int.eq_ofNat_of_zero_le h0
 have hm : m < 2 ^ i := by exact_mod_cast h1
 have := Nat.two_pow_add_eq_or_of_lt hm e
 simp only [Int.toNat_natCast]
 rw [Nat.mul_comm e, ← this]
 push_cast; lia
theorem og {i : Nat} {n : Int} (h0 : 0 ≤ n) : Builtin.bitAnd n (((2 ^ i : Nat) : Int) - 1) = n % ((2 ^ i : Nat) : Int) := by
 obtain ⟨m, rfl⟩ := Int.eq_ofNat_of_zero_le h0
 have hp : 1 ≤ 2 ^ i := Nat.one_le_two_pow
 have e : (((2 ^ i : Nat) : Int) - 1) = ((2 ^ i - 1 : Nat) : Int) := by lia
 rw [e]
 unfold Builtin.bitAnd
 rw [decide_eq_true (Int.natCast_nonneg _), decide_eq_true (Int.natCast_nonneg _)]
 simp only [Int.toNat_natCast]
 rw [Nat.and_two_pow_sub_one_eq_mod]
 exact_mod_cast rfl
noncomputable def hF (l : List UInt8) : Int := l.foldl (fun a c => a * 256 + (c.toNat : Int)) 0
theorem cf : ∀ k n, (beI k n).length = k
 | 0, _ => rfl
 | k + 1, n => by rw [beI, List.length_append, cf k]; rfl
theorem je : ∀ (k : Nat) (n : Int), 0 ≤ n → n < ((256 ^ k : Nat) : Int) → hF (beI k n) = n
 | 0, n, h0, h1 => by
  have : n = 0 := by simp at h1; lia
  subst this; rfl
 | k + 1, n, h0, h1 => by
  have hd : n.fdiv 256 = n / 256 := Int.fdiv_eq_ediv_of_nonneg _ (by lia)
  have hm : n.fmod 256 = n % 256 := Int.fmod_eq_emod_of_nonneg _ (by lia)
  have h2 : n / 256 < ((256 ^ k : Nat) : Int) := by
   have : ((256 ^ (k + 1) : Nat) : Int) = ((256 ^ k : Nat) : Int) * 256 := by rw [Nat.pow_succ]; push_cast; rfl
   rw [this] at h1
   lia
  have ih := je k (n / 256) (by lia) h2
  unfold hF at ih ⊢
  rw [beI, List.foldl_append, hd, ih, hm]
  show n / 256 * 256 + (((n % 256).toNat.toUInt8).toNat : Int) = n
  have hb : (n % 256).toNat < 256 := by lia
  rw [show ((n % 256).toNat.toUInt8).toNat = (n % 256).toNat from by simp [Nat.toUInt8]; lia]
  lia
noncomputable def lv (n : Int) : Nat := if n < 64 then 0 else if n < 16384 then 1 else if n < 1073741824 then 2 else 3
noncomputable def vb : Nat → Int → List UInt8
 | 0, n => beI 1 n
 | 1, n => beI 2 (n + 16384)
 | 2, n => beI 4 (n + 2147483648)
 | _, n => beI 8 (n + 13835058055282163712)
inductive ii : List AV → List aa → (SV → List aa → Prop) → Prop
 | mk {n : Int} {K : SV → List aa → Prop} (_ : 0 ≤ n) (_ : n < 4611686018427387904) (_ : K (.bytes (vb (lv n) n)) []) : ii [.v (.int n), .v .none] [] K
theorem AK (w : World) : aj w 83 1 13 lu :=
 aj.at (ns := ["n"]) (T := T0) (U := 10) (D := 0) 83 [] 200 (E5 w) (zO w) (by kernel_rfl) (fun as cel K h => by
  induction h using nJ.casesOn; rfl) (aJ (.cons (g_0 w) .nil) .nil .nil .nil .nil) (by decide) (iu w)
noncomputable def T90 : Tb := { glob := [("varint_size", .ref 83), ("put_whole", .ref 69), ("VARINT_SIZES", dv)], fn := [(83, lu)], fnG := [(69, lT)], field := [], meth := [] }
theorem iV (w : World) : RnG ii T90 200 90 [] ["n", "size"] w := fun as cel K h => by
 obtain ⟨h0, h1, k⟩ := h
 rename_i n
 refine nJ.mk ⟨h0, h1, fun q => ?_, fun q1 q2 => ?_, fun q1 q2 => ?_, fun q => ?_⟩
 ·rw [show lv n = 0 from if_pos q] at k
  conv => whnf
  rw [show ((↑(0 : Nat) : Int) * 2 ^ (8 * 1 - 2 : Int).toNat) = ((0 * 2 ^ 6 : Nat) : Int) from rfl, lC h0 (by lia)]
  refine ⟨by lia, .inl ⟨rfl, by lia, ?_⟩⟩
  conv => whnf
  rw [show n + ((0 * 2 ^ 6 : Nat) : Int) = n from Int.add_zero n]; exact k
 ·rw [show lv n = 1 from by unfold lv; rw [if_neg (by lia), if_pos q2]] at k
  conv => whnf
  rw [show ((↑(1 : Nat) : Int) * 2 ^ (8 * 2 - 2 : Int).toNat) = ((1 * 2 ^ 14 : Nat) : Int) from rfl, lC h0 (by lia)]
  refine ⟨by lia, .inr (.inl ⟨rfl, by lia, ?_⟩)⟩
  exact k
 ·rw [show lv n = 2 from by unfold lv; rw [if_neg (by lia), if_neg (by lia), if_pos q2]] at k
  conv => whnf
  rw [show ((↑(2 : Nat) : Int) * 2 ^ (8 * 4 - 2 : Int).toNat) = ((2 * 2 ^ 30 : Nat) : Int) from rfl, lC h0 (by lia)]
  refine ⟨by lia, .inr (.inr (.inl ⟨rfl, by lia, ?_⟩))⟩
  exact k
 ·rw [show lv n = 3 from by unfold lv; rw [if_neg (by lia), if_neg (by lia), if_neg (by lia)]] at k
  conv => whnf
  rw [show ((↑(3 : Nat) : Int) * 2 ^ (8 * 8 - 2 : Int).toNat) = ((3 * 2 ^ 62 : Nat) : Int) from rfl, lC h0 (by lia)]
  refine ⟨by lia, .inr (.inr (.inr ⟨rfl, by lia, ?_⟩))⟩
  exact k
theorem D3 (w : World) : aD 90 w := ⟨_, _, _, _, _, _, _, _, _, rfl, by kernel_rfl⟩
theorem yI (w : World) : Bnd (prm 90) ["n", "size"] := dG fun _ _ _ => by kernel_rfl
theorem Av (w : World) : aW w 90 2 16 ii :=
 aW.at (ns := ["n", "size"]) (T := T90) (U := 13) (D := 1) 90 [] 200 (D3 w) (yI w) (by kernel_rfl) (fun as cel K h => by
  induction h using ii.casesOn; rfl) (aJ (.cons (CC w) (.cons (Ed w) (.cons (g_0 w) .nil))) (.cons (AK w) rfl rfl (by kernel_rfl) .nil) (.cons (Fi w) rfl rfl (by kernel_rfl) .nil) .nil .nil) (by decide) (iV w)
end
section
inductive jN : List AV → List aa → (SV → List aa → Prop) → Prop
 | mk {d : List UInt8} {a : Int} {s : Int} {K : SV → List aa → Prop} (pre l rest : _) (_ : d = pre ++ l ++ rest) (_ : a = (pre.length : Int)) (_ : s = (l.length : Int)) (_ : (l.length = 1 ∨ l.length = 2 ∨ l.length = 4 ∨ l.length = 8)) (_ : d.length ≤ 1000000) (_ : K (.int (hF l)) []) : jN [.v (.bytes d), .v (.int a), .v (.int s)] [] K
theorem bh.f_of {T : Tb} {n : Nat} {C : Ct} {t : Expr} {body : List Stmt} {its its' : List SV} {σ : SS} {K : SF → SS → Prop} (e : its = its') (h : bh (run T n C (.f t body its' σ K))) : bh (run T n C (.f t body its σ K)) := by subst e; exact h
theorem nc {n : Nat} {k : Nat} (h : k ≤ n) : clipAt n (k : Int) = k := by
 rw [clipAt_nat]; exact Nat.min_eq_left h
theorem ku {α : Type} (pre l rest : List α) : cV (pre ++ l ++ rest) (some (pre.length : Int)) (some ((pre.length : Int) + (l.length : Int))) = l := by
 have e : (pre.length : Int) + (l.length : Int) = ((pre.length + l.length : Nat) : Int) := by push_cast; rfl
 unfold cV
 rw [e]
 simp only [Option.elim]
 rw [nc (by simp only [List.length_append]; lia), nc (by simp only [List.length_append]; lia)]
 rw [List.append_assoc, List.drop_left, Nat.add_sub_cancel_left]; exact List.take_left
theorem ah {a b : Nat} (h : a ≤ b) : Nat.ble a b = true := Nat.ble_eq_true_of_le h
noncomputable def T76 : Tb := { glob := [("len", .bi .len)], fn := [], fnG := [], field := [], meth := [] }
theorem AW {α : Type} {l : List α} (h0 : l.length = 2) : ∃ a b, l = [a, b] := by
 obtain ⟨a, r1, rfl, h1⟩ := ey h0
 obtain ⟨b, r2, rfl, h2⟩ := ey h1
 obtain rfl := List.length_eq_zero_iff.mp h2
 exact ⟨a, b, rfl⟩
theorem Bu {α : Type} {l : List α} (h0 : l.length = 4) : ∃ a b c d, l = [a, b, c, d] := by
 obtain ⟨a, r1, rfl, h1⟩ := ey h0
 obtain ⟨b, r2, rfl, h2⟩ := ey h1
 obtain ⟨c, d, rfl⟩ := AW h2
 exact ⟨a, b, c, d, rfl⟩
theorem Fk {α : Type} {l : List α} (h0 : l.length = 8) : ∃ a b c d e f g i, l = [a, b, c, d, e, f, g, i] := by
 obtain ⟨a, r1, rfl, h1⟩ := ey h0
 obtain ⟨b, r2, rfl, h2⟩ := ey h1
 obtain ⟨c, r3, rfl, h3⟩ := ey h2
 obtain ⟨d, r4, rfl, h4⟩ := ey h3
 obtain ⟨e, f, g, i, rfl⟩ := Bu h4
 exact ⟨a, b, c, d, e, f, g, i, rfl⟩
theorem e4 {p : Nat → Prop} (h0 : p 0) (h1 : p 1) (h2 : p 2) (h3 : ∀ e, p (e + 3)) : ∀ e, p e
 | 0 => h0
 | 1 => h1
 | 2 => h2
 | e + 3 => h3 e
theorem jH (w : World) : Rn jN T76 200 76 [] ["data", "at", "size"] w := fun as cel K h => by
 obtain ⟨pre, l, rest, rfl, rfl, rfl, hl, hd, k⟩ := h
 apply Gd.mk
 ·exact ah (Nat.le_trans hd (by decide))
 refine Br.f ?_ ?_
 ·simp only [decide_eq_false_iff_not, List.length_append, Int.not_lt]; push_cast; lia
 apply Gd.mk
 ·exact ah (Nat.le_trans hd (by decide))
 refine bh.f_of (its' := bV l) (congrArg bV (ku pre l rest)) ?_
 refine ⟨?_⟩
 rcases hl with hl | hl | hl | hl
 ·obtain ⟨a, rfl⟩ := List.length_eq_one_iff.mp hl
  exact k
 ·obtain ⟨a, b, rfl⟩ := AW hl
  exact k
 ·refine hide fun Gz0 bk0 => ?_
  obtain ⟨a, b, c, d, rfl⟩ := Bu hl
  exact bk0 k
 ·refine hide fun Gz0 bk0 => ?_
  obtain ⟨a, b, c, d, e, f, g, h, rfl⟩ := Fk hl
  exact bk0 k
theorem El (w : World) : aD 76 w := ⟨_, _, _, _, _, _, _, _, _, rfl, by kernel_rfl⟩
theorem yG (w : World) : Bnd (prm 76) ["data", "at", "size"] := rq fun _ _ _ _ => by kernel_rfl
theorem Cp (w : World) : aj w 76 1 13 jN :=
 aj.at (ns := ["data", "at", "size"]) (T := T76) (U := 10) (D := 0) 76 [] 200 (El w) (yG w) (by kernel_rfl) (fun as cel K h => by
  induction h using jN.casesOn; rfl) (aJ (.cons (fz w) .nil) .nil .nil .nil .nil) (by decide) (jH w)
theorem gv : ∀ (k : Nat) (m : Int), 0 ≤ m → m < ((256 ^ (k + 1) : Nat) : Int) → (((beI (k + 1) m).getD 0 0).toNat : Int) = m / ((256 ^ k : Nat) : Int)
 | 0, m, h0, h1 => by
  have hm : m.fmod 256 = m % 256 := Int.fmod_eq_emod_of_nonneg _ (by lia)
  show (((m.fmod 256).toNat.toUInt8).toNat : Int) = _
  rw [hm]
  have hb : (m % 256).toNat < 256 := by lia
  rw [show ((m % 256).toNat.toUInt8).toNat = (m % 256).toNat from by simp [Nat.toUInt8]; lia]
  simp at h1 ⊢; lia
 | k + 1, m, h0, h1 => by
  have hd : m.fdiv 256 = m / 256 := Int.fdiv_eq_ediv_of_nonneg _ (by lia)
  have e1 : ((256 ^ (k + 1 + 1) : Nat) : Int) = ((256 ^ (k + 1) : Nat) : Int) * 256 := by rw [Nat.pow_succ]; push_cast; rfl
  have e2 : ((256 ^ (k + 1) : Nat) : Int) = 256 * ((256 ^ k : Nat) : Int) := by rw [Nat.pow_succ, Nat.mul_comm]; push_cast; rfl
  have ih := gv k (m / 256) (by lia) (by rw [e1] at h1; lia)
  have g : (beI (k + 1) (m / 256) ++ [(m.fmod 256).toNat.toUInt8]).getD 0 0 = (beI (k + 1) (m / 256)).getD 0 0 := by
   simp only [List.getD_eq_getElem?_getD]
   rw [List.getElem?_append_left (by rw [cf]; lia)]
  rw [beI, hd, g, ih, e2]
  rw [Int.ediv_ediv_of_nonneg (by lia)]
noncomputable def lim : Nat → Int
 | 0 => 64
 | 1 => 16384
 | 2 => 1073741824
 | _ => 4611686018427387904
noncomputable def sz : Nat → Nat
 | 0 => 1
 | 1 => 2
 | 2 => 4
 | _ => 8
theorem b9 (e : Nat) (n : Int) : (vb e n).length = sz e :=
 e4 (p := fun e => (vb e n).length = sz e) (cf _ _) (cf _ _) (cf _ _) (fun _ => cf _ _) e
noncomputable def off : Nat → Int
 | 0 => 0
 | 1 => 16384
 | 2 => 2147483648
 | _ => 13835058055282163712
theorem vf (e : Nat) (n : Int) : vb e n = beI (sz e) (n + off e) :=
 e4 (p := fun e => vb e n = beI (sz e) (n + off e)) (congrArg (beI 1) (Int.add_zero n).symm) rfl rfl (fun _ => rfl) e
theorem zW (e : Nat) : 0 ≤ off e := e4 (p := fun e => 0 ≤ off e) (by decide) (by decide) (by decide) (fun _ => (by decide : (0 : Int) ≤ 13835058055282163712)) e
theorem wb {e : Nat} {n : Int} (h0 : 0 ≤ n) (h1 : n < lim e) : hF (vb e n) = n + off e := by
 rw [vf]
 refine je _ _ ?_ ?_
 ·exact Int.add_nonneg h0 (zW e)
 ·exact Int.lt_of_lt_of_le (Int.add_lt_add_right h1 _) (e4 (p := fun e => lim e + off e ≤ ((256 ^ sz e : Nat) : Int)) (by decide) (by decide) (by decide) (fun _ => (by decide : (4611686018427387904 : Int) + 13835058055282163712 ≤ ((256 ^ 8 : Nat) : Int))) e)
theorem tj {e : Nat} {n : Int} (h0 : 0 ≤ n) (h1 : n < lim e) (he : e = 0 ∨ e = 1 ∨ e = 2 ∨ e = 3) (pre rest : List UInt8) : (((pre ++ vb e n ++ rest).getD ((pre.length : Int)).toNat 0).toNat : Int).fdiv (2 ^ (6 : Int).toNat) = (e : Int) := by
 have hp : ((pre.length : Int)).toNat = pre.length := Int.toNat_natCast _
 have hl : 0 < (vb e n).length := by rw [b9]; unfold sz; split <;> lia
 have g : (pre ++ vb e n ++ rest).getD pre.length 0 = (vb e n).getD 0 0 := by
  rw [List.append_assoc]
  simp only [List.getD_eq_getElem?_getD]
  rw [List.getElem?_append_right (Nat.le_refl _), Nat.sub_self, List.getElem?_append_left hl]
 rw [hp, g, vf]
 have hd : ∀ x : Int, x.fdiv (2 ^ (6 : Int).toNat) = x / 64 := fun x => Int.fdiv_eq_ediv_of_nonneg _ (by decide)
 rw [hd]
 rcases he with rfl | rfl | rfl | rfl
 ·have := gv 0 (n + off 0) (by simp [off]; lia) (by simp [off, lim] at *; lia)
  show (((beI (0 + 1) (n + off 0)).getD 0 0).toNat : Int) / 64 = 0
  rw [this]; simp [off, lim] at *; lia
 ·have := gv 1 (n + off 1) (by simp [off]; lia) (by simp [off, lim] at *; lia)
  show (((beI (1 + 1) (n + off 1)).getD 0 0).toNat : Int) / 64 = 1
  rw [this]; simp [off, lim] at *; lia
 ·have := gv 3 (n + off 2) (by simp [off]; lia) (by simp [off, lim] at *; lia)
  show (((beI (3 + 1) (n + off 2)).getD 0 0).toNat : Int) / 64 = 2
  rw [this]; simp [off, lim] at *; lia
 ·have := gv 7 (n + off 3) (by simp [off]; lia) (by simp [off, lim] at *; lia)
  show (((beI (7 + 1) (n + off 3)).getD 0 0).toNat : Int) / 64 = 3
  rw [this]; simp [off, lim] at *; lia
inductive sw : List AV → List aa → (SV → List aa → Prop) → Prop
 | mk {d : List UInt8} {a : Int} {K : SV → List aa → Prop} (pre e n rest : _) (_ : d = pre ++ vb e n ++ rest) (_ : a = (pre.length : Int)) (_ : (e = 0 ∨ e = 1 ∨ e = 2 ∨ e = 3)) (_ : 0 ≤ n) (_ : n < lim e) (_ : d.length ≤ 1000000) (_ : K (.tup [.int n, .int (a + (sz e : Int))]) []) : sw [.v (.bytes d), .v (.int a)] [] K
noncomputable def T97 : Tb := { glob := [("len", .bi .len), ("VARINT_SIZES", dv), ("get_whole", .ref 76)], fn := [(76, jN)], fnG := [], field := [], meth := [] }
theorem iW (w : World) : Rn sw T97 200 97 [] ["data", "at"] w := fun as cel K h => by
 obtain ⟨pre, e, n, rest, rfl, rfl, he, h0, h1, hd, k⟩ := h
 have hx := tj h0 h1 he pre rest
 have hlen : (pre ++ vb e n ++ rest).length = pre.length + sz e + rest.length := by rw [List.length_append, List.length_append, b9]
 have hs : 0 < sz e := by unfold sz; split <;> lia
 apply Gd.mk
 ·exact ah (Nat.le_trans hd (by decide))
 refine Br.f ?_ ?_
 ·rw [hlen]; simp only [decide_eq_false_iff_not]; push_cast; lia
 refine Gd.mk ?_ ?_
 ·rw [hlen]; simp only [Bool.and_eq_true, decide_eq_true_eq]; refine ⟨⟨?_, ?_⟩, ah ?_⟩ <;> lia
 conv => whnf
 rw [hx]
 have key : ∀ (i : Nat) (x : Int), x = ((2 ^ i : Nat) : Int) - 1 → (n + off e) % ((2 ^ i : Nat) : Int) = n → Builtin.bitAnd (hF (vb e n)) x = n := fun i x hx hm => by
  rw [hx, wb h0 h1, og (by unfold off; split <;> lia), hm]
 have eo : (e : Int) = Int.ofNat e := rfl
 rcases he with rfl | rfl | rfl | rfl
 ·refine jN.mk pre (vb 0 n) rest rfl rfl rfl (.inl (b9 0 n)) hd ?_
  conv => whnf
  rw [key 6 (1 * 2 ^ (8 * 1 - 2 : Int).toNat - 1) rfl (by simp [off, lim] at *; lia)]
  exact k
 ·refine jN.mk pre (vb 1 n) rest rfl rfl rfl (.inr (.inl (b9 1 n))) hd ?_
  conv => whnf
  rw [key 14 (1 * 2 ^ (8 * 2 - 2 : Int).toNat - 1) rfl (by simp [off, lim] at *; lia)]
  exact k
 ·refine jN.mk pre (vb 2 n) rest rfl rfl rfl (.inr (.inr (.inl (b9 2 n)))) hd ?_
  conv => whnf
  rw [key 30 (1 * 2 ^ (8 * 4 - 2 : Int).toNat - 1) rfl (by simp [off, lim] at *; lia)]
  exact k
 ·refine jN.mk pre (vb 3 n) rest rfl rfl rfl (.inr (.inr (.inr (b9 3 n)))) hd ?_
  conv => whnf
  rw [key 62 (1 * 2 ^ (8 * 8 - 2 : Int).toNat - 1) rfl (by simp [off, lim] at *; lia)]
  exact k
theorem EE (w : World) : aD 97 w := ⟨_, _, _, _, _, _, _, _, _, rfl, by kernel_rfl⟩
theorem yX (w : World) : Bnd (prm 97) ["data", "at"] := dG fun _ _ _ => by kernel_rfl
theorem EB (w : World) : aj w 97 2 16 sw :=
 aj.at (ns := ["data", "at"]) (T := T97) (U := 13) (D := 1) 97 [] 200 (EE w) (yX w) (by kernel_rfl) (fun as cel K h => by
  induction h using sw.casesOn; rfl) (aJ (.cons (fz w) (.cons (g_0 w) (.cons (C0 w) .nil))) (.cons (Cp w) rfl rfl (by kernel_rfl) .nil) .nil .nil .nil) (by decide) (iW w)
end
section
noncomputable abbrev rd (d : List UInt8) (a : Int) : List aa := [.inst 149 1, .idict [("data", .bytes d), ("at", .int a)]]
theorem cr (w : World) : dT w 149 "data" := ⟨by kernel_rfl, by kernel_rfl, ⟨none, by kernel_rfl, by kernel_rfl⟩, by kernel_rfl, by kernel_rfl, by kernel_rfl⟩
theorem cS (w : World) : dT w 149 "at" := ⟨by kernel_rfl, by kernel_rfl, ⟨none, by kernel_rfl, by kernel_rfl⟩, by kernel_rfl, by kernel_rfl, by kernel_rfl⟩
theorem io (w : World) : dD w 149 "left" 118 := ⟨by kernel_rfl, by kernel_rfl, by kernel_rfl, by kernel_rfl⟩
theorem eS (w : World) : dD w 149 "take" 125 := ⟨by kernel_rfl, by kernel_rfl, by kernel_rfl, by kernel_rfl⟩
theorem kU (w : World) : dD w 149 "whole" 139 := ⟨by kernel_rfl, by kernel_rfl, by kernel_rfl, by kernel_rfl⟩
theorem aG (w : World) : dD w 149 "varint" 146 := ⟨by kernel_rfl, by kernel_rfl, by kernel_rfl, by kernel_rfl⟩
theorem wt (w : World) : nV w 149 111 := ⟨by kernel_rfl, by kernel_rfl, by kernel_rfl⟩
noncomputable def At (d : List UInt8) (a : Int) (l : List UInt8) : Prop := (∃ pre, d = pre ++ l ∧ a = (pre.length : Int)) ∧ d.length ≤ 1000000
theorem At.len {d : List UInt8} {a : Int} {l : List UInt8} (h : At d a l) : (d.length : Int) = a + l.length := by
 obtain ⟨⟨pre, rfl, rfl⟩, _⟩ := h; rw [List.length_append]; push_cast; rfl
theorem At.next {d : List UInt8} {a : Int} {l r : List UInt8} {n : Int} (h : At d a (l ++ r)) (hn : n = (l.length : Int)) : At d (a + n) r := by
 obtain ⟨⟨pre, rfl, rfl⟩, b⟩ := h
 exact ⟨⟨pre ++ l, by rw [List.append_assoc], by rw [hn, List.length_append]; push_cast; rfl⟩, b⟩
inductive gX : List AV → List aa → (SV → List aa → Prop) → Prop
 | mk {d : List UInt8} {K : SV → List aa → Prop} (_ : K .none (rd d 0)) : gX [.c 0, .v (.bytes d)] [.inst 149 1, .idict []] K
inductive bu (p : List UInt8 → Int → (SV → Int → Prop) → Prop) : List AV → List aa → (SV → List aa → Prop) → Prop
 | mk {cel : List aa} {K : SV → List aa → Prop} (d a : _) (_ : cel = rd d a) (_ : p d a fun v b => K v (rd d b)) : bu p [.c 0] cel K
inductive aF (p : List UInt8 → Int → Int → (SV → Int → Prop) → Prop) : List AV → List aa → (SV → List aa → Prop) → Prop
 | mk {m : Int} {cel : List aa} {K : SV → List aa → Prop} (d a : _) (_ : cel = rd d a) (_ : p d a m fun v b => K v (rd d b)) : aF p [.c 0, .v (.int m)] cel K
inductive yh (d : List UInt8) (a : Int) (k : SV → Int → Prop) : Prop
 | mk (l : _) (_ : At d a l) (_ : k (.int l.length) a) : yh d a k
noncomputable def lz : Spec := bu yh
inductive yt (d : List UInt8) (a m : Int) (k : SV → Int → Prop) : Prop
 | mk (l r : _) (_ : At d a (l ++ r)) (_ : m = (l.length : Int)) (_ : k (.bytes l) (a + m)) : yt d a m k
noncomputable def i5 : Spec := aF yt
inductive qi (d : List UInt8) (a m : Int) (k : SV → Int → Prop) : Prop
 | mk (x r : _) (_ : At d a (x :: r)) (_ : m = 1) (_ : k (.int (x.toNat : Int)) (a + 1)) : qi d a m k
noncomputable def ju : Spec := aF qi
inductive iE (d : List UInt8) (a : Int) (k : SV → Int → Prop) : Prop
 | mk (e n r : _) (_ : At d a (vb e n ++ r)) (_ : (e = 0 ∨ e = 1 ∨ e = 2 ∨ e = 3)) (_ : 0 ≤ n) (_ : n < lim e) (_ : k (.int n) (a + (sz e : Int))) : iE d a k
noncomputable def bC : Spec := bu iE
noncomputable def Cr : Tb := { glob := [], fn := [], fnG := [], field := [(149, "data"), (149, "at")], meth := [] }
theorem tT (w : World) : Rn gX Cr 200 111 [] ["self", "data"] w := fun as cel K h => by
 obtain ⟨k⟩ := h
 exact k
theorem CL (w : World) : aD 111 w := ⟨_, _, _, _, _, _, _, _, _, rfl, by kernel_rfl⟩
theorem vW (w : World) : Bnd (prm 111) ["self", "data"] := dG fun _ _ _ => by kernel_rfl
theorem B8 (w : World) : ei w 111 1 13 gX :=
 ei.at (ns := ["self", "data"]) (T := Cr) (U := 10) (D := 0) 111 [] 200 (CL w) (vW w) (by kernel_rfl) (fun as cel K h => by
  induction h using gX.casesOn; rfl) (aJ .nil .nil .nil (.cons (cr w) (.cons (cS w) .nil)) .nil) (by decide) (tT w)
noncomputable def DY : Tb := { glob := [("len", .bi .len)], fn := [], fnG := [], field := [(149, "data"), (149, "at")], meth := [] }
theorem uB (w : World) : Rn lz DY 200 118 [] ["self"] w := fun as cel K h => by
 obtain ⟨d, a, rfl, l, hat, k⟩ := h
 apply Gd.mk
 ·exact ah (Nat.le_trans hat.2 (by decide))
 conv => whnf
 have e : (d.length : Int) - a = l.length := by rw [hat.len]; lia
 rw [← e] at k
 exact k
theorem Bz (w : World) : aD 118 w := ⟨_, _, _, _, _, _, _, _, _, rfl, by kernel_rfl⟩
theorem vE (w : World) : Bnd (prm 118) ["self"] := b7 fun _ _ => by kernel_rfl
theorem yd (w : World) : aj w 118 1 13 lz :=
 aj.at (ns := ["self"]) (T := DY) (U := 10) (D := 0) 118 [] 200 (Bz w) (vE w) (by kernel_rfl) (fun as cel K h => by
  induction h using bu.casesOn; rfl) (aJ (.cons (fz w) .nil) .nil .nil (.cons (cr w) (.cons (cS w) .nil)) .nil) (by decide) (uB w)
noncomputable def Cs : Tb := { glob := [], fn := [(118, lz)], fnG := [], field := [(149, "data"), (149, "at")], meth := [((149, "left"), 118)] }
theorem uP (w : World) : Rn i5 Cs 200 125 [] ["self", "many"] w := fun as cel K h => by
 obtain ⟨d, a, rfl, l, r, hat, rfl, k⟩ := h
 refine bu.mk d a rfl ⟨l ++ r, hat, ?_⟩
 refine Br.f ?_ ?_
 ·simp only [decide_eq_false_iff_not, List.length_append, Int.not_lt]; push_cast; lia
 apply Gd.mk
 ·exact ah (Nat.le_trans hat.2 (by decide))
 conv => whnf
 have e : cV d (some (a + (l.length : Int) - (l.length : Int))) (some (a + (l.length : Int))) = l := by
  obtain ⟨⟨pre, rfl, rfl⟩, _⟩ := hat
  rw [Int.add_sub_cancel, ← List.append_assoc]
  exact ku pre l r
 rw [e]
 exact k
theorem CE (w : World) : aD 125 w := ⟨_, _, _, _, _, _, _, _, _, rfl, by kernel_rfl⟩
theorem wZ (w : World) : Bnd (prm 125) ["self", "many"] := dG fun _ _ _ => by kernel_rfl
theorem tV (w : World) : aj w 125 2 16 i5 :=
 aj.at (ns := ["self", "many"]) (T := Cs) (U := 13) (D := 1) 125 [] 200 (CE w) (wZ w) (by kernel_rfl) (fun as cel K h => by
  induction h using aF.casesOn; rfl) (aJ .nil (.cons (yd w) rfl rfl (by kernel_rfl) .nil) .nil (.cons (cr w) (.cons (cS w) .nil)) (.cons (io w) .nil)) (by decide) (uP w)
noncomputable def AA : Tb := { glob := [("get_whole", .ref 76)], fn := [(76, jN)], fnG := [], field := [(149, "data"), (149, "at")], meth := [] }
theorem pK (w : World) : Rn ju AA 200 139 [] ["self", "size"] w := fun as cel K h => by
 obtain ⟨d, a, rfl, x, r, hat, rfl, k⟩ := h
 conv => whnf
 obtain ⟨⟨pre, rfl, rfl⟩, hd⟩ := hat
 refine ⟨pre, [x], r, by rw [List.append_assoc]; rfl, rfl, rfl, .inl rfl, hd, ?_⟩
 conv => whnf
 have e : hF [x] = (x.toNat : Int) := by show (0 * 256 + (x.toNat : Int)) = _; lia
 rw [e]
 exact k
theorem Co (w : World) : aD 139 w := ⟨_, _, _, _, _, _, _, _, _, rfl, by kernel_rfl⟩
theorem xu (w : World) : Bnd (prm 139) ["self", "size"] := dG fun _ _ _ => by kernel_rfl
theorem BQ (w : World) : aj w 139 2 16 ju :=
 aj.at (ns := ["self", "size"]) (T := AA) (U := 13) (D := 1) 139 [] 200 (Co w) (xu w) (by kernel_rfl) (fun as cel K h => by
  induction h using aF.casesOn; rfl) (aJ (.cons (C0 w) .nil) (.cons (Cp w) rfl rfl (by kernel_rfl) .nil) .nil (.cons (cr w) (.cons (cS w) .nil)) .nil) (by decide) (pK w)
noncomputable def Dq : Tb := { glob := [("get_varint", .ref 97)], fn := [(97, sw)], fnG := [], field := [(149, "data"), (149, "at")], meth := [] }
theorem nf (w : World) : Rn bC Dq 200 146 [] ["self"] w := fun as cel K h => by
 obtain ⟨d, a, rfl, e, n, r, hat, he, h0, h1, k⟩ := h
 conv => whnf
 obtain ⟨⟨pre, rfl, rfl⟩, hd⟩ := hat
 refine ⟨pre, e, n, r, by rw [List.append_assoc], rfl, he, h0, h1, hd, ?_⟩
 exact k
theorem Dx (w : World) : aD 146 w := ⟨_, _, _, _, _, _, _, _, _, rfl, by kernel_rfl⟩
theorem xL (w : World) : Bnd (prm 146) ["self"] := b7 fun _ _ => by kernel_rfl
theorem fF (w : World) : aj w 146 3 19 bC :=
 aj.at (ns := ["self"]) (T := Dq) (U := 16) (D := 2) 146 [] 200 (Dx w) (xL w) (by kernel_rfl) (fun as cel K h => by
  induction h using bu.casesOn; rfl) (aJ (.cons (E9 w) .nil) (.cons (EB w) rfl rfl (by kernel_rfl) .nil) .nil (.cons (cr w) (.cons (cS w) .nil)) .nil) (by decide) (nf w)
end
section
structure Nm (e : Nat) (n : Int) : Prop where
 he : e = 0 ∨ e = 1 ∨ e = 2 ∨ e = 3
 h0 : 0 ≤ n
 h1 : n < lim e
theorem At.vb {d : List UInt8} {a : Int} {e : Nat} {n : Int} {r : List UInt8} (h : At d a (vb e n ++ r)) : At d (a + (sz e : Int)) r := h.next (by rw [b9])
theorem At.app {d : List UInt8} {a : Int} {l r : List UInt8} (h : At d a (l ++ r)) : At d (a + (l.length : Int)) r := h.next rfl
theorem At.bound {d : List UInt8} {a : Int} {l : List UInt8} (h : At d a l) : l.length ≤ 1000000 := by
 obtain ⟨⟨pre, rfl, _⟩, b⟩ := h; rw [List.length_append] at b; lia
inductive yw (d : List UInt8) (a : Int) (k : SV → Int → Prop) : Prop
 | mk (t r : _) (_ : 0 ≤ t) (_ : t < 64) (_ : At d a (Mine.vb 0 t ++ r)) (_ : ∀ b, At d b r → k (.int t) b) : yw d a k
noncomputable def pq : Spec := bu yw
inductive nN (d : List UInt8) (a : Int) (k : SV → Int → Prop) : Prop
 | mk (e l r : _) (_ : Nm e ((l : List UInt8).length : Int)) (_ : At d a (Mine.vb e l.length ++ (l ++ r))) (_ : ∀ b, At d b r → k (.bytes l) b) : nN d a k
noncomputable def cR : Spec := bu nN
noncomputable def DU : Tb := { glob := [("varint_size", .ref 83)], fn := [(83, lu), (146, bC)], fnG := [], field := [(149, "at")], meth := [((149, "varint"), 146)] }
theorem ua (w : World) : Rn pq DU 200 182 [] ["reader"] w := fun as cel K h => by
 obtain ⟨d, a, rfl, t, r, h0, h1, hat, k⟩ := h
 refine bu.mk d a rfl ⟨0, t, r, hat, .inl rfl, h0, h1, ?_⟩
 refine nJ.mk ⟨h0, by lia, fun _ => ?_, fun q => absurd h1 (by lia), fun q => absurd h1 (by lia), fun q => absurd h1 (by lia)⟩
 refine Br.f ?_ ?_
 ·have : a + ((sz 0 : Nat) : Int) - a = 1 := by show a + 1 - a = 1; lia
  rw [this]; rfl
 exact k _ hat.vb
theorem DH (w : World) : aD 182 w := ⟨_, _, _, _, _, _, _, _, _, rfl, by kernel_rfl⟩
theorem w3 (w : World) : Bnd (prm 182) ["reader"] := b7 fun _ _ => by kernel_rfl
theorem A3 (w : World) : aj w 182 4 22 pq :=
 aj.at (ns := ["reader"]) (T := DU) (U := 19) (D := 3) 182 [] 200 (DH w) (w3 w) (by kernel_rfl) (fun as cel K h => by
  induction h using bu.casesOn; rfl) (aJ (.cons (CC w) .nil) (.cons (AK w) rfl rfl (by kernel_rfl) (.cons (fF w) rfl rfl (by kernel_rfl) .nil)) .nil (.cons (cS w) .nil) (.cons (aG w) .nil)) (by decide) (ua w)
noncomputable def Bv : Tb := { glob := [], fn := [(146, bC), (125, i5)], fnG := [], field := [], meth := [((149, "varint"), 146), ((149, "take"), 125)] }
theorem m9 (w : World) : Rn cR Bv 200 189 [] ["reader"] w := fun as cel K h => by
 obtain ⟨d, a, rfl, e, l, r, nm, hat, k⟩ := h
 refine bu.mk d a rfl ⟨e, _, _, hat, nm.he, nm.h0, nm.h1, ?_⟩
 refine aF.mk d _ rfl ⟨l, r, hat.vb, rfl, ?_⟩
 exact k _ hat.vb.app
theorem BB (w : World) : aD 189 w := ⟨_, _, _, _, _, _, _, _, _, rfl, by kernel_rfl⟩
theorem v7 (w : World) : Bnd (prm 189) ["reader"] := b7 fun _ _ => by kernel_rfl
theorem pT (w : World) : aj w 189 4 22 cR :=
 aj.at (ns := ["reader"]) (T := Bv) (U := 19) (D := 3) 189 [] 200 (BB w) (v7 w) (by kernel_rfl) (fun as cel K h => by
  induction h using bu.casesOn; rfl) (aJ .nil (.cons (fF w) rfl rfl (by kernel_rfl) (.cons (tV w) rfl rfl (by kernel_rfl) .nil)) .nil .nil (.cons (aG w) (.cons (eS w) .nil))) (by decide) (m9 w)
inductive qs (d : List UInt8) (a told : Int) (k : SV → Int → Prop) : Prop
 | mk (e1 e2 e3 e4 e5 e6 delay low r : _) (_ : Nm e1 (low + 2)) (_ : Nm e2 delay) (_ : Nm e3 1) (_ : Nm e4 2) (_ : Nm e5 2) (_ : Nm e6 3) (_ : 7 ≤ low) (_ : At d a (Mine.vb e1 (low + 2) ++ (Mine.vb e2 delay ++ (Mine.vb e3 1 ++ (Mine.vb e4 2 ++ (Mine.vb e5 2 ++ (Mine.vb e6 3 ++ r))))))) (_ : ∀ b, At d b r → k (.tup [.int delay, .tup [.tup [.int low, .int (low + 2)], .tup [.int (low - 7), .int (low - 4)]]]) b) : qs d a told k
noncomputable def iL : Spec := aF qs
noncomputable def Bn : Tb := { glob := [("range", .ty .range), ("tuple", .ty .tuple)], fn := [(146, bC)], fnG := [], field := [], meth := [((149, "varint"), 146)] }
theorem pj (w : World) : Rn iL Bn 200 196 [131013] ["reader", "told"] w := fun as cel K h => by
 obtain ⟨d, a, rfl, e1, e2, e3, e4, e5, e6, delay, low, r, n1, n2, n3, n4, n5, n6, hl, hat, k⟩ := h
 refine bu.mk d _ rfl ⟨e1, _, _, hat, n1.he, n1.h0, n1.h1, ?_⟩
 refine bu.mk d _ rfl ⟨e2, _, _, hat.vb, n2.he, n2.h0, n2.h1, ?_⟩
 refine bu.mk d _ rfl ⟨e3, _, _, hat.vb.vb, n3.he, n3.h0, n3.h1, ?_⟩
 refine bu.mk d _ rfl ⟨e4, _, _, hat.vb.vb.vb, n4.he, n4.h0, n4.h1, ?_⟩
 apply Br.f
 ·exact decide_eq_false (by lia)
 apply bh.mk
 refine bu.mk d _ rfl ⟨e5, _, _, hat.vb.vb.vb.vb, n5.he, n5.h0, n5.h1, ?_⟩
 refine bu.mk d _ rfl ⟨e6, _, _, hat.vb.vb.vb.vb.vb, n6.he, n6.h0, n6.h1, ?_⟩
 apply Br.f
 ·exact decide_eq_false (by lia)
 conv => whnf
 have k' := k _ hat.vb.vb.vb.vb.vb.vb
 have z1 : low = low + 2 - 2 := by lia
 have z2 : low - 4 = low + 2 - 2 - 2 - 2 := by lia
 have z3 : low - 7 = low + 2 - 2 - 2 - 2 - 3 := by lia
 rw [z2, z3] at k'
 generalize hx : low + 2 = x at k' z1 ⊢
 subst z1
 exact k'
theorem C6 (w : World) : aD 196 w := ⟨_, _, _, _, _, _, _, _, _, rfl, by kernel_rfl⟩
theorem wf (w : World) : Bnd (prm 196) ["reader", "told"] := dG fun _ _ _ => by kernel_rfl
theorem A0 (w : World) : aj w 196 4 22 iL :=
 aj.at (ns := ["reader", "told"]) (T := Bn) (U := 19) (D := 3) 196 [131013] 200 (C6 w) (wf w) (by kernel_rfl) (fun as cel K h => by
  induction h using aF.casesOn; rfl) (aJ (.cons (oz w) (.cons (xx w) .nil)) (.cons (fF w) rfl rfl (by kernel_rfl) .nil) .nil .nil (.cons (aG w) .nil)) (by decide) (pj w)
end
section
noncomputable def vx (low : Int) : SV := .tup [.tup [.int low, .int (low + 2)], .tup [.int (low - 7), .int (low - 4)]]
inductive vV (d : List UInt8) (a told : Int) (k : SV → Int → Prop) : Prop
 | mk (e1 e2 e3 e4 e5 e6 delay low tl : _) (_ : Nm e1 (low + 2)) (_ : Nm e2 delay) (_ : Nm e3 1) (_ : Nm e4 2) (_ : Nm e5 2) (_ : Nm e6 3) (_ : 7 ≤ low) (_ : At d a (Mine.vb e1 (low + 2) ++ (Mine.vb e2 delay ++ (Mine.vb e3 1 ++ (Mine.vb e4 2 ++ (Mine.vb e5 2 ++ (Mine.vb e6 3 ++ tl))))))) (_ : ((told = 2 ∧ ∀ b, At d b tl → k (.tup [.str "ack", .int delay, vx low, .none]) b) ∨ (told = 3 ∧ ∃ f1 f2 f3 r, Nm f1 1 ∧ Nm f2 0 ∧ Nm f3 300 ∧ tl = Mine.vb f1 1 ++ (Mine.vb f2 0 ++ (Mine.vb f3 300 ++ r)) ∧ ∀ b, At d b r → k (.tup [.str "ack", .int delay, vx low, .tup [.int 1, .int 0, .int 300]]) b))) : vV d a told k
noncomputable def uk : Spec := aF vV
inductive iD (d : List UInt8) (a told : Int) (k : SV → Int → Prop) : Prop
 | mk (e1 e2 e3 num off l r fin : _) (_ : Nm e1 num) (_ : Nm e2 off) (_ : Nm e3 ((l : List UInt8).length : Int)) (_ : off < 1000000000000) (_ : told = (match fin with | true => 15 | false => 14)) (_ : At d a (Mine.vb e1 num ++ (Mine.vb e2 off ++ (Mine.vb e3 l.length ++ (l ++ r))))) (_ : ∀ b, At d b r → k (.tup [.str "stream", .int num, .int off, .bytes l, .bool fin]) b) : iD d a told k
noncomputable def iR : Spec := aF iD
inductive qd (d : List UInt8) (a told : Int) (k : SV → Int → Prop) : Prop
 | mk (e2 e3 off l r : _) (_ : Nm e2 off) (_ : Nm e3 ((l : List UInt8).length : Int)) (_ : off < 1000000000000) (_ : At d a (Mine.vb e2 off ++ (Mine.vb e3 l.length ++ (l ++ r)))) (_ : ∀ b, At d b r → k (.tup [.str "crypto", .int off, .bytes l]) b) : qd d a told k
noncomputable def jE : Spec := aF qd
inductive uM (d : List UInt8) (a told : Int) (k : SV → Int → Prop) : Prop
 | mk (e1 e2 s p c t r : _) (_ : Nm e1 s) (_ : Nm e2 p) (_ : p ≤ s) (_ : 1 ≤ (c : List UInt8).length) (_ : c.length ≤ 20) (_ : (t : List UInt8).length = 16) (_ : At d a (Mine.vb e1 s ++ (Mine.vb e2 p ++ (c.length.toUInt8 :: (c ++ (t ++ r)))))) (_ : ∀ b, At d b r → k (.tup [.str "new_connection_id", .int s, .int p, .bytes c, .bytes t]) b) : uM d a told k
noncomputable def oY : Spec := aF uM
inductive lJ (d : List UInt8) (a told : Int) (k : SV → Int → Prop) : Prop
 | mk (e1 e3 c tl l r : _) (_ : Nm e1 c) (_ : Nm e3 ((l : List UInt8).length : Int)) (_ : ((told = 29 ∧ tl = Mine.vb e3 l.length ++ (l ++ r) ∧ ∀ b, At d b r → k (.tup [.str "close", .int c, .none, .bytes l]) b) ∨ (told = 28 ∧ ∃ e2 f, Nm e2 f ∧ tl = Mine.vb e2 f ++ (Mine.vb e3 l.length ++ (l ++ r)) ∧ ∀ b, At d b r → k (.tup [.str "close", .int c, .int f, .bytes l]) b))) (_ : At d a (Mine.vb e1 c ++ tl)) : lJ d a told k
noncomputable def lR : Spec := aF lJ
noncomputable def DA : Tb := { glob := [("read_ranges", .ref 196), ("ACK_ECN", .int 3), ("range", .ty .range), ("tuple", .ty .tuple)], fn := [(196, iL), (146, bC)], fnG := [], field := [], meth := [((149, "varint"), 146)] }
theorem v6 (w : World) : Rn uk DA 200 201 [] ["reader", "told"] w := fun as cel K h => by
 obtain ⟨d, a, rfl, e1, e2, e3, e4, e5, e6, delay, low, tl, n1, n2, n3, n4, n5, n6, hl, hat, h⟩ := h
 refine aF.mk d _ rfl ⟨e1, e2, e3, e4, e5, e6, delay, low, _, n1, n2, n3, n4, n5, n6, hl, hat, fun b hb => ?_⟩
 conv => whnf
 rcases h with ⟨rfl, k⟩ | ⟨rfl, f1, f2, f3, r, m1, m2, m3, rfl, k⟩
 ·exact k b hb
 ·apply bh.mk
  refine bu.mk d _ rfl ⟨f1, _, _, hb, m1.he, m1.h0, m1.h1, ?_⟩
  refine bu.mk d _ rfl ⟨f2, _, _, hb.vb, m2.he, m2.h0, m2.h1, ?_⟩
  refine bu.mk d _ rfl ⟨f3, _, _, hb.vb.vb, m3.he, m3.h0, m3.h1, ?_⟩
  exact k _ hb.vb.vb.vb
theorem DG (w : World) : aD 201 w := ⟨_, _, _, _, _, _, _, _, _, rfl, by kernel_rfl⟩
theorem xi (w : World) : Bnd (prm 201) ["reader", "told"] := dG fun _ _ _ => by kernel_rfl
theorem Di (w : World) : aj w 201 5 25 uk :=
 aj.at (ns := ["reader", "told"]) (T := DA) (U := 22) (D := 4) 201 [] 200 (DG w) (xi w) (by kernel_rfl) (fun as cel K h => by
  induction h using aF.casesOn; rfl) (aJ (.cons (Fa w) (.cons (zz w) (.cons (oz w) (.cons (xx w) .nil)))) (.cons (A0 w) rfl rfl (by kernel_rfl) (.cons (fF w) rfl rfl (by kernel_rfl) .nil)) .nil .nil (.cons (aG w) .nil)) (by decide) (v6 w)
noncomputable def Az : Tb := { glob := [("STREAM", .int 8), ("BIT_OFFSET", .int 4), ("BIT_LENGTH", .int 2), ("BIT_FIN", .int 1), ("GREATEST", .int 4611686018427387903), ("read_counted", .ref 189), ("len", .bi .len)], fn := [(189, cR), (146, bC)], fnG := [], field := [], meth := [((149, "varint"), 146)] }
theorem oZ (w : World) : Rn iR Az 200 208 [] ["reader", "told"] w := fun as cel K h => by
 obtain ⟨d, a, rfl, e1, e2, e3, num, off, l, r, fin, n1, n2, n3, hoff, rfl, hat, k⟩ := h
 have hb := hat.vb.vb.vb.bound
 rw [List.length_append] at hb
 have go : ∀ (told : Int) , told = 14 ∨ told = 15 → True := fun _ _ => trivial
 induction fin using Bool.casesOn
 all_goals
  refine bu.mk d _ rfl ⟨e1, _, _, hat, n1.he, n1.h0, n1.h1, ?_⟩
  refine bu.mk d _ rfl ⟨e2, _, _, hat.vb, n2.he, n2.h0, n2.h1, ?_⟩
  refine bu.mk d _ rfl ⟨e3, l, r, n3, hat.vb.vb, fun b hb' => ?_⟩
  conv => whnf
  apply Gd.mk
  ·exact ah (by lia)
  conv => whnf
  apply Br.f
  ·exact decide_eq_false (by lia)
  conv => whnf
  exact k b hb'
theorem Aq (w : World) : aD 208 w := ⟨_, _, _, _, _, _, _, _, _, rfl, by kernel_rfl⟩
theorem vh (w : World) : Bnd (prm 208) ["reader", "told"] := dG fun _ _ _ => by kernel_rfl
theorem DI (w : World) : aj w 208 5 25 iR :=
 aj.at (ns := ["reader", "told"]) (T := Az) (U := 22) (D := 4) 208 [] 200 (Aq w) (vh w) (by kernel_rfl) (fun as cel K h => by
  induction h using aF.casesOn; rfl) (aJ (.cons (yU w) (.cons (A1 w) (.cons (Ck w) (.cons (Ag w) (.cons (Ad w) (.cons (xz w) (.cons (fz w) .nil))))))) (.cons (pT w) rfl rfl (by kernel_rfl) (.cons (fF w) rfl rfl (by kernel_rfl) .nil)) .nil .nil (.cons (aG w) .nil)) (by decide) (oZ w)
noncomputable def B3 : Tb := { glob := [("read_counted", .ref 189), ("GREATEST", .int 4611686018427387903), ("len", .bi .len)], fn := [(189, cR), (146, bC)], fnG := [], field := [], meth := [((149, "varint"), 146)] }
theorem n0 (w : World) : Rn jE B3 200 215 [] ["reader", "told"] w := fun as cel K h => by
 obtain ⟨d, a, rfl, e2, e3, off, l, r, n2, n3, hoff, hat, k⟩ := h
 have hb := hat.vb.vb.bound
 rw [List.length_append] at hb
 refine bu.mk d _ rfl ⟨e2, _, _, hat, n2.he, n2.h0, n2.h1, ?_⟩
 refine bu.mk d _ rfl ⟨e3, l, r, n3, hat.vb, fun b hb' => ?_⟩
 conv => whnf
 apply Gd.mk
 ·exact ah (by lia)
 conv => whnf
 apply Br.f
 ·exact decide_eq_false (by lia)
 conv => whnf
 exact k b hb'
theorem An (w : World) : aD 215 w := ⟨_, _, _, _, _, _, _, _, _, rfl, by kernel_rfl⟩
theorem xU (w : World) : Bnd (prm 215) ["reader", "told"] := dG fun _ _ _ => by kernel_rfl
theorem AH (w : World) : aj w 215 5 25 jE :=
 aj.at (ns := ["reader", "told"]) (T := B3) (U := 22) (D := 4) 215 [] 200 (An w) (xU w) (by kernel_rfl) (fun as cel K h => by
  induction h using aF.casesOn; rfl) (aJ (.cons (xz w) (.cons (Ad w) (.cons (fz w) .nil))) (.cons (pT w) rfl rfl (by kernel_rfl) (.cons (fF w) rfl rfl (by kernel_rfl) .nil)) .nil .nil (.cons (aG w) .nil)) (by decide) (n0 w)
noncomputable def Bs : Tb := { glob := [("CID_SIZE", .int 20), ("TOKEN_SIZE", .int 16)], fn := [(146, bC), (139, ju), (125, i5)], fnG := [], field := [], meth := [((149, "varint"), 146), ((149, "whole"), 139), ((149, "take"), 125)] }
theorem uA (w : World) : Rn oY Bs 200 222 [] ["reader", "told"] w := fun as cel K h => by
 obtain ⟨d, a, rfl, e1, e2, s, p, c, t, r, n1, n2, hps, c1, c2, ht, hat, k⟩ := h
 refine bu.mk d _ rfl ⟨e1, _, _, hat, n1.he, n1.h0, n1.h1, ?_⟩
 refine bu.mk d _ rfl ⟨e2, _, _, hat.vb, n2.he, n2.h0, n2.h1, ?_⟩
 apply Br.f
 ·exact decide_eq_false (by lia)
 refine aF.mk d _ rfl ⟨_, _, hat.vb.vb, rfl, ?_⟩
 have hz : ((c.length.toUInt8.toNat : Nat) : Int) = c.length := by
  have : c.length.toUInt8.toNat = c.length := by simp [Nat.toUInt8]; lia
  rw [this]
 rw [hz]
 apply Br.f
 ·exact decide_eq_false (by lia)
 apply Br.f
 ·exact decide_eq_false (by lia)
 conv => whnf
 have h3 : At d (a + (sz e1 : Int) + (sz e2 : Int) + 1) (c ++ (t ++ r)) := At.next (l := [c.length.toUInt8]) hat.vb.vb rfl
 refine ⟨d, _, rfl, c, _, h3, rfl, ?_⟩
 refine aF.mk d _ rfl ⟨t, r, h3.app, by rw [ht]; rfl, ?_⟩
 conv => whnf
 have h4 := h3.app.app
 rw [ht] at h4
 exact k _ h4
theorem Bo (w : World) : aD 222 w := ⟨_, _, _, _, _, _, _, _, _, rfl, by kernel_rfl⟩
theorem vU (w : World) : Bnd (prm 222) ["reader", "told"] := dG fun _ _ _ => by kernel_rfl
theorem Aa (w : World) : aj w 222 4 22 oY :=
 aj.at (ns := ["reader", "told"]) (T := Bs) (U := 19) (D := 3) 222 [] 200 (Bo w) (vU w) (by kernel_rfl) (fun as cel K h => by
  induction h using aF.casesOn; rfl) (aJ (.cons (Fw w) (.cons (Ey w) .nil)) (.cons (fF w) rfl rfl (by kernel_rfl) (.cons (BQ w) rfl rfl (by kernel_rfl) (.cons (tV w) rfl rfl (by kernel_rfl) .nil))) .nil .nil (.cons (aG w) (.cons (kU w) (.cons (eS w) .nil)))) (by decide) (uA w)
noncomputable def AB : Tb := { glob := [("CLOSE", .int 28), ("read_counted", .ref 189)], fn := [(189, cR), (146, bC)], fnG := [], field := [], meth := [((149, "varint"), 146)] }
theorem rW (w : World) : Rn lR AB 200 229 [] ["reader", "told"] w := fun as cel K h => by
 obtain ⟨d, a, rfl, e1, e3, c, tl, l, r, n1, n3, h, hat⟩ := h
 rcases h with ⟨rfl, rfl, k⟩ | ⟨rfl, e2, f, n2, rfl, k⟩
 ·refine bu.mk d _ rfl ⟨e1, _, _, hat, n1.he, n1.h0, n1.h1, ?_⟩
  refine bu.mk d _ rfl ⟨e3, l, r, n3, hat.vb, fun b hb' => ?_⟩
  exact k b hb'
 ·refine bu.mk d _ rfl ⟨e1, _, _, hat, n1.he, n1.h0, n1.h1, ?_⟩
  refine bu.mk d _ rfl ⟨e2, _, _, hat.vb, n2.he, n2.h0, n2.h1, ?_⟩
  refine bu.mk d _ rfl ⟨e3, l, r, n3, hat.vb.vb, fun b hb' => ?_⟩
  exact k b hb'
theorem Af (w : World) : aD 229 w := ⟨_, _, _, _, _, _, _, _, _, rfl, by kernel_rfl⟩
theorem v8 (w : World) : Bnd (prm 229) ["reader", "told"] := dG fun _ _ _ => by kernel_rfl
theorem BM (w : World) : aj w 229 5 25 lR :=
 aj.at (ns := ["reader", "told"]) (T := AB) (U := 22) (D := 4) 229 [] 200 (Af w) (v8 w) (by kernel_rfl) (fun as cel K h => by
  induction h using aF.casesOn; rfl) (aJ (.cons (yW w) (.cons (xz w) .nil)) (.cons (pT w) rfl rfl (by kernel_rfl) (.cons (fF w) rfl rfl (by kernel_rfl) .nil)) .nil .nil (.cons (aG w) .nil)) (by decide) (rW w)
end
section
inductive Fm where
 | ping
 | ack (delay low : Int) (e : Bool)
 | crypto (off : Int) (l : List UInt8)
 | stream (num off : Int) (l : List UInt8) (fin : Bool)
 | maxData (n : Int)
 | maxStreams (u : Bool) (n : Int)
 | ncid (p : Int) (c : List UInt8)
 | pathResp
 | close (c : Int) (ft : Bool) (l : List UInt8)
 | done
 | retire (n : Int)
 | pathChal
 | newToken (l : List UInt8)
noncomputable def Ez : Bool → SV
 | true => .tup [.int 1, .int 0, .int 300]
 | false => .none
noncomputable def sFt : Bool → SV
 | true => .int 6
 | false => .none
noncomputable def Fm.sv : Fm → SV
 | .ping => .tup [.str "ping"]
 | .ack d low e => .tup [.str "ack", .int d, vx low, Ez e]
 | .crypto o l => .tup [.str "crypto", .int o, .bytes l]
 | .stream n o l f => .tup [.str "stream", .int n, .int o, .bytes l, .bool f]
 | .maxData n => .tup [.str "max_data", .int n]
 | .maxStreams u n => .tup [.str "max_streams", .bool u, .int n]
 | .ncid p c => .tup [.str "new_connection_id", .int (p + 1), .int p, .bytes c, .bytes (cz 0 16)]
 | .pathResp => .tup [.str "path_response", .bytes (cz 0 8)]
 | .close c ft l => .tup [.str "close", .int c, sFt ft, .bytes l]
 | .done => .tup [.str "handshake_done"]
 | .retire n => .tup [.str "retire_connection_id", .int n]
 | .pathChal => .tup [.str "path_challenge", .bytes (cz 0 8)]
 | .newToken l => .tup [.str "new_token", .bytes l]
noncomputable def Fm.told : Fm → Int
 | .ping => 1
 | .ack _ _ true => 3
 | .ack _ _ false => 2
 | .crypto _ _ => 6
 | .newToken _ => 7
 | .stream _ _ _ true => 15
 | .stream _ _ _ false => 14
 | .maxData _ => 16
 | .maxStreams true _ => 19
 | .maxStreams false _ => 18
 | .ncid _ _ => 24
 | .retire _ => 25
 | .pathChal => 26
 | .pathResp => 27
 | .close _ true _ => 28
 | .close _ false _ => 29
 | .done => 30
noncomputable def BdR : Fm → List UInt8 → List UInt8 → Prop
 | .ping, l, r => l = r
 | .done, l, r => l = r
 | .ack d low e, l, r => ∃ e1 e2 e3 e4 e5 e6 tl, Nm e1 (low + 2) ∧ Nm e2 d ∧ Nm e3 1 ∧ Nm e4 2 ∧ Nm e5 2 ∧ Nm e6 3 ∧ 7 ≤ low ∧ l = Mine.vb e1 (low + 2) ++ (Mine.vb e2 d ++ (Mine.vb e3 1 ++ (Mine.vb e4 2 ++ (Mine.vb e5 2 ++ (Mine.vb e6 3 ++ tl))))) ∧
  (match e with | false => tl = r | true => ∃ f1 f2 f3, Nm f1 1 ∧ Nm f2 0 ∧ Nm f3 300 ∧ tl = Mine.vb f1 1 ++ (Mine.vb f2 0 ++ (Mine.vb f3 300 ++ r)))
 | .crypto o x, l, r => ∃ e2 e3, Nm e2 o ∧ Nm e3 (x.length : Int) ∧ o < 1000000000000 ∧ l = Mine.vb e2 o ++ (Mine.vb e3 x.length ++ (x ++ r))
 | .stream n o x _, l, r => ∃ e1 e2 e3, Nm e1 n ∧ Nm e2 o ∧ Nm e3 (x.length : Int) ∧ o < 1000000000000 ∧ l = Mine.vb e1 n ++ (Mine.vb e2 o ++ (Mine.vb e3 x.length ++ (x ++ r)))
 | .maxData n, l, r => ∃ e, Nm e n ∧ l = Mine.vb e n ++ r
 | .retire n, l, r => ∃ e, Nm e n ∧ l = Mine.vb e n ++ r
 | .maxStreams _ n, l, r => ∃ e, Nm e n ∧ n ≤ 1000000000000 ∧ l = Mine.vb e n ++ r
 | .ncid p c, l, r => ∃ e1 e2, Nm e1 (p + 1) ∧ Nm e2 p ∧ 1 ≤ c.length ∧ c.length ≤ 20 ∧ l = Mine.vb e1 (p + 1) ++ (Mine.vb e2 p ++ (c.length.toUInt8 :: (c ++ (cz 0 16 ++ r))))
 | .pathResp, l, r => l = cz 0 8 ++ r
 | .pathChal, l, r => l = cz 0 8 ++ r
 | .close c ft x, l, r => ∃ e1 e3 tl, Nm e1 c ∧ Nm e3 (x.length : Int) ∧ l = Mine.vb e1 c ++ tl ∧ (match ft with | false => tl = Mine.vb e3 x.length ++ (x ++ r) | true => ∃ e2, Nm e2 6 ∧ tl = Mine.vb e2 6 ++ (Mine.vb e3 x.length ++ (x ++ r)))
 | .newToken x, l, r => ∃ e, Nm e (x.length : Int) ∧ 1 ≤ x.length ∧ l = Mine.vb e x.length ++ (x ++ r)
noncomputable def yn : Fm → Bool
 | .crypto _ _ => true
 | .newToken _ => true
 | .pathChal => true
 | .pathResp => true
 | .maxStreams _ _ => true
 | _ => false
inductive mV (d : List UInt8) (a told : Int) (k : SV → Int → Prop) : Prop
 | mk (f l r : _) (_ : yn f = true) (_ : told = f.told) (_ : BdR f l r) (_ : At d a l) (_ : ∀ b, At d b r → k f.sv b) : mV d a told k
noncomputable def tz : Spec := aF mV
inductive yr (d : List UInt8) (a told : Int) (k : SV → Int → Prop) : Prop
 | mk (f l r : _) (_ : told = f.told) (_ : BdR f l r) (_ : At d a l) (_ : ∀ b, At d b r → k f.sv b) : yr d a told k
noncomputable def pR : Spec := aF yr
noncomputable def AX : Tb := { glob := [("CRYPTO", .int 6), ("NEW_TOKEN", .int 7), ("read_crypto", .ref 215), ("read_counted", .ref 189), ("PATH_CHALLENGE", .int 26), ("PATH_RESPONSE", .int 27), ("CHALLENGE_SIZE", .int 8), ("COUNT_FRAMES", fG), ("MOST_STREAMS", .int 1152921504606846976), ("len", .bi .len)], fn := [(215, jE), (189, cR), (125, i5), (146, bC)], fnG := [], field := [], meth := [((149, "take"), 125), ((149, "varint"), 146)] }
theorem vX (w : World) : Rn tz AX 200 243 [] ["reader", "told"] w := fun as cel K h => by
 obtain ⟨d, a, rfl, f, l, r, hf, rfl, hbd, hat, k⟩ := h
 cases f with
 | crypto off x =>
  obtain ⟨e2, e3, n2, n3, ho, rfl⟩ := hbd
  refine aF.mk d _ rfl ⟨e2, e3, off, x, r, n2, n3, ho, hat, fun b hb => ?_⟩
  exact k b hb
 | newToken x =>
  obtain ⟨e, n1, hx, rfl⟩ := hbd
  have hbn := hat.vb.bound
  rw [List.length_append] at hbn
  refine bu.mk d _ rfl ⟨e, x, r, n1, hat, fun b hb => ?_⟩
  apply Gd.mk
  ·exact rfl
  apply Gd.mk
  ·exact ah (by lia)
  apply Br.f
  ·exact decide_eq_false (by lia)
  exact k b hb
 | pathChal =>
  cases hbd
  refine aF.mk d _ rfl ⟨cz 0 8, r, hat, rfl, ?_⟩
  exact k _ (hat.next rfl)
 | pathResp =>
  cases hbd
  refine aF.mk d _ rfl ⟨cz 0 8, r, hat, rfl, ?_⟩
  exact k _ (hat.next rfl)
 | maxStreams u n =>
  obtain ⟨e, n1, hn, rfl⟩ := hbd
  cases u
  all_goals
   refine bu.mk d _ rfl ⟨e, _, _, hat, n1.he, n1.h0, n1.h1, ?_⟩
   apply Br.f
   ·exact decide_eq_false (by lia)
   exact k _ hat.vb
 | _ => cases hf
theorem C9 (w : World) : aD 243 w := ⟨_, _, _, _, _, _, _, _, _, rfl, by kernel_rfl⟩
theorem wY (w : World) : Bnd (prm 243) ["reader", "told"] := dG fun _ _ _ => by kernel_rfl
theorem Cf (w : World) : aj w 243 6 28 tz :=
 aj.at (ns := ["reader", "told"]) (T := AX) (U := 25) (D := 5) 243 [] 200 (C9 w) (wY w) (by kernel_rfl) (fun as cel K h => by
  induction h; rfl) (aJ (.cons (BU w) (.cons (Bp w) (.cons (EO w) (.cons (xz w) (.cons (A6 w) (.cons (Dm w) (.cons (D4 w) (.cons (g_2 w) (.cons (Ej w) (.cons (fz w) .nil)))))))))) (.cons (AH w) rfl rfl (by kernel_rfl) (.cons (pT w) rfl rfl (by kernel_rfl) (.cons (tV w) rfl rfl (by kernel_rfl) (.cons (fF w) rfl rfl (by kernel_rfl) .nil)))) .nil .nil (.cons (eS w) (.cons (aG w) .nil))) (by decide) (vX w)
noncomputable def AC : Tb := { glob := [("PADDING", .int 0), ("PLAIN_FRAMES", fJ), ("ACK", .int 2), ("ACK_ECN", .int 3), ("STREAM", .int 8), ("NEW_CONNECTION_ID", .int 24), ("CLOSE", .int 28), ("CLOSE_APPLICATION", .int 29), ("read_ack", .ref 201), ("read_stream", .ref 208), ("read_new_cid", .ref 222), ("read_close", .ref 229), ("read_octets_frame", .ref 243), ("tuple", .ty .tuple), ("range", .ty .range)], fn := [(201, uk), (208, iR), (222, oY), (229, lR), (243, tz), (146, bC)], fnG := [], field := [], meth := [((149, "varint"), 146)] }
theorem uf (w : World) : Rn pR AC 200 248 [] ["reader", "told"] w := fun as cel K h => by
 obtain ⟨d, a, rfl, f, l, r, rfl, hbd, hat, k⟩ := h
 cases f with
 | ping =>
  cases hbd
  apply bh.mk
  exact k a hat
 | done =>
  cases hbd
  apply bh.mk
  exact k a hat
 | maxData n =>
  obtain ⟨e, n1, rfl⟩ := hbd
  apply bh.mk
  refine bu.mk d _ rfl (iE.mk e _ _ hat n1.he n1.h0 n1.h1 ?_)
  exact k _ hat.vb
 | retire n =>
  obtain ⟨e, n1, rfl⟩ := hbd
  apply bh.mk
  refine bu.mk d _ rfl (iE.mk e _ _ hat n1.he n1.h0 n1.h1 ?_)
  exact k _ hat.vb
 | ack dl low e =>
  obtain ⟨e1, e2, e3, e4, e5, e6, tl, n1, n2, n3, n4, n5, n6, hl, rfl, ht⟩ := hbd
  cases e
  ·cases ht
   refine aF.mk d _ rfl (vV.mk e1 e2 e3 e4 e5 e6 dl low _ n1 n2 n3 n4 n5 n6 hl hat (.inl ⟨rfl, fun b hb => ?_⟩))
   exact k b hb
  ·obtain ⟨f1, f2, f3, m1, m2, m3, rfl⟩ := ht
   refine aF.mk d _ rfl (vV.mk e1 e2 e3 e4 e5 e6 dl low _ n1 n2 n3 n4 n5 n6 hl hat (.inr ⟨rfl, f1, f2, f3, r, m1, m2, m3, rfl, fun b hb => ?_⟩))
   exact k b hb
 | stream n o x fin =>
  obtain ⟨e1, e2, e3, n1, n2, n3, ho, rfl⟩ := hbd
  cases fin
  ·refine aF.mk d _ rfl (iD.mk e1 e2 e3 n o x r false n1 n2 n3 ho rfl hat (fun b hb => ?_))
   exact k b hb
  ·refine aF.mk d _ rfl (iD.mk e1 e2 e3 n o x r true n1 n2 n3 ho rfl hat (fun b hb => ?_))
   exact k b hb
 | ncid p c =>
  obtain ⟨e1, e2, n1, n2, c1, c2, rfl⟩ := hbd
  refine aF.mk d _ rfl (uM.mk e1 e2 (p + 1) p c (cz 0 16) r n1 n2 (by lia) c1 c2 rfl hat (fun b hb => ?_))
  exact k b hb
 | close c ft x =>
  obtain ⟨e1, e3, tl, n1, n3, rfl, ht⟩ := hbd
  cases ft
  ·cases ht
   refine aF.mk d _ rfl (lJ.mk e1 e3 c _ x r n1 n3 (.inl ⟨rfl, rfl, fun b hb => ?_⟩) hat)
   exact k b hb
  ·obtain ⟨e2, n2, rfl⟩ := ht
   refine aF.mk d _ rfl (lJ.mk e1 e3 c _ x r n1 n3 (.inr ⟨rfl, e2, 6, n2, rfl, fun b hb => ?_⟩) hat)
   exact k b hb
 | crypto off x =>
  refine aF.mk d _ rfl (mV.mk (.crypto off x) l r rfl rfl hbd hat (fun b hb => ?_))
  exact k b hb
 | newToken x =>
  refine aF.mk d _ rfl (mV.mk (.newToken x) l r rfl rfl hbd hat (fun b hb => ?_))
  exact k b hb
 | pathChal =>
  refine aF.mk d _ rfl (mV.mk .pathChal l r rfl rfl hbd hat (fun b hb => ?_))
  exact k b hb
 | pathResp =>
  refine aF.mk d _ rfl (mV.mk .pathResp l r rfl rfl hbd hat (fun b hb => ?_))
  exact k b hb
 | maxStreams u n =>
  cases u
  ·refine aF.mk d _ rfl (mV.mk (.maxStreams false n) l r rfl rfl hbd hat (fun b hb => ?_))
   exact k b hb
  ·refine aF.mk d _ rfl (mV.mk (.maxStreams true n) l r rfl rfl hbd hat (fun b hb => ?_))
   exact k b hb
theorem BO (w : World) : aD 248 w := ⟨_, _, _, _, _, _, _, _, _, rfl, by kernel_rfl⟩
theorem xD (w : World) : Bnd (prm 248) ["reader", "told"] := dG fun _ _ _ => by kernel_rfl
theorem AP (w : World) : aj w 248 7 31 pR :=
 aj.at (ns := ["reader", "told"]) (T := AC) (U := 28) (D := 6) 248 [] 200 (BO w) (xD w) (by kernel_rfl) (fun as cel K h => by
  induction h; rfl) (aJ (.cons (Bc w) (.cons (g_1 w) (.cons (DX w) (.cons (zz w) (.cons (yU w) (.cons (Au w) (.cons (yW w) (.cons (Bb w) (.cons (EW w) (.cons (EX w) (.cons (Ev w) (.cons (EL w) (.cons (Fc w) (.cons (xx w) (.cons (oz w) .nil))))))))))))))) (.cons (Di w) rfl rfl (by kernel_rfl) (.cons (DI w) rfl rfl (by kernel_rfl) (.cons (Aa w) rfl rfl (by kernel_rfl) (.cons (BM w) rfl rfl (by kernel_rfl) (.cons (Cf w) rfl rfl (by kernel_rfl) (.cons (fF w) rfl rfl (by kernel_rfl) .nil)))))) .nil .nil (.cons (aG w) .nil)) (by decide) (uf w)
end
section
inductive kI (w : World) (D U : Nat) : List (Nat × Spec) → Prop
 | nil : kI w D U []
 | cons {a fI D' U' : Nat} {sp : Spec} {l : List (Nat × Spec)} : nV w a fI → ei w fI D' U' sp → Nat.ble (D' + 1) D = true → Nat.ble (U' + 1) U = true → keepIn (tp.heap_1 w.params) (.ref a) = true → kI w D U l → kI w D U ((a, sp) :: l)
theorem kI.get {w : World} {D U : Nat} {l : List (Nat × Spec)} (h : kI w D U l) : ∀ a sp, fnk a l = some sp → (∃ fI D' U', nV w a fI ∧ ei w fI D' U' sp ∧ D' + 1 ≤ D ∧ U' + 1 ≤ U) ∧ keepIn (tp.heap_1 w.params) (.ref a) = true := by
 induction h with
 | nil => intro a sp e; cases e
 | cons c f d u k _ ih =>
  intro a sp e
  unfold fnk at e
  split at e
  ·rename_i q; cases e; rw [Nat.eq_of_beq_eq_true q]; exact ⟨⟨_, _, _, c, f, Nat.le_of_ble_eq_true d, Nat.le_of_ble_eq_true u⟩, k⟩
  ·exact ih a sp e
theorem DE {w : World} {D U : Nat} {gl : List (Str × SV)} {fn fnG cl : List (Nat × Spec)} {fd : List (Nat × Str)} {mt : List ((Nat × Str) × Nat)} (g : n9 w gl) (f : pi w D U fn) (fg : iU w D U fnG) (fi : jC w fd) (m : jo w mt) (c : kI w D U cl) : iy w D U { glob := gl, fn := fn, fnG := fnG, cls := cl, field := fd, meth := mt } where
 glob := g.get
 fn := f.get
 fnG := fg.get
 cls := c.get
 field := fi.get
 meth := m.get
inductive uF (d : List UInt8) (a : Int) (k : SV → Int → Prop) : Prop
 | mk (f l r : _) (_ : BdR f l r) (_ : At d a (Mine.vb 0 f.told ++ l)) (_ : ∀ b, At d b r → k f.sv b) : uF d a k
noncomputable def lr : Spec := bu uF
noncomputable def uG : List Fm → List UInt8 → Prop
 | [], l => l = []
 | f :: fs, l => ∃ b r, l = Mine.vb 0 f.told ++ b ∧ BdR f b r ∧ uG fs r
inductive bZ : List AV → List aa → (SV → List aa → Prop) → Prop
 | mk {p : List UInt8} {K : SV → List aa → Prop} (fs : _) (_ : fs ≠ []) (_ : uG fs p) (_ : fs.length ≤ 20) (_ : p.length ≤ 1000000) (_ : K (.lst (fs.map Fm.sv)) []) : bZ [.v (.bytes p)] [] K
theorem gt (f : Fm) : 0 ≤ f.told ∧ f.told < 64 := by
 match f with
 | .ping => simp [Fm.told]
 | .ack _ _ true => simp [Fm.told]
 | .ack _ _ false => simp [Fm.told]
 | .crypto _ _ => simp [Fm.told]
 | .newToken _ => simp [Fm.told]
 | .stream _ _ _ true => simp [Fm.told]
 | .stream _ _ _ false => simp [Fm.told]
 | .maxData _ => simp [Fm.told]
 | .maxStreams true _ => simp [Fm.told]
 | .maxStreams false _ => simp [Fm.told]
 | .ncid _ _ => simp [Fm.told]
 | .retire _ => simp [Fm.told]
 | .pathChal => simp [Fm.told]
 | .pathResp => simp [Fm.told]
 | .close _ true _ => simp [Fm.told]
 | .close _ false _ => simp [Fm.told]
 | .done => simp [Fm.told]
noncomputable def A4 : Tb := { glob := [("PADDING", .int 0), ("read_type", .ref 182), ("read_body", .ref 248)], fn := [(182, pq), (248, pR)], fnG := [], cls := [], field := [], meth := [] }
theorem rQ (w : World) : Rn lr A4 200 255 [] ["reader"] w := fun as cel K h => by
 obtain ⟨d, a, rfl, f, l, r, hbd, hat, k⟩ := h
 refine bu.mk d _ rfl ⟨f.told, _, (gt f).1, (gt f).2, hat, fun b hb => ?_⟩
 refine aF.mk d _ rfl ⟨f, l, r, rfl, hbd, hb, fun b hb => ?_⟩
 exact k b hb
theorem CA (w : World) : aD 255 w := ⟨_, _, _, _, _, _, _, _, _, rfl, by kernel_rfl⟩
theorem vF (w : World) : Bnd (prm 255) ["reader"] := b7 fun _ _ => by kernel_rfl
theorem DJ (w : World) : aj w 255 8 34 lr :=
 aj.at (ns := ["reader"]) (T := A4) (U := 31) (D := 7) 255 [] 200 (CA w) (vF w) (by kernel_rfl) (fun as cel K h => by
  induction h using bu.casesOn; rfl) (aJ (.cons (Bc w) (.cons (EF w) (.cons (EV w) .nil))) (.cons (A3 w) rfl rfl (by kernel_rfl) (.cons (AP w) rfl rfl (by kernel_rfl) .nil)) .nil .nil .nil) (by decide) (rQ w)
noncomputable def zc : Tb := { glob := [("Reader", .ref 149), ("len", .bi .len), ("read_frame", .ref 255)], fn := [(255, lr), (118, lz)], fnG := [], cls := [(149, gX)], field := [], meth := [((149, "left"), 118)] }
noncomputable def B4 (w : World) : Expr := smC (.Constant .none 0 default) (s := (jW (bd 262) 2)) (whl := fun t _ _ => t)
noncomputable def AG (w : World) : List Stmt := smC [] (s := (jW (bd 262) 2)) (whl := fun _ b _ => b)
theorem mG (w : World) (p : List UInt8) (K : SF → SS → Prop) : ∀ (fs : List Fm) (m : Nat) (a : Int) (l : List UInt8) (acc : List SV), fs.length + 1 ≤ m → At p a l → uG fs l → fs.length + acc.length ≤ 900 →
  (∀ b, K .next ⟨[("reader", .c 1), ("found", .c 2), ("payload", .v (.bytes p))], [.idict [("data", .bytes p), ("at", .int b)], .inst 149 0, .lst (acc ++ fs.map Fm.sv)]⟩) →
  run zc (m + 25) (cy 262 w 0 [218038]) (.w (B4 w) (AG w) ⟨[("reader", .c 1), ("found", .c 2), ("payload", .v (.bytes p))], [.idict [("data", .bytes p), ("at", .int a)], .inst 149 0, .lst acc]⟩ K) := by
 intro fs
 induction fs with
 | nil =>
  intro m a l acc hm hat hfs hz k
  cases hfs
  conv => whnf
  refine ⟨p, _, rfl, [], hat, ?_⟩
  conv => whnf
  have k' := k a
  rw [List.map_nil, List.append_nil] at k'
  exact k'
 | cons f fs ih =>
  intro m a l acc hm hat hfs hz k
  obtain ⟨b, r, rfl, hbd, hfs⟩ := hfs
  obtain ⟨m, rfl⟩ : ∃ m', m = m' + 1 := ⟨m - 1, by simp only [List.length_cons] at hm; lia⟩
  simp only [List.length_cons] at hm hz
  conv => whnf
  refine ⟨p, _, rfl, _, hat, ?_⟩
  conv => whnf
  refine Br.t ?_ ?_
  ·simp only [decide_eq_true_eq, List.length_append, b9]; show (0 : Int) < ((1 + b.length : Nat) : Int); lia
  conv => whnf
  refine ⟨p, _, rfl, f, b, r, hbd, hat, fun b' hb => ?_⟩
  conv => whnf
  apply Gd.mk
  ·exact ah (by lia)
  refine ih m b' r (acc ++ [f.sv]) (by lia) hb hfs (by rw [List.length_append]; simp; lia) fun b'' => ?_
  have k' := k b''
  rw [List.map_cons] at k'
  rw [List.append_assoc]
  exact k'
theorem ol (w : World) : Rn bZ zc 200 262 [218038] ["payload"] w := fun as cel K h => by
 obtain ⟨fs, hne, hfs, hl, hp, k⟩ := h
 rename_i p
 have hz : 0 < (p : List UInt8).length := by
  match fs, hne, hfs with
  | f :: fs, _, hfs =>
   obtain ⟨b, r, e, _⟩ := hfs
   rw [e, List.length_append, b9]; show 0 < 1 + b.length; lia
 refine gX.mk ?_
 conv => whnf
 apply Gd.mk
 ·exact ah (by lia)
 conv => whnf
 refine Br.f ?_ ?_
 ·have : ((p.length : Nat) : Int) ≠ 0 := by lia
  simpa using this
 conv => whnf
 refine ⟨?_⟩
 refine mG w p _ fs 171 0 p [] (by lia) ⟨⟨[], rfl, rfl⟩, hp⟩ hfs (by simp; lia) fun b => ?_
 exact k
theorem Bj (w : World) : aD 262 w := ⟨_, _, _, _, _, _, _, _, _, rfl, by kernel_rfl⟩
theorem vg (w : World) : Bnd (prm 262) ["payload"] := b7 fun _ _ => by kernel_rfl
theorem yf (w : World) : aj w 262 9 37 bZ :=
 aj.at (ns := ["payload"]) (T := zc) (U := 34) (D := 8) 262 [218038] 200 (Bj w) (vg w) (by kernel_rfl) (fun as cel K h => by
  induction h using bZ.casesOn; rfl) (DE (.cons (D6 w) (.cons (fz w) (.cons (Et w) .nil))) (.cons (DJ w) rfl rfl (by kernel_rfl) (.cons (yd w) rfl rfl (by kernel_rfl) .nil)) .nil .nil (.cons (io w) .nil) (.cons (wt w) (B8 w) rfl rfl (by kernel_rfl) .nil)) (by decide) (ol w)
end
section
theorem rx {T : Tb} {C : Ct} {x : Str} {elt : Expr} {cel : List aa} {K : List SV → List aa → Prop} (g : SV → SV) (m : Nat) : ∀ (its acc : List SV) (n : Nat), its.length + m + 1 ≤ n →
  (∀ d ∈ its, ∀ (k : Nat) (K' : AV → SS → Prop), K' (.v (g d)) ⟨[(x, .v d)], cel⟩ → jT T (k + m) C (.e elt ⟨[(x, .v d)], cel⟩ K')) → K (acc ++ its.map g) cel → jT T n C (.c x elt its acc cel K) := by
 intro its0
 induction its0 with
 | nil =>
  intro acc n hn _ k
  obtain ⟨n, rfl⟩ := g8 hn
  rw [List.map_nil, List.append_nil] at k
  exact k
 | cons d its ih =>
  intro acc n hn turn k
  obtain ⟨n, rfl⟩ := fu hn
  rw [List.length_cons] at hn
  refine turn d (.head _) n _ ?_
  refine ih (acc ++ [g d]) (n + m) (by lia) (fun d hd => turn d (.tail _ hd)) ?_
  rw [List.map_cons] at k
  rw [List.append_assoc]
  exact k
noncomputable def nb (ns : List Int) : List UInt8 := (ns.map fun n => vb (lv n) n).flatten
theorem uH (ns : List Int) : dC (ns.map fun n => vb (lv n) n) ≤ 8 * ns.length := by
 induction ns with
 | nil => exact Nat.zero_le _
 | cons n ns ih =>
  rw [List.map_cons, dC, List.length_cons, b9]
  have : sz (lv n) ≤ 8 := by unfold sz; split <;> lia
  lia
inductive aV : List AV → List aa → (SV → List aa → Prop) → Prop
 | mk {l : List SV} {K : SV → List aa → Prop} (ns : List Int) (_ : l = ns.map SV.int) (_ : (∀ n ∈ ns, 0 ≤ n ∧ n < 4611686018427387904)) (_ : ns.length ≤ 20) (_ : K (.bytes (nb ns)) []) : aV [.v (.lst l)] [] K
inductive cb : List AV → List aa → (SV → List aa → Prop) → Prop
 | mk {l : List UInt8} {K : SV → List aa → Prop} (_ : l.length ≤ 1000) (_ : K (.bytes (vb (lv l.length) l.length ++ l)) []) : cb [.v (.bytes l)] [] K
noncomputable def zn : SV → SV
 | .int n => .bytes (vb (lv n) n)
 | x => x
theorem uZ (ns : List Int) : dZ ((ns.map SV.int).map zn) = some (ns.map fun n => vb (lv n) n) := by
 have : (ns.map SV.int).map zn = (ns.map fun n => vb (lv n) n).map SV.bytes := by rw [List.map_map, List.map_map]; rfl
 rw [this, di]
noncomputable def DQ : Tb := { glob := [("put_varint", .ref 90)], fn := [], fnG := [(90, ii)], cls := [], field := [], meth := [] }
theorem sQ (w : World) : RnG aV DQ 200 343 [] ["numbers"] w := fun as cel K h => by
 obtain ⟨ns, rfl, hns, hl, k⟩ := h
 apply Gd.mk
 ·exact ah (by rw [List.length_map]; lia)
 apply bh.mk
 refine rx zn 20 _ _ _ (Nat.le_trans (m := 41) (by rw [List.length_map]; lia) (by decide)) (fun d hd k K' hk => ?_) ?_
 ·obtain ⟨n, hn, rfl⟩ := List.mem_map.mp hd
  refine ii.mk ((hns n hn).1) ((hns n hn).2) ?_
  exact hk
 ·conv => whnf
  rw [List.nil_append, uZ]
  apply Gd.mk
  ·exact ah (Nat.le_trans (uH ns) (by lia))
  exact k
theorem Dv (w : World) : aD 343 w := ⟨_, _, _, _, _, _, _, _, _, rfl, by kernel_rfl⟩
theorem vq (w : World) : Bnd (prm 343) ["numbers"] := b7 fun _ _ => by kernel_rfl
theorem kj (w : World) : aW w 343 3 19 aV :=
 aW.at (ns := ["numbers"]) (T := DQ) (U := 16) (D := 2) 343 [] 200 (Dv w) (vq w) (by kernel_rfl) (fun as cel K h => by
  induction h using aV.casesOn; rfl) (aJ (.cons (Ac w) .nil) .nil (.cons (Av w) rfl rfl (by kernel_rfl) .nil) .nil .nil) (by decide) (sQ w)
noncomputable def Bh : Tb := { glob := [("put_varint", .ref 90), ("len", .bi .len)], fn := [], fnG := [(90, ii)], cls := [], field := [], meth := [] }
theorem uJ (w : World) : RnG cb Bh 200 350 [] ["data"] w := fun as cel K h => by
 obtain ⟨hl, k⟩ := h
 apply Gd.mk
 ·exact ah (by lia)
 refine ii.mk (Int.natCast_nonneg _) (by lia) ?_
 apply Gd.mk
 ·refine ah ?_
  rw [b9]; have : sz (lv (List.length ‹List UInt8›)) ≤ 8 := by (unfold sz; split <;> lia)
  lia
 exact k
theorem D1 (w : World) : aD 350 w := ⟨_, _, _, _, _, _, _, _, _, rfl, by kernel_rfl⟩
theorem vI (w : World) : Bnd (prm 350) ["data"] := b7 fun _ _ => by kernel_rfl
theorem uK (w : World) : aW w 350 3 19 cb :=
 aW.at (ns := ["data"]) (T := Bh) (U := 16) (D := 2) 350 [] 200 (D1 w) (vI w) (by kernel_rfl) (fun as cel K h => by
  induction h using cb.casesOn; rfl) (aJ (.cons (Ac w) (.cons (fz w) .nil)) .nil (.cons (Av w) rfl rfl (by kernel_rfl) .nil) .nil .nil) (by decide) (uJ w)
end
section
noncomputable def bB : List Int → Prop
 | [] => True
 | n :: ns => (0 ≤ n ∧ n < 4611686018427387904) ∧ bB ns
theorem bB.mem : ∀ {ns : List Int}, bB ns → ∀ n ∈ ns, 0 ≤ n ∧ n < 4611686018427387904
 | n :: ns, h, m, hm => by
  rcases List.mem_cons.mp hm with rfl | hm
  ·exact h.1
  ·exact bB.mem h.2 m hm
theorem ax (ns : List Int) : (nb ns).length ≤ 8 * ns.length := by
 have := uH ns
 rw [gF] at this
 unfold nb
 rw [List.length_flatten]; exact this
noncomputable def cq : Fm → Prop
 | .ack d low _ => 0 ≤ d ∧ d < 4294967296 ∧ 10 ≤ low ∧ low ≤ 18
 | .crypto o l => 0 ≤ o ∧ o < 4294967296 ∧ l.length ≤ 4
 | .stream n o l _ => 0 ≤ n ∧ n < 4294967296 ∧ 0 < o ∧ o < 4294967296 ∧ l.length ≤ 4
 | .maxData n => 0 ≤ n ∧ n < 4294967296
 | .retire n => 0 ≤ n ∧ n < 4294967296
 | .maxStreams _ n => 0 ≤ n ∧ n < 4294967296
 | .ncid p c => 0 ≤ p ∧ p < 4294967296 ∧ 1 ≤ c.length ∧ c.length ≤ 6
 | .close c _ l => 0 ≤ c ∧ c < 4294967296 ∧ l.length ≤ 4
 | .newToken l => 1 ≤ l.length ∧ l.length ≤ 5
 | _ => True
noncomputable def cn (l : List UInt8) : List UInt8 := vb (lv l.length) l.length ++ l
theorem dw (l : List UInt8) : (cn l).length ≤ 8 + l.length := by
 unfold cn
 rw [List.length_append, b9]
 have : sz (lv l.length) ≤ 8 := by unfold sz; split <;> lia
 lia
noncomputable def nT (d low : Int) : Bool → List Int
 | true => [3, low + 2, d, 1, 2, 2, 3, 1, 0, 300]
 | false => [2, low + 2, d, 1, 2, 2, 3]
noncomputable def cW (c : Int) : Bool → List Int
 | true => [28, c, 6]
 | false => [29, c]
noncomputable def stN : Bool → Int
 | true => 15
 | false => 14
noncomputable def msN : Bool → Int
 | true => 19
 | false => 18
noncomputable def pf : Fm → List UInt8
 | .ping => nb [1]
 | .ack d low e => nb (nT d low e)
 | .crypto o l => nb [6, o] ++ cn l
 | .stream n o l fin => nb [stN fin, n, o] ++ cn l
 | .maxData n => nb [16, n]
 | .maxStreams u n => nb [msN u, n]
 | .ncid p c => ((nb [24, p + 1, p] ++ [c.length.toUInt8]) ++ c) ++ cz 0 16
 | .pathResp => nb [27] ++ cz 0 8
 | .close c ft l => nb (cW c ft) ++ cn l
 | .done => nb [30]
 | .retire n => nb [25, n]
 | .pathChal => nb [26] ++ cz 0 8
 | .newToken l => nb [7] ++ cn l
inductive bQ (P : Fm → Bool) : List AV → List aa → (SV → List aa → Prop) → Prop
 | mk {x : SV} {cel : List aa} {K : SV → List aa → Prop} (f : _) (_ : P f = true) (_ : x = f.sv) (_ : cel = []) (_ : cq f) (_ : K (.bytes (pf f)) []) : bQ P [.v x] cel K
inductive gK : List AV → List aa → (SV → List aa → Prop) → Prop
 | mk {x : SV} {cel : List aa} {K : SV → List aa → Prop} (n o l fin : _) (_ : x = (Fm.stream n o l fin).sv) (_ : cel = []) (_ : cq (.stream n o l fin)) (_ : K (.bytes (pf (.stream n o l fin))) []) : gK [.v x, .v (.bool false)] cel K
noncomputable def Ca : Fm → Bool
 | .ack _ _ _ => true
 | _ => false
noncomputable def yK : Fm → Bool
 | .ncid _ _ => true
 | _ => false
noncomputable def wu : Fm → Bool
 | .close _ _ _ => true
 | _ => false
noncomputable def AJ : Fm → Bool := fun _ => true
noncomputable def pP : Spec := bQ Ca
noncomputable def k7 : Spec := bQ yK
noncomputable def jv : Spec := bQ wu
noncomputable def oV : Spec := bQ yn
noncomputable def xB : Spec := bQ AJ
inductive fX : List AV → List aa → (SV → List aa → Prop) → Prop
 | mk {x : SV} {cel : List aa} {K : SV → List aa → Prop} (low : _) (_ : x = vx low) (_ : cel = []) (_ : K (.tup [.lst [.int (low + 2)], .lst [.int 1, .int 2, .int 2, .int 3]]) []) : fX [.v x] cel K
-- [266033]
noncomputable def Cv : Tb := { glob := [("len", .bi .len)], fn := [], fnG := [], cls := [], field := [], meth := [] }
theorem tI (w : World) : Rn fX Cv 200 357 [266033] ["ranges"] w := fun as cel K h => by
 obtain ⟨low, rfl, rfl, k⟩ := h
 apply bh.mk
 conv => whnf
 have z1 : low + 2 - low = 2 := by lia
 have z2 : low - (low - 4) - 2 = 2 := by lia
 have z3 : low - 4 - (low - 7) = 3 := by lia
 rw [z1, z2, z3]
 exact k
theorem Cb (w : World) : aD 357 w := ⟨_, _, _, _, _, _, _, _, _, rfl, by kernel_rfl⟩
theorem xE (w : World) : Bnd (prm 357) ["ranges"] := b7 fun _ _ => by kernel_rfl
theorem C7 (w : World) : aj w 357 1 13 fX :=
 aj.at (ns := ["ranges"]) (T := Cv) (U := 10) (D := 0) 357 [266033] 200 (Cb w) (xE w) (by kernel_rfl) (fun as cel K h => by
  induction h using fX.casesOn; rfl) (aJ (.cons (fz w) .nil) .nil .nil .nil .nil) (by decide) (tI w)
end
section
noncomputable def Be : Tb := { glob := [("ack_numbers", .ref 357), ("list", .ty .list), ("put_numbers", .ref 343), ("ACK", .int 2), ("ACK_ECN", .int 3)], fn := [(357, fX)], fnG := [(343, aV)], cls := [], field := [], meth := [] }
theorem td (w : World) : RnG pP Be 200 364 [] ["f"] w := fun as cel K h => by
 obtain ⟨f, hf, rfl, rfl, ok, k⟩ := h
 induction f using Fm.casesOn with
 | ack d low e =>
  obtain ⟨h1, h2, h3, h4⟩ := ok
  induction e using Bool.casesOn
  ·refine fX.mk low rfl rfl ?_
   refine aV.mk (nT d low false) rfl (bB.mem (by simp only [nT, bB, and_true]; lia)) (Nat.le_of_ble_eq_true rfl) ?_
   exact k
  ·refine fX.mk low rfl rfl ?_
   refine aV.mk (nT d low true) rfl (bB.mem (by simp only [nT, bB, and_true]; lia)) (Nat.le_of_ble_eq_true rfl) ?_
   exact k
 | _ => cases hf
theorem A2 (w : World) : aD 364 w := ⟨_, _, _, _, _, _, _, _, _, rfl, by kernel_rfl⟩
theorem wR (w : World) : Bnd (prm 364) ["f"] := b7 fun _ _ => by kernel_rfl
theorem BV (w : World) : aW w 364 4 22 pP :=
 aW.at (ns := ["f"]) (T := Be) (U := 19) (D := 3) 364 [] 200 (A2 w) (wR w) (by kernel_rfl) (fun as cel K h => by
  induction h using bQ.casesOn; rfl) (aJ (.cons (Es w) (.cons (zI w) (.cons (rN w) (.cons (DX w) (.cons (zz w) .nil))))) (.cons (C7 w) rfl rfl (by kernel_rfl) .nil) (.cons (kj w) rfl rfl (by kernel_rfl) .nil) .nil .nil) (by decide) (td w)
noncomputable def BN : Tb := { glob := [("STREAM", .int 8), ("BIT_FIN", .int 1), ("BIT_LENGTH", .int 2), ("BIT_OFFSET", .int 4), ("put_numbers", .ref 343), ("put_counted", .ref 350)], fn := [], fnG := [(343, aV), (350, cb)], cls := [], field := [], meth := [] }
theorem w2 (w : World) : RnG gK BN 200 371 [] ["f", "is_last"] w := fun as cel K h => by
 obtain ⟨n, off, l, fin, rfl, rfl, ok, k⟩ := h
 obtain ⟨h1, h2, h3, h4, h5⟩ := ok
 induction fin using Bool.casesOn
 all_goals
  apply Br.t
  ·exact decide_eq_true h3
  apply Br.t
  ·exact decide_eq_true h3
  conv => whnf
 ·refine ⟨[14, n, off], ?_, bB.mem (by simp only [bB, and_true]; lia), Nat.le_of_ble_eq_true rfl, ?_⟩
  ·first | rfl | simp
  refine cb.mk (by lia) ?_
  apply Gd.mk
  ·refine ah ?_
   have := ax [14, n, off]; have := dw l; simp only [List.length_cons, List.length_nil] at *; unfold cn at this; lia
  exact k
 ·refine ⟨[15, n, off], ?_, bB.mem (by simp only [bB, and_true]; lia), Nat.le_of_ble_eq_true rfl, ?_⟩
  ·first | rfl | simp
  refine cb.mk (by lia) ?_
  apply Gd.mk
  ·refine ah ?_
   have := ax [15, n, off]; have := dw l; simp only [List.length_cons, List.length_nil] at *; unfold cn at this; lia
  exact k
theorem Db (w : World) : aD 371 w := ⟨_, _, _, _, _, _, _, _, _, rfl, by kernel_rfl⟩
theorem wn (w : World) : Bnd (prm 371) ["f", "is_last"] := dG fun _ _ _ => by kernel_rfl
theorem CY (w : World) : aW w 371 4 22 gK :=
 aW.at (ns := ["f", "is_last"]) (T := BN) (U := 19) (D := 3) 371 [] 200 (Db w) (wn w) (by kernel_rfl) (fun as cel K h => by
  induction h using gK.casesOn; rfl) (aJ (.cons (yU w) (.cons (Ag w) (.cons (Ck w) (.cons (A1 w) (.cons (rN w) (.cons (zU w) .nil)))))) .nil (.cons (kj w) rfl rfl (by kernel_rfl) (.cons (uK w) rfl rfl (by kernel_rfl) .nil)) .nil .nil) (by decide) (w2 w)
noncomputable def C4 : Tb := { glob := [("put_numbers", .ref 343), ("NEW_CONNECTION_ID", .int 24), ("bytes", .ty .bytes), ("len", .bi .len)], fn := [], fnG := [(343, aV)], cls := [], field := [], meth := [] }
theorem qL (w : World) : RnG k7 C4 200 378 [] ["f"] w := fun as cel K h => by
 obtain ⟨f, hf, rfl, rfl, ok, k⟩ := h
 induction f using Fm.casesOn with
 | ncid p c =>
  obtain ⟨h1, h2, h3, h4⟩ := ok
  have hl := ax [24, p + 1, p]
  simp only [List.length_cons, List.length_nil] at hl
  refine aV.mk ([24, p + 1, p]) rfl (bB.mem (by simp only [bB, and_true]; lia)) (Nat.le_of_ble_eq_true rfl) ?_
  apply Gd.mk
  ·exact ah (by lia)
  refine Gd.mk ?_ ?_
  ·simp [mr]; lia
  apply Gd.mk
  ·exact ah (by simp only [List.length_append, List.length_map, List.length_cons, List.length_nil]; lia)
  apply Gd.mk
  ·exact ah (by simp only [List.length_append, List.length_map, List.length_cons, List.length_nil]; lia)
  apply Gd.mk
  ·exact ah (by simp only [List.length_append, List.length_map, List.length_cons, List.length_nil, a6]; lia)
  exact k
 | _ => cases hf
theorem D0 (w : World) : aD 378 w := ⟨_, _, _, _, _, _, _, _, _, rfl, by kernel_rfl⟩
theorem xe (w : World) : Bnd (prm 378) ["f"] := b7 fun _ _ => by kernel_rfl
theorem Bq (w : World) : aW w 378 4 22 k7 :=
 aW.at (ns := ["f"]) (T := C4) (U := 19) (D := 3) 378 [] 200 (D0 w) (xe w) (by kernel_rfl) (fun as cel K h => by
  induction h using bQ.casesOn; rfl) (aJ (.cons (rN w) (.cons (Au w) (.cons (rU w) (.cons (fz w) .nil)))) .nil (.cons (kj w) rfl rfl (by kernel_rfl) .nil) .nil .nil) (by decide) (qL w)
noncomputable def AL : Tb := { glob := [("put_numbers", .ref 343), ("CLOSE_APPLICATION", .int 29), ("CLOSE", .int 28), ("put_counted", .ref 350)], fn := [], fnG := [(343, aV), (350, cb)], cls := [], field := [], meth := [] }
theorem pI (w : World) : RnG jv AL 200 385 [] ["f"] w := fun as cel K h => by
 obtain ⟨f, hf, rfl, rfl, ok, k⟩ := h
 induction f using Fm.casesOn with
 | close c ft l =>
  obtain ⟨h1, h2, h3⟩ := ok
  have hc := dw l
  unfold cn at hc
  have hl := ax (cW c ft)
  induction ft using Bool.casesOn
  ·refine aV.mk (cW c false) rfl (bB.mem (by simp only [cW, bB, and_true]; lia)) (Nat.le_of_ble_eq_true rfl) ?_
   refine cb.mk (by lia) ?_
   apply Gd.mk
   ·exact ah (by simp only [cW, List.length_cons, List.length_nil] at hl ⊢; lia)
   exact k
  ·refine aV.mk (cW c true) rfl (bB.mem (by simp only [cW, bB, and_true]; lia)) (Nat.le_of_ble_eq_true rfl) ?_
   refine cb.mk (by lia) ?_
   apply Gd.mk
   ·exact ah (by simp only [cW, List.length_cons, List.length_nil] at hl ⊢; lia)
   exact k
 | _ => cases hf
theorem AQ (w : World) : aD 385 w := ⟨_, _, _, _, _, _, _, _, _, rfl, by kernel_rfl⟩
theorem vM (w : World) : Bnd (prm 385) ["f"] := b7 fun _ _ => by kernel_rfl
theorem Al (w : World) : aW w 385 4 22 jv :=
 aW.at (ns := ["f"]) (T := AL) (U := 19) (D := 3) 385 [] 200 (AQ w) (vM w) (by kernel_rfl) (fun as cel K h => by
  induction h using bQ.casesOn; rfl) (aJ (.cons (rN w) (.cons (Bb w) (.cons (yW w) (.cons (zU w) .nil)))) .nil (.cons (kj w) rfl rfl (by kernel_rfl) (.cons (uK w) rfl rfl (by kernel_rfl) .nil)) .nil .nil) (by decide) (pI w)
end
section
inductive gn : List AV → List aa → (SV → List aa → Prop) → Prop
 | mk {l : List SV} {cel : List aa} {K : SV → List aa → Prop} (fs : List Fm) (_ : l = fs.map Fm.sv) (_ : cel = []) (_ : (∀ f ∈ fs, cq f)) (_ : fs.length ≤ 10) (_ : K (.bytes (fs.map pf).flatten) []) : gn [.v (.lst l)] cel K
inductive fe : List AV → List aa → (SV → List aa → Prop) → Prop
 | mk {x : SV} {cel : List aa} {K : SV → List aa → Prop} (f : _) (_ : x = f.sv) (_ : cel = []) (_ : cq f) (_ : K (.int (pf f).length) []) : fe [.v x] cel K
noncomputable def C3 : Tb := { glob := [("CRYPTO", .int 6), ("NEW_TOKEN", .int 7), ("PATH_CHALLENGE", .int 26), ("PATH_RESPONSE", .int 27), ("MAX_STREAMS_UNI", .int 19), ("MAX_STREAMS_BIDI", .int 18), ("put_numbers", .ref 343), ("put_counted", .ref 350)], fn := [], fnG := [(343, aV), (350, cb)], cls := [], field := [], meth := [] }
theorem tf (w : World) : RnG oV C3 200 392 [] ["f"] w := fun as cel K h => by
 obtain ⟨f, hf, rfl, rfl, ok, k⟩ := h
 induction f using Fm.casesOn with
 | crypto off l =>
  obtain ⟨h1, h2, h3⟩ := ok
  have hc := dw l
  unfold cn at hc
  have hl := ax [6, off]
  refine aV.mk ([6, off]) rfl (bB.mem (by simp only [bB, and_true]; lia)) (Nat.le_of_ble_eq_true rfl) ?_
  refine cb.mk (by lia) ?_
  apply Gd.mk
  ·exact ah (by simp only [List.length_cons, List.length_nil] at hl ⊢; lia)
  exact k
 | newToken l =>
  obtain ⟨h1, h2⟩ := ok
  have hc := dw l
  unfold cn at hc
  have hl := ax [7]
  refine aV.mk ([7]) rfl (bB.mem (by simp only [bB, and_true]; lia)) (Nat.le_of_ble_eq_true rfl) ?_
  refine cb.mk (by lia) ?_
  apply Gd.mk
  ·exact ah (by simp only [List.length_cons, List.length_nil] at hl ⊢; lia)
  exact k
 | pathChal =>
  have hl := ax [26]
  refine aV.mk ([26]) rfl (bB.mem (by simp only [bB, and_true]; lia)) (Nat.le_of_ble_eq_true rfl) ?_
  refine Gd.mk (ah (by simp only [List.length_cons, List.length_nil, a6] at hl ⊢; omega)) ?_
  exact k
 | pathResp =>
  have hl := ax [27]
  refine aV.mk ([27]) rfl (bB.mem (by simp only [bB, and_true]; lia)) (Nat.le_of_ble_eq_true rfl) ?_
  refine Gd.mk (ah (by simp only [List.length_cons, List.length_nil, a6] at hl ⊢; omega)) ?_
  exact k
 | maxStreams u n =>
  obtain ⟨h1, h2⟩ := ok
  induction u using Bool.casesOn
  ·refine aV.mk ([18, n]) rfl (bB.mem (by simp only [bB, and_true]; lia)) (Nat.le_of_ble_eq_true rfl) ?_
   exact k
  ·refine aV.mk ([19, n]) rfl (bB.mem (by simp only [bB, and_true]; lia)) (Nat.le_of_ble_eq_true rfl) ?_
   exact k
 | _ => cases hf
theorem A9 (w : World) : aD 392 w := ⟨_, _, _, _, _, _, _, _, _, rfl, by kernel_rfl⟩
theorem wc (w : World) : Bnd (prm 392) ["f"] := b7 fun _ _ => by kernel_rfl
theorem B1 (w : World) : aW w 392 4 22 oV :=
 aW.at (ns := ["f"]) (T := C3) (U := 19) (D := 3) 392 [] 200 (A9 w) (wc w) (by kernel_rfl) (fun as cel K h => by
  induction h using bQ.casesOn; rfl) (aJ (.cons (BU w) (.cons (Bp w) (.cons (A6 w) (.cons (Dm w) (.cons (D9 w) (.cons (Fp w) (.cons (rN w) (.cons (zU w) .nil)))))))) .nil (.cons (kj w) rfl rfl (by kernel_rfl) (.cons (uK w) rfl rfl (by kernel_rfl) .nil)) .nil .nil) (by decide) (tf w)
noncomputable def Ci : Tb := { glob := [("NUMBER_FRAMES", eN), ("put_numbers", .ref 343), ("list", .ty .list), ("put_ack", .ref 364), ("put_stream", .ref 371), ("put_new_cid", .ref 378), ("put_close", .ref 385), ("put_octets_frame", .ref 392)], fn := [], fnG := [(343, aV), (364, pP), (371, gK), (378, k7), (385, jv), (392, oV)], cls := [], field := [], meth := [] }
theorem zD (w : World) : RnG xB Ci 200 399 [] ["f"] w := fun as cel K h => by
 obtain ⟨f, hf, rfl, rfl, ok, k⟩ := h
 induction f using Fm.casesOn with
 | ping =>
  refine aV.mk ([1]) rfl (bB.mem (by simp only [bB, and_true]; lia)) (Nat.le_of_ble_eq_true rfl) ?_
  exact k
 | done =>
  refine aV.mk ([30]) rfl (bB.mem (by simp only [bB, and_true]; lia)) (Nat.le_of_ble_eq_true rfl) ?_
  exact k
 | maxData n =>
  obtain ⟨h1, h2⟩ := ok
  refine aV.mk ([16, n]) rfl (bB.mem (by simp only [bB, and_true]; lia)) (Nat.le_of_ble_eq_true rfl) ?_
  exact k
 | retire n =>
  obtain ⟨h1, h2⟩ := ok
  refine aV.mk ([25, n]) rfl (bB.mem (by simp only [bB, and_true]; lia)) (Nat.le_of_ble_eq_true rfl) ?_
  exact k
 | ack d low e =>
  refine bQ.mk (.ack d low e) rfl rfl rfl ok ?_
  exact k
 | stream n off l fin =>
  refine gK.mk n off l fin rfl rfl ok ?_
  exact k
 | ncid p c =>
  refine bQ.mk (.ncid p c) rfl rfl rfl ok ?_
  exact k
 | close c ft l =>
  refine bQ.mk (.close c ft l) rfl rfl rfl ok ?_
  exact k
 | crypto off l =>
  refine bQ.mk (.crypto off l) rfl rfl rfl ok ?_
  exact k
 | newToken l =>
  refine bQ.mk (.newToken l) rfl rfl rfl ok ?_
  exact k
 | pathChal =>
  refine bQ.mk .pathChal rfl rfl rfl ok ?_
  exact k
 | pathResp =>
  refine bQ.mk .pathResp rfl rfl rfl ok ?_
  exact k
 | maxStreams u n =>
  refine bQ.mk (.maxStreams u n) rfl rfl rfl ok ?_
  exact k
theorem Dz (w : World) : aD 399 w := ⟨_, _, _, _, _, _, _, _, _, rfl, by kernel_rfl⟩
theorem xM (w : World) : Bnd (prm 399) ["f"] := b7 fun _ _ => by kernel_rfl
theorem x8 (w : World) : aW w 399 5 25 xB :=
 aW.at (ns := ["f"]) (T := Ci) (U := 22) (D := 4) 399 [] 200 (Dz w) (xM w) (by kernel_rfl) (fun as cel K h => by
  induction h using bQ.casesOn; rfl) (aJ (.cons (g_8 w) (.cons (rN w) (.cons (zI w) (.cons (E7 w) (.cons (Eb w) (.cons (Fo w) (.cons (FC w) (.cons (Er w) .nil)))))))) .nil (.cons (kj w) rfl rfl (by kernel_rfl) (.cons (BV w) rfl rfl (by kernel_rfl) (.cons (CY w) rfl rfl (by kernel_rfl) (.cons (Bq w) rfl rfl (by kernel_rfl) (.cons (Al w) rfl rfl (by kernel_rfl) (.cons (B1 w) rfl rfl (by kernel_rfl) .nil)))))) .nil .nil) (by decide) (zD w)
end
section
theorem iY {α : Type} {T : Tb} {C : Ct} {x : Str} {elt : Expr} {cel : List aa} {K : List SV → List aa → Prop} (sv : α → SV) (g : α → SV) (m : Nat) : ∀ (its : List α) (acc : List SV) (n : Nat), its.length + m + 1 ≤ n →
  (∀ d ∈ its, ∀ (k : Nat) (K' : AV → SS → Prop), K' (.v (g d)) ⟨[(x, .v (sv d))], cel⟩ → jT T (k + m) C (.e elt ⟨[(x, .v (sv d))], cel⟩ K')) → K (acc ++ its.map g) cel → jT T n C (.c x elt (its.map sv) acc cel K) := by
 intro its0
 induction its0 with
 | nil =>
  intro acc n hn _ k
  obtain ⟨n, rfl⟩ := g8 hn
  rw [List.map_nil, List.append_nil] at k
  exact k
 | cons d its ih =>
  intro acc n hn turn k
  obtain ⟨n, rfl⟩ := fu hn
  rw [List.length_cons] at hn
  refine turn d (.head _) n _ ?_
  refine ih (acc ++ [g d]) (n + m) (by lia) (fun d hd => turn d (.tail _ hd)) ?_
  rw [List.map_cons] at k
  rw [List.append_assoc]
  exact k
theorem sU (f : Fm) (h : cq f) : (pf f).length ≤ 200 := by
 induction f using Fm.casesOn with
 | ping => have := ax [1]; simp only [List.length_cons, List.length_nil] at this; dsimp only [pf]; lia
 | done => have := ax [30]; simp only [List.length_cons, List.length_nil] at this; dsimp only [pf]; lia
 | ack d low e => have := ax (nT d low e); dsimp only [pf]; induction e using Bool.casesOn <;> simp only [nT, List.length_cons, List.length_nil] at this ⊢ <;> lia
 | crypto o l => have h1 := ax [6, o]; have h2 := dw l; have h3 := h.2.2; dsimp only [pf]; simp only [List.length_append, List.length_cons, List.length_nil] at *; lia
 | stream n o l f => have h1 := ax [stN f, n, o]; have h2 := dw l; have h3 := h.2.2.2.2; dsimp only [pf]; simp only [List.length_append, List.length_cons, List.length_nil] at *; lia
 | maxData n => have := ax [16, n]; simp only [List.length_cons, List.length_nil] at this; dsimp only [pf]; lia
 | retire n => have := ax [25, n]; simp only [List.length_cons, List.length_nil] at this; dsimp only [pf]; lia
 | maxStreams u n => have := ax [msN u, n]; simp only [List.length_cons, List.length_nil] at this; dsimp only [pf]; lia
 | ncid p c => have h1 := ax [24, p + 1, p]; have h3 := h.2.2.2; dsimp only [pf]; simp only [List.length_append, List.length_cons, List.length_nil, a6] at *; lia
 | pathResp => have h1 := ax [27]; dsimp only [pf]; simp only [List.length_append, List.length_cons, List.length_nil, a6] at *; lia
 | pathChal => have h1 := ax [26]; dsimp only [pf]; simp only [List.length_append, List.length_cons, List.length_nil, a6] at *; lia
 | close c ft l => have h1 := ax (cW c ft); have h2 := dw l; have h3 := h.2.2; dsimp only [pf]; induction ft using Bool.casesOn <;> simp only [cW, List.length_append, List.length_cons, List.length_nil] at * <;> lia
 | newToken l => have h1 := ax [7]; have h2 := dw l; have h3 := h.2; dsimp only [pf]; simp only [List.length_append, List.length_cons, List.length_nil] at *; lia
theorem qj : ∀ (fs : List Fm), (∀ f ∈ fs, cq f) → dC (fs.map pf) ≤ 200 * fs.length
 | [], _ => Nat.zero_le _
 | f :: fs, h => by
  have := qj fs fun g hg => h g (.tail _ hg)
  have := sU f (h f (.head _))
  rw [List.map_cons, dC, List.length_cons]; lia
noncomputable def zv (f : Fm) : SV := .bytes (pf f)
theorem tG (fs : List Fm) : dZ (fs.map zv) = some (fs.map pf) := by
 have : fs.map zv = (fs.map pf).map SV.bytes := by rw [List.map_map]; rfl
 rw [this, di]
noncomputable def B9 : Tb := { glob := [("put_frame", .ref 399)], fn := [], fnG := [(399, xB)], cls := [], field := [], meth := [] }
theorem vz (w : World) : RnG gn B9 200 404 [] ["row"] w := fun as cel K h => by
 obtain ⟨fs, rfl, rfl, ok, hl, k⟩ := h
 apply Gd.mk
 ·exact ah (by rw [List.length_map]; lia)
 apply bh.mk
 refine iY Fm.sv zv 20 _ _ _ (Nat.le_trans (m := 41) (by lia) (by decide)) (fun f hf k K' hk => ?_) ?_
 ·refine bQ.mk f rfl rfl rfl (ok f hf) ?_
  exact hk
 ·conv => whnf
  rw [List.nil_append, tG]
  apply Gd.mk
  ·exact ah (Nat.le_trans (qj fs ok) (by lia))
  exact k
theorem Bw (w : World) : aD 404 w := ⟨_, _, _, _, _, _, _, _, _, rfl, by kernel_rfl⟩
theorem vS (w : World) : Bnd (prm 404) ["row"] := b7 fun _ _ => by kernel_rfl
theorem yj (w : World) : aW w 404 7 31 gn :=
 aW.at (ns := ["row"]) (T := B9) (U := 28) (D := 6) 404 [] 200 (Bw w) (vS w) (by kernel_rfl) (fun as cel K h => by
  induction h using gn.casesOn; rfl) (aJ (.cons (Dp w) .nil) .nil (.cons (x8 w) rfl rfl (by kernel_rfl) .nil) .nil .nil) (by decide) (vz w)
noncomputable def Ar : Tb := { glob := [("put_frame", .ref 399), ("len", .bi .len)], fn := [], fnG := [(399, xB)], cls := [], field := [], meth := [] }
theorem r8 (w : World) : RnG fe Ar 200 411 [] ["f"] w := fun as cel K h => by
 obtain ⟨f, rfl, rfl, ok, k⟩ := h
 have := sU f ok
 refine bQ.mk f rfl rfl rfl ok ?_
 apply Gd.mk
 ·exact ah (by lia)
 exact k
theorem Ah (w : World) : aD 411 w := ⟨_, _, _, _, _, _, _, _, _, rfl, by kernel_rfl⟩
theorem xg (w : World) : Bnd (prm 411) ["f"] := b7 fun _ _ => by kernel_rfl
theorem AE (w : World) : aW w 411 7 31 fe :=
 aW.at (ns := ["f"]) (T := Ar) (U := 28) (D := 6) 411 [] 200 (Ah w) (xg w) (by kernel_rfl) (fun as cel K h => by
  induction h using fe.casesOn; rfl) (aJ (.cons (Dp w) (.cons (fz w) .nil)) .nil (.cons (x8 w) rfl rfl (by kernel_rfl) .nil) .nil .nil) (by decide) (r8 w)
end
section
theorem bv {α : Type} {T : Tb} {C : Ct} {x : Str} {test elt : Expr} {cel : List aa} {K : List SV → List aa → Prop} (sv g : α → SV) (p : α → Bool) (m : Nat) : ∀ (its : List α) (acc : List SV) (n : Nat), its.length + m + 1 ≤ n →
  (∀ d ∈ its, ∀ (k : Nat) (K' : Bool → SS → Prop), K' (p d) ⟨[(x, .v (sv d))], cel⟩ → run T (k + m) C (.t test ⟨[(x, .v (sv d))], cel⟩ K')) →
  (∀ d ∈ its, ∀ (k : Nat) (K' : AV → SS → Prop), K' (.v (g d)) ⟨[(x, .v (sv d))], cel⟩ → run T (k + m) C (.e elt ⟨[(x, .v (sv d))], cel⟩ K')) → K (acc ++ (its.filter p).map g) cel → run T n C (.c x [test] elt (its.map sv) acc cel K) := by
 intro its0
 induction its0 with
 | nil =>
  intro acc n hn _ _ k
  obtain ⟨n, rfl⟩ := g8 hn
  rw [List.filter_nil, List.map_nil, List.append_nil] at k
  exact k
 | cons d its ih =>
  intro acc n hn tt te k
  obtain ⟨n, rfl⟩ := fu hn
  rw [List.length_cons] at hn
  refine tt d (.head _) n _ ?_
  have go := fun acc' => ih acc' (n + m) (by lia) (fun d hd => tt d (.tail _ hd)) (fun d hd => te d (.tail _ hd))
  cases hp : p d with
  | true =>
   refine te d (.head _) n _ ?_
   refine go (acc ++ [g d]) ?_
   rw [List.filter_cons, hp, if_pos rfl, List.map_cons] at k
   rw [List.append_assoc]; exact k
  | false =>
   refine go acc ?_
   rw [List.filter_cons, hp, if_neg Bool.false_ne_true] at k
   exact k
theorem uD {α : Type} {T : Tb} {C : Ct} {x : Str} {elt : Expr} {cel : List aa} {K : List SV → List aa → Prop} (sv g : α → SV) (m : Nat) : ∀ (its : List α) (acc : List SV) (n : Nat), its.length + m + 1 ≤ n →
  (∀ d ∈ its, ∀ (k : Nat) (K' : AV → SS → Prop), K' (.v (g d)) ⟨[(x, .v (sv d))], cel⟩ → run T (k + m) C (.e elt ⟨[(x, .v (sv d))], cel⟩ K')) → K (acc ++ its.map g) cel → run T n C (.c x [] elt (its.map sv) acc cel K) := by
 intro its0
 induction its0 with
 | nil =>
  intro acc n hn _ k
  obtain ⟨n, rfl⟩ := g8 hn
  rw [List.map_nil, List.append_nil] at k
  exact k
 | cons d its ih =>
  intro acc n hn te k
  obtain ⟨n, rfl⟩ := fu hn
  rw [List.length_cons] at hn
  refine te d (.head _) n _ ?_
  refine ih (acc ++ [g d]) (n + m) (by lia) (fun d hd => te d (.tail _ hd)) ?_
  rw [List.map_cons] at k
  rw [List.append_assoc]; exact k
theorem aP : (Builtin.Str.occurrences ("IH01" : Str) ("I" : Str) 0 ("IH01" : Str).length 1).isEmpty = false := by decide +kernel
theorem aN : (Builtin.Str.occurrences ("IH01" : Str) ("H" : Str) 0 ("IH01" : Str).length 1).isEmpty = false := by decide +kernel
theorem aO : (Builtin.Str.occurrences ("IH01" : Str) ("0" : Str) 0 ("IH01" : Str).length 1).isEmpty = false := by decide +kernel
theorem aM : (Builtin.Str.occurrences ("IH01" : Str) ("1" : Str) 0 ("IH01" : Str).length 1).isEmpty = false := by decide +kernel
theorem be : (Builtin.Str.occurrences ("IH1" : Str) ("I" : Str) 0 ("IH1" : Str).length 1).isEmpty = false := by decide +kernel
theorem a7 : (Builtin.Str.occurrences ("IH1" : Str) ("H" : Str) 0 ("IH1" : Str).length 1).isEmpty = false := by decide +kernel
theorem a8 : (Builtin.Str.occurrences ("IH1" : Str) ("0" : Str) 0 ("IH1" : Str).length 1).isEmpty = true := by decide +kernel
theorem a9 : (Builtin.Str.occurrences ("IH1" : Str) ("1" : Str) 0 ("IH1" : Str).length 1).isEmpty = false := by decide +kernel
theorem bp : (Builtin.Str.occurrences ("01" : Str) ("I" : Str) 0 ("01" : Str).length 1).isEmpty = true := by decide +kernel
theorem bq : (Builtin.Str.occurrences ("01" : Str) ("H" : Str) 0 ("01" : Str).length 1).isEmpty = true := by decide +kernel
theorem bt : (Builtin.Str.occurrences ("01" : Str) ("0" : Str) 0 ("01" : Str).length 1).isEmpty = false := by decide +kernel
theorem br : (Builtin.Str.occurrences ("01" : Str) ("1" : Str) 0 ("01" : Str).length 1).isEmpty = false := by decide +kernel
theorem bN : (Builtin.Str.occurrences ("1" : Str) ("I" : Str) 0 ("1" : Str).length 1).isEmpty = true := by decide +kernel
theorem bJ : (Builtin.Str.occurrences ("1" : Str) ("H" : Str) 0 ("1" : Str).length 1).isEmpty = true := by decide +kernel
theorem bL : (Builtin.Str.occurrences ("1" : Str) ("0" : Str) 0 ("1" : Str).length 1).isEmpty = true := by decide +kernel
theorem bK : (Builtin.Str.occurrences ("1" : Str) ("1" : Str) 0 ("1" : Str).length 1).isEmpty = false := by decide +kernel
inductive jQ (p : Fm → SV) : List AV → List aa → (SV → List aa → Prop) → Prop
 | mk {x : SV} {cel : List aa} {K : SV → List aa → Prop} (f : Fm) (_ : x = f.sv) (_ : cel = []) (_ : K (p f) []) : jQ p [.v x] cel K
noncomputable def eB : Fm → Bool
 | .ack _ _ _ => false
 | .close _ _ _ => false
 | _ => true
noncomputable def dI : Fm → Bool
 | .pathChal => true
 | .pathResp => true
 | .ncid _ _ => true
 | _ => false
noncomputable def pw : Spec := jQ fun f => .bool (eB f)
noncomputable def iQ : Spec := jQ fun f => .bool (eB f)
noncomputable def oi : Spec := jQ fun f => .bool (dI f)
inductive Pk where
 | z | i | s | h
noncomputable def Pk.long : Pk → Str
 | .z => "zero"
 | .i => "initial"
 | .s => "short"
 | .h => "handshake"
noncomputable def Pk.short : Pk → Str
 | .z => "z"
 | .i => "i"
 | .s => "1"
 | .h => "h"
noncomputable def jF : Fm → Pk → Bool
 | .ping, _ => true
 | .ack _ _ _, .z => false
 | .ack _ _ _, _ => true
 | .crypto _ _, .z => false
 | .crypto _ _, _ => true
 | .close _ true _, _ => true
 | .newToken _, .s => true
 | .newToken _, _ => false
 | .retire _, .s => true
 | .retire _, _ => false
 | .pathResp, .s => true
 | .pathResp, _ => false
 | .done, .s => true
 | .done, _ => false
 | _, .z => true
 | _, .s => true
 | _, _ => false
inductive jj : List AV → List aa → (SV → List aa → Prop) → Prop
 | mk {y : Str} {x : SV} {cel : List aa} {K : SV → List aa → Prop} (f : Fm) (p : Pk) (_ : x = f.sv) (_ : y = p.long) (_ : cel = []) (_ : K (.bool (jF f p)) []) : jj [.v x, .v (.str y)] cel K
inductive eJ (p : List Fm → SV) : List AV → List aa → (SV → List aa → Prop) → Prop
 | mk {l : List SV} {cel : List aa} {K : SV → List aa → Prop} (fs : List Fm) (_ : l = fs.map Fm.sv) (_ : cel = []) (_ : fs.length ≤ 10) (_ : K (p fs) []) : eJ p [.v (.lst l)] cel K
noncomputable def pF : Spec := eJ fun fs => .bool (!(fs.filter eB).isEmpty)
noncomputable def oJ : Spec := eJ fun fs => .bool (!(fs.filter eB).isEmpty)
noncomputable def uj : Spec := eJ fun fs => .bool (fs.filter fun f => !dI f).isEmpty
theorem Ds (f : Fm) : jI 6 f.sv = true := by
 induction f using Fm.casesOn with
 | ack d low e => induction e using Bool.casesOn <;> rfl
 | close c ft l => induction ft using Bool.casesOn <;> rfl
 | _ => rfl
theorem lQ (fs : List Fm) : (fs.map Fm.sv).all (jI 6) = true := by
 rw [List.all_map, List.all_eq_true]; exact fun f _ => Ds f
noncomputable def Cz : Tb := { glob := [("NOT_ELICITING", eZ)], fn := [], fnG := [], cls := [], field := [], meth := [] }
theorem tx (w : World) : Rn pw Cz 200 282 [] ["f"] w := fun as cel K h => by
 obtain ⟨f, rfl, rfl, k⟩ := h
 induction f using Fm.casesOn with
 | ping =>
  exact k
 | ack _ _ _ =>
  exact k
 | crypto _ _ =>
  exact k
 | stream _ _ _ _ =>
  exact k
 | maxData _ =>
  exact k
 | maxStreams _ _ =>
  exact k
 | ncid _ _ =>
  exact k
 | pathResp =>
  exact k
 | close _ _ _ =>
  exact k
 | done =>
  exact k
 | retire _ =>
  exact k
 | pathChal =>
  exact k
 | newToken _ =>
  exact k
theorem AY (w : World) : aD 282 w := ⟨_, _, _, _, _, _, _, _, _, rfl, by kernel_rfl⟩
theorem vY (w : World) : Bnd (prm 282) ["f"] := b7 fun _ _ => by kernel_rfl
theorem DK (w : World) : aj w 282 1 13 pw :=
 aj.at (ns := ["f"]) (T := Cz) (U := 10) (D := 0) 282 [] 200 (AY w) (vY w) (by kernel_rfl) (fun as cel K h => by
  induction h using jQ.casesOn; rfl) (aJ (.cons (g_5 w) .nil) .nil .nil .nil .nil) (by decide) (tx w)
noncomputable def B7 : Tb := { glob := [], fn := [], fnG := [], cls := [], field := [], meth := [] }
theorem oy (w : World) : Rn iQ B7 200 289 [] ["f"] w := fun as cel K h => by
 obtain ⟨f, rfl, rfl, k⟩ := h
 induction f using Fm.casesOn with
 | ping =>
  exact k
 | ack _ _ _ =>
  exact k
 | crypto _ _ =>
  exact k
 | stream _ _ _ _ =>
  exact k
 | maxData _ =>
  exact k
 | maxStreams _ _ =>
  exact k
 | ncid _ _ =>
  exact k
 | pathResp =>
  exact k
 | close _ _ _ =>
  exact k
 | done =>
  exact k
 | retire _ =>
  exact k
 | pathChal =>
  exact k
 | newToken _ =>
  exact k
theorem AN (w : World) : aD 289 w := ⟨_, _, _, _, _, _, _, _, _, rfl, by kernel_rfl⟩
theorem vC (w : World) : Bnd (prm 289) ["f"] := b7 fun _ _ => by kernel_rfl
theorem BJ (w : World) : aj w 289 1 13 iQ :=
 aj.at (ns := ["f"]) (T := B7) (U := 10) (D := 0) 289 [] 200 (AN w) (vC w) (by kernel_rfl) (fun as cel K h => by
  induction h using jQ.casesOn; rfl) (aJ .nil .nil .nil .nil .nil) (by decide) (oy w)
noncomputable def Dc : Tb := { glob := [("PROBING", mx)], fn := [], fnG := [], cls := [], field := [], meth := [] }
theorem tQ (w : World) : Rn oi Dc 200 296 [] ["f"] w := fun as cel K h => by
 obtain ⟨f, rfl, rfl, k⟩ := h
 induction f using Fm.casesOn with
 | ping =>
  exact k
 | ack _ _ _ =>
  exact k
 | crypto _ _ =>
  exact k
 | stream _ _ _ _ =>
  exact k
 | maxData _ =>
  exact k
 | maxStreams _ _ =>
  exact k
 | ncid _ _ =>
  exact k
 | pathResp =>
  exact k
 | close _ _ _ =>
  exact k
 | done =>
  exact k
 | retire _ =>
  exact k
 | pathChal =>
  exact k
 | newToken _ =>
  exact k
theorem Ay (w : World) : aD 296 w := ⟨_, _, _, _, _, _, _, _, _, rfl, by kernel_rfl⟩
theorem vD (w : World) : Bnd (prm 296) ["f"] := b7 fun _ _ => by kernel_rfl
theorem Df (w : World) : aj w 296 1 13 oi :=
 aj.at (ns := ["f"]) (T := Dc) (U := 10) (D := 0) 296 [] 200 (Ay w) (vD w) (by kernel_rfl) (fun as cel K h => by
  induction h using jQ.casesOn; rfl) (aJ (.cons (g_6 w) .nil) .nil .nil .nil .nil) (by decide) (tQ w)
noncomputable def Bt : Tb := { glob := [("LETTERS", mn), ("PLACES", qo)], fn := [], fnG := [], cls := [], field := [], meth := [] }
theorem vA (w : World) : Rn jj Bt 200 275 [] ["f", "packet"] w := fun as cel K h => by
 obtain ⟨f, p, rfl, rfl, rfl, k⟩ := h
 induction f using Fm.casesOn with
 | ping =>
  induction p using Pk.casesOn <;> (conv => whnf) <;> first | exact k | (rw [aP]; exact k) | (rw [aN]; exact k) | (rw [aO]; exact k) | (rw [aM]; exact k) | (rw [be]; exact k) | (rw [a7]; exact k) | (rw [a8]; exact k) | (rw [a9]; exact k) | (rw [bp]; exact k) | (rw [bq]; exact k) | (rw [bt]; exact k) | (rw [br]; exact k) | (rw [bN]; exact k) | (rw [bJ]; exact k) | (rw [bL]; exact k) | (rw [bK]; exact k)
 | ack _ _ _ =>
  induction p using Pk.casesOn <;> (conv => whnf) <;> first | exact k | (rw [aP]; exact k) | (rw [aN]; exact k) | (rw [aO]; exact k) | (rw [aM]; exact k) | (rw [be]; exact k) | (rw [a7]; exact k) | (rw [a8]; exact k) | (rw [a9]; exact k) | (rw [bp]; exact k) | (rw [bq]; exact k) | (rw [bt]; exact k) | (rw [br]; exact k) | (rw [bN]; exact k) | (rw [bJ]; exact k) | (rw [bL]; exact k) | (rw [bK]; exact k)
 | crypto _ _ =>
  induction p using Pk.casesOn <;> (conv => whnf) <;> first | exact k | (rw [aP]; exact k) | (rw [aN]; exact k) | (rw [aO]; exact k) | (rw [aM]; exact k) | (rw [be]; exact k) | (rw [a7]; exact k) | (rw [a8]; exact k) | (rw [a9]; exact k) | (rw [bp]; exact k) | (rw [bq]; exact k) | (rw [bt]; exact k) | (rw [br]; exact k) | (rw [bN]; exact k) | (rw [bJ]; exact k) | (rw [bL]; exact k) | (rw [bK]; exact k)
 | stream _ _ _ _ =>
  induction p using Pk.casesOn <;> (conv => whnf) <;> first | exact k | (rw [aP]; exact k) | (rw [aN]; exact k) | (rw [aO]; exact k) | (rw [aM]; exact k) | (rw [be]; exact k) | (rw [a7]; exact k) | (rw [a8]; exact k) | (rw [a9]; exact k) | (rw [bp]; exact k) | (rw [bq]; exact k) | (rw [bt]; exact k) | (rw [br]; exact k) | (rw [bN]; exact k) | (rw [bJ]; exact k) | (rw [bL]; exact k) | (rw [bK]; exact k)
 | maxData _ =>
  induction p using Pk.casesOn <;> (conv => whnf) <;> first | exact k | (rw [aP]; exact k) | (rw [aN]; exact k) | (rw [aO]; exact k) | (rw [aM]; exact k) | (rw [be]; exact k) | (rw [a7]; exact k) | (rw [a8]; exact k) | (rw [a9]; exact k) | (rw [bp]; exact k) | (rw [bq]; exact k) | (rw [bt]; exact k) | (rw [br]; exact k) | (rw [bN]; exact k) | (rw [bJ]; exact k) | (rw [bL]; exact k) | (rw [bK]; exact k)
 | maxStreams _ _ =>
  induction p using Pk.casesOn <;> (conv => whnf) <;> first | exact k | (rw [aP]; exact k) | (rw [aN]; exact k) | (rw [aO]; exact k) | (rw [aM]; exact k) | (rw [be]; exact k) | (rw [a7]; exact k) | (rw [a8]; exact k) | (rw [a9]; exact k) | (rw [bp]; exact k) | (rw [bq]; exact k) | (rw [bt]; exact k) | (rw [br]; exact k) | (rw [bN]; exact k) | (rw [bJ]; exact k) | (rw [bL]; exact k) | (rw [bK]; exact k)
 | ncid _ _ =>
  induction p using Pk.casesOn <;> (conv => whnf) <;> first | exact k | (rw [aP]; exact k) | (rw [aN]; exact k) | (rw [aO]; exact k) | (rw [aM]; exact k) | (rw [be]; exact k) | (rw [a7]; exact k) | (rw [a8]; exact k) | (rw [a9]; exact k) | (rw [bp]; exact k) | (rw [bq]; exact k) | (rw [bt]; exact k) | (rw [br]; exact k) | (rw [bN]; exact k) | (rw [bJ]; exact k) | (rw [bL]; exact k) | (rw [bK]; exact k)
 | pathResp =>
  induction p using Pk.casesOn <;> (conv => whnf) <;> first | exact k | (rw [aP]; exact k) | (rw [aN]; exact k) | (rw [aO]; exact k) | (rw [aM]; exact k) | (rw [be]; exact k) | (rw [a7]; exact k) | (rw [a8]; exact k) | (rw [a9]; exact k) | (rw [bp]; exact k) | (rw [bq]; exact k) | (rw [bt]; exact k) | (rw [br]; exact k) | (rw [bN]; exact k) | (rw [bJ]; exact k) | (rw [bL]; exact k) | (rw [bK]; exact k)
 | close _ ft _ =>
  induction ft using Bool.casesOn <;> induction p using Pk.casesOn <;> (conv => whnf) <;> first | exact k | (rw [aP]; exact k) | (rw [aN]; exact k) | (rw [aO]; exact k) | (rw [aM]; exact k) | (rw [be]; exact k) | (rw [a7]; exact k) | (rw [a8]; exact k) | (rw [a9]; exact k) | (rw [bp]; exact k) | (rw [bq]; exact k) | (rw [bt]; exact k) | (rw [br]; exact k) | (rw [bN]; exact k) | (rw [bJ]; exact k) | (rw [bL]; exact k) | (rw [bK]; exact k)
 | done =>
  induction p using Pk.casesOn <;> (conv => whnf) <;> first | exact k | (rw [aP]; exact k) | (rw [aN]; exact k) | (rw [aO]; exact k) | (rw [aM]; exact k) | (rw [be]; exact k) | (rw [a7]; exact k) | (rw [a8]; exact k) | (rw [a9]; exact k) | (rw [bp]; exact k) | (rw [bq]; exact k) | (rw [bt]; exact k) | (rw [br]; exact k) | (rw [bN]; exact k) | (rw [bJ]; exact k) | (rw [bL]; exact k) | (rw [bK]; exact k)
 | retire _ =>
  induction p using Pk.casesOn <;> (conv => whnf) <;> first | exact k | (rw [aP]; exact k) | (rw [aN]; exact k) | (rw [aO]; exact k) | (rw [aM]; exact k) | (rw [be]; exact k) | (rw [a7]; exact k) | (rw [a8]; exact k) | (rw [a9]; exact k) | (rw [bp]; exact k) | (rw [bq]; exact k) | (rw [bt]; exact k) | (rw [br]; exact k) | (rw [bN]; exact k) | (rw [bJ]; exact k) | (rw [bL]; exact k) | (rw [bK]; exact k)
 | pathChal =>
  induction p using Pk.casesOn <;> (conv => whnf) <;> first | exact k | (rw [aP]; exact k) | (rw [aN]; exact k) | (rw [aO]; exact k) | (rw [aM]; exact k) | (rw [be]; exact k) | (rw [a7]; exact k) | (rw [a8]; exact k) | (rw [a9]; exact k) | (rw [bp]; exact k) | (rw [bq]; exact k) | (rw [bt]; exact k) | (rw [br]; exact k) | (rw [bN]; exact k) | (rw [bJ]; exact k) | (rw [bL]; exact k) | (rw [bK]; exact k)
 | newToken _ =>
  induction p using Pk.casesOn <;> (conv => whnf) <;> first | exact k | (rw [aP]; exact k) | (rw [aN]; exact k) | (rw [aO]; exact k) | (rw [aM]; exact k) | (rw [be]; exact k) | (rw [a7]; exact k) | (rw [a8]; exact k) | (rw [a9]; exact k) | (rw [bp]; exact k) | (rw [bq]; exact k) | (rw [bt]; exact k) | (rw [br]; exact k) | (rw [bN]; exact k) | (rw [bJ]; exact k) | (rw [bL]; exact k) | (rw [bK]; exact k)
theorem Cd (w : World) : aD 275 w := ⟨_, _, _, _, _, _, _, _, _, rfl, by kernel_rfl⟩
theorem w8 (w : World) : Bnd (prm 275) ["f", "packet"] := dG fun _ _ _ => by kernel_rfl
theorem yz (w : World) : aj w 275 1 13 jj :=
 aj.at (ns := ["f", "packet"]) (T := Bt) (U := 10) (D := 0) 275 [] 200 (Cd w) (w8 w) (by kernel_rfl) (fun as cel K h => by
  induction h using jj.casesOn; rfl) (aJ (.cons (g_4 w) (.cons (g_3 w) .nil)) .nil .nil .nil .nil) (by decide) (vA w)
end
section
noncomputable def kn : Fm → Str
 | .ping => "ping"
 | .ack _ _ _ => "ack"
 | .crypto _ _ => "crypto"
 | .stream _ _ _ _ => "stream"
 | .maxData _ => "max_data"
 | .maxStreams _ _ => "max_streams"
 | .ncid _ _ => "new_connection_id"
 | .pathResp => "path_response"
 | .close _ _ _ => "close"
 | .done => "handshake_done"
 | .retire _ => "retire_connection_id"
 | .pathChal => "path_challenge"
 | .newToken _ => "new_token"
theorem fw (f : Fm) : ∃ tl, f.sv = .tup (.str (kn f) :: tl) ∧ Nat.ble (SV.str (kn f) :: tl).length 16384 = true := by
 induction f using Fm.casesOn <;> exact ⟨_, rfl, rfl⟩
theorem jg (x a b : Str) : dm x [.str a, .str b] = some (Fast.sEq a x || Fast.sEq b x) := by
 simp only [dm]
 cases Fast.sEq a x <;> cases Fast.sEq b x <;> rfl
noncomputable def wB (a b : Str) (f : Fm) : Bool := !(Fast.sEq a (kn f) || Fast.sEq b (kn f))
inductive cQ : List AV → List aa → (SV → List aa → Prop) → Prop
 | mk {l : List SV} {a : Str} {b : Str} {cel : List aa} {K : SV → List aa → Prop} (fs : List Fm) (_ : l = fs.map Fm.sv) (_ : cel = []) (_ : fs.length ≤ 10) (_ : K (.lst ((fs.filter (wB a b)).map Fm.sv)) []) : cQ [.v (.lst l), .v (.tup [.str a, .str b])] cel K
theorem pA {l : List SV} {A B : Prop} (h1 : l = [] → A) (h2 : l ≠ [] → B) : (l = [] ∧ l.all (jI 6) = true ∧ A) ∨ (l.length ≠ ([] : List SV).length ∧ B) := by
 induction l using List.casesOn with
 | nil => exact .inl ⟨rfl, rfl, h1 rfl⟩
 | cons a l => exact .inr ⟨(fun e => by cases e), h2 (fun e => by cases e)⟩
theorem dk {fs : List Fm} {p : Fm → Bool} (e : (fs.filter p).map Fm.sv = []) : (fs.filter p).isEmpty = true := by rw [List.map_eq_nil_iff.mp e]; rfl
theorem c9 {fs : List Fm} {p : Fm → Bool} (e : (fs.filter p).map Fm.sv ≠ []) : (fs.filter p).isEmpty = false := by
 cases q : fs.filter p with
 | nil => rw [q] at e; exact absurd rfl e
 | cons a l => rfl
noncomputable def AU : Tb := { glob := [("is_eliciting", .ref 282)], fn := [(282, pw)], fnG := [], cls := [], field := [], meth := [] }
theorem tX (w : World) : Rn pF AU 200 301 [] ["row"] w := fun as cel K h => by
 obtain ⟨fs, rfl, rfl, hl, k⟩ := h
 apply Gd.mk
 ·exact ah (by rw [List.length_map]; lia)
 apply bh.mk
 refine bv Fm.sv Fm.sv (eB) 20 _ _ _ (Nat.le_trans (m := 41) (by lia) (by decide)) (fun f _ n K' hk => ?_) (fun f _ n K' hk => ?_) ?_
 ·refine jQ.mk f rfl rfl ?_
  exact hk
 ·exact hk
 ·conv => whnf
  rw [List.nil_append]
  refine pA (fun e => ?_) (fun e => ?_)
  ·rw [dk e] at k
   exact k
  ·rw [c9 e] at k
   exact k
theorem Ak (w : World) : aD 301 w := ⟨_, _, _, _, _, _, _, _, _, rfl, by kernel_rfl⟩
theorem wP (w : World) : Bnd (prm 301) ["row"] := b7 fun _ _ => by kernel_rfl
theorem CM (w : World) : aj w 301 2 16 pF :=
 aj.at (ns := ["row"]) (T := AU) (U := 13) (D := 1) 301 [] 200 (Ak w) (wP w) (by kernel_rfl) (fun as cel K h => by
  induction h using eJ.casesOn; rfl) (aJ (.cons (Ee w) .nil) (.cons (DK w) rfl rfl (by kernel_rfl) .nil) .nil .nil .nil) (by decide) (tX w)
noncomputable def Dl : Tb := { glob := [("counts_in_flight", .ref 289)], fn := [(289, iQ)], fnG := [], cls := [], field := [], meth := [] }
theorem tm (w : World) : Rn oJ Dl 200 306 [] ["row"] w := fun as cel K h => by
 obtain ⟨fs, rfl, rfl, hl, k⟩ := h
 apply Gd.mk
 ·exact ah (by rw [List.length_map]; lia)
 apply bh.mk
 refine bv Fm.sv Fm.sv (eB) 20 _ _ _ (Nat.le_trans (m := 41) (by lia) (by decide)) (fun f _ n K' hk => ?_) (fun f _ n K' hk => ?_) ?_
 ·refine jQ.mk f rfl rfl ?_
  exact hk
 ·exact hk
 ·conv => whnf
  rw [List.nil_append]
  refine pA (fun e => ?_) (fun e => ?_)
  ·rw [dk e] at k
   exact k
  ·rw [c9 e] at k
   exact k
theorem AI (w : World) : aD 306 w := ⟨_, _, _, _, _, _, _, _, _, rfl, by kernel_rfl⟩
theorem vo (w : World) : Bnd (prm 306) ["row"] := b7 fun _ _ => by kernel_rfl
theorem Ax (w : World) : aj w 306 2 16 oJ :=
 aj.at (ns := ["row"]) (T := Dl) (U := 13) (D := 1) 306 [] 200 (AI w) (vo w) (by kernel_rfl) (fun as cel K h => by
  induction h using eJ.casesOn; rfl) (aJ (.cons (Fj w) .nil) (.cons (BJ w) rfl rfl (by kernel_rfl) .nil) .nil .nil .nil) (by decide) (tm w)
noncomputable def Aj : Tb := { glob := [("is_probing", .ref 296)], fn := [(296, oi)], fnG := [], cls := [], field := [], meth := [] }
theorem w1 (w : World) : Rn uj Aj 200 311 [] ["row"] w := fun as cel K h => by
 obtain ⟨fs, rfl, rfl, hl, k⟩ := h
 apply Gd.mk
 ·exact ah (by rw [List.length_map]; lia)
 apply bh.mk
 refine bv Fm.sv Fm.sv (fun f => !dI f) 20 _ _ _ (Nat.le_trans (m := 41) (by lia) (by decide)) (fun f _ n K' hk => ?_) (fun f _ n K' hk => ?_) ?_
 ·refine jQ.mk f rfl rfl ?_
  exact hk
 ·exact hk
 ·conv => whnf
  rw [List.nil_append]
  refine pA (fun e => ?_) (fun e => ?_)
  ·rw [dk e] at k
   exact k
  ·rw [c9 e] at k
   exact k
theorem A5 (w : World) : aD 311 w := ⟨_, _, _, _, _, _, _, _, _, rfl, by kernel_rfl⟩
theorem xG (w : World) : Bnd (prm 311) ["row"] := b7 fun _ _ => by kernel_rfl
theorem BE (w : World) : aj w 311 2 16 uj :=
 aj.at (ns := ["row"]) (T := Aj) (U := 13) (D := 1) 311 [] 200 (A5 w) (xG w) (by kernel_rfl) (fun as cel K h => by
  induction h using eJ.casesOn; rfl) (aJ (.cons (Ew w) .nil) (.cons (Df w) rfl rfl (by kernel_rfl) .nil) .nil .nil .nil) (by decide) (w1 w)
noncomputable def Am : Tb := { glob := [], fn := [], fnG := [], cls := [], field := [], meth := [] }
theorem mP (w : World) : Rn cQ Am 200 337 [] ["row", "kinds"] w := fun as cel K h => by
 obtain ⟨fs, rfl, rfl, hl, k⟩ := h
 rename_i a b
 apply Gd.mk
 ·exact ah (by rw [List.length_map]; lia)
 apply bh.mk
 refine bv Fm.sv Fm.sv (wB a b) 20 _ _ _ (Nat.le_trans (m := 41) (by lia) (by decide)) (fun f _ n K' hk => ?_) (fun f _ n K' hk => ?_) ?_
 ·obtain ⟨tl, e, hb⟩ := fw f
  rw [e] at hk ⊢
  apply Gd.mk
  ·exact hb
  conv => whnf
  rw [jg]
  exact hk
 ·exact hk
 ·conv => whnf
  rw [List.nil_append]
  exact k
theorem C1 (w : World) : aD 337 w := ⟨_, _, _, _, _, _, _, _, _, rfl, by kernel_rfl⟩
theorem xl (w : World) : Bnd (prm 337) ["row", "kinds"] := dG fun _ _ _ => by kernel_rfl
theorem C2 (w : World) : aj w 337 1 13 cQ :=
 aj.at (ns := ["row", "kinds"]) (T := Am) (U := 10) (D := 0) 337 [] 200 (C1 w) (xl w) (by kernel_rfl) (fun as cel K h => by
  induction h using cQ.casesOn; rfl) (aJ .nil .nil .nil .nil .nil) (by decide) (mP w)
end
section
theorem cs2 {r : Int} (h0 : 0 ≤ r) (h1 : r < 2) : r = 0 ∨ r = 1 := by
 obtain ⟨n, rfl⟩ := Int.eq_ofNat_of_zero_le h0
 exact (by decide : ∀ n : Nat, n < 2 → ((n : Int) = 0 ∨ (n : Int) = 1)) n (Int.ofNat_lt.mp h1)
theorem cs4 {r : Int} (h0 : 0 ≤ r) (h1 : r < 4) : r = 0 ∨ r = 1 ∨ r = 2 ∨ r = 3 := by
 obtain ⟨n, rfl⟩ := Int.eq_ofNat_of_zero_le h0
 exact (by decide : ∀ n : Nat, n < 4 → ((n : Int) = 0 ∨ (n : Int) = 1 ∨ (n : Int) = 2 ∨ (n : Int) = 3)) n (Int.ofNat_lt.mp h1)
theorem cs5 {r : Int} (h0 : 0 ≤ r) (h1 : r < 5) : r = 0 ∨ r = 1 ∨ r = 2 ∨ r = 3 ∨ r = 4 := by
 obtain ⟨n, rfl⟩ := Int.eq_ofNat_of_zero_le h0
 exact (by decide : ∀ n : Nat, n < 5 → ((n : Int) = 0 ∨ (n : Int) = 1 ∨ (n : Int) = 2 ∨ (n : Int) = 3 ∨ (n : Int) = 4)) n (Int.ofNat_lt.mp h1)
theorem Dn {r : Int} (h0 : 0 ≤ r) (h1 : r < 13) : r = 0 ∨ r = 1 ∨ r = 2 ∨ r = 3 ∨ r = 4 ∨ r = 5 ∨ r = 6 ∨ r = 7 ∨ r = 8 ∨ r = 9 ∨ r = 10 ∨ r = 11 ∨ r = 12 := by
 obtain ⟨n, rfl⟩ := Int.eq_ofNat_of_zero_le h0
 exact (by decide : ∀ n : Nat, n < 13 → ((n : Int) = 0 ∨ (n : Int) = 1 ∨ (n : Int) = 2 ∨ (n : Int) = 3 ∨ (n : Int) = 4 ∨ (n : Int) = 5 ∨ (n : Int) = 6 ∨ (n : Int) = 7 ∨ (n : Int) = 8 ∨ (n : Int) = 9 ∨ (n : Int) = 10 ∨ (n : Int) = 11 ∨ (n : Int) = 12)) n (Int.ofNat_lt.mp h1)
noncomputable abbrev bx (ns : List Int) (j : Nat) (h : Int) : List aa := [.lst [.lst (ns.map SV.int), .int (Int.ofNat j), .int h]]
inductive aS : List AV → List aa → (SV → List aa → Prop) → Prop
 | mk {m : Int} {cel : List aa} {K : SV → List aa → Prop} (ns j h : _) (_ : cel = bx ns j h) (_ : ns.length ≤ 63) (_ : j ≤ ns.length) (_ : 0 ≤ h) (_ : 1 ≤ m) (_ : m ≤ 13) (_ : ∀ r j' h', 0 ≤ r → r < m → j' ≤ ns.length → 0 ≤ h' → K (.int r) (bx ns j' h')) : aS [.c 0, .v (.int m)] cel K
noncomputable def Dh : Tb := { glob := [("len", .bi .len)], fn := [], fnG := [], cls := [], field := [], meth := [] }
theorem rp (w : World) : Rn aS Dh 200 426 [] ["box", "many"] w := fun as cel K h => by
 obtain ⟨ns, j, h, rfl, hl, hj, h0, m1, m2, k⟩ := h
 apply Gd.mk
 ·exact ah (by rw [List.length_map]; lia)
 conv => whnf
 rw [List.length_map]
 refine Br.intro (fun q => ?_) (fun q => ?_)
 ·have q : j < ns.length := by have := of_decide_eq_true q; exact Int.ofNat_lt.mp this
  conv => whnf
  rw [show Int.ofNat j + 1 - 1 = Int.ofNat j from by lia]
  conv => whnf
  rw [List.getElem?_map, List.getElem?_eq_getElem q]
  apply Gd.mk
  ·exact ah (by rw [List.length_map]; lia)
  apply Gd.mk
  ·exact by simp; lia
  exact k _ (j + 1) _ (Int.fmod_nonneg_of_pos _ (by lia)) (Int.fmod_lt_of_pos _ (by lia)) q (Int.fmod_nonneg_of_pos _ (by decide))
 ·apply Gd.mk
  ·exact by simp; lia
  exact k _ j _ (Int.fmod_nonneg_of_pos _ (by lia)) (Int.fmod_lt_of_pos _ (by lia)) hj (Int.fmod_nonneg_of_pos _ (by decide))
theorem CO (w : World) : aD 426 w := ⟨_, _, _, _, _, _, _, _, _, rfl, by kernel_rfl⟩
theorem wk (w : World) : Bnd (prm 426) ["box", "many"] := dG fun _ _ _ => by kernel_rfl
theorem qt (w : World) : aj w 426 1 13 aS :=
 aj.at (ns := ["box", "many"]) (T := Dh) (U := 10) (D := 0) 426 [] 200 (CO w) (wk w) (by kernel_rfl) (fun as cel K h => by
  induction h using aS.casesOn; rfl) (aJ (.cons (fz w) .nil) .nil .nil .nil .nil) (by decide) (rp w)
noncomputable def Dd (n : Int) : Prop := n = 3 ∨ n = 70 ∨ n = 20000 ∨ n = 2147483648
inductive bg : List AV → List aa → (SV → List aa → Prop) → Prop
 | mk {cel : List aa} {K : SV → List aa → Prop} (ns j h : _) (_ : cel = bx ns j h) (_ : ns.length ≤ 63) (_ : j ≤ ns.length) (_ : 0 ≤ h) (_ : ∀ n j' h', Dd n → j' ≤ ns.length → 0 ≤ h' → K (.int n) (bx ns j' h')) : bg [.c 0] cel K
inductive c7 : List AV → List aa → (SV → List aa → Prop) → Prop
 | mk {cel : List aa} {K : SV → List aa → Prop} (ns j h : _) (_ : cel = bx ns j h) (_ : ns.length ≤ 63) (_ : j ≤ ns.length) (_ : 0 ≤ h) (_ : ∀ (l : List UInt8) j' h', l.length ≤ 4 → j' ≤ ns.length → 0 ≤ h' → K (.bytes l) (bx ns j' h')) : c7 [.c 0] cel K
noncomputable def C5 : Tb := { glob := [("_law_take", .ref 426)], fn := [(426, aS)], fnG := [], cls := [], field := [], meth := [] }
theorem pg (w : World) : Rn bg C5 200 433 [] ["box"] w := fun as cel K h => by
 obtain ⟨ns, j, h, rfl, hl, hj, h0, k⟩ := h
 refine aS.mk ns j h rfl hl hj h0 (by decide) (by decide) (fun r j' h' r0 r1 hj' h0' => ?_)
 have hr := cs4 r0 r1
 rcases hr with rfl | rfl | rfl | rfl
 ·exact k 3 j' h' (.inl rfl) hj' h0'
 ·exact k 70 j' h' (.inr (.inl rfl)) hj' h0'
 ·exact k 20000 j' h' (.inr (.inr (.inl rfl))) hj' h0'
 ·exact k 2147483648 j' h' (.inr (.inr (.inr rfl))) hj' h0'
theorem B0 (w : World) : aD 433 w := ⟨_, _, _, _, _, _, _, _, _, rfl, by kernel_rfl⟩
theorem w9 (w : World) : Bnd (prm 433) ["box"] := b7 fun _ _ => by kernel_rfl
theorem Cl (w : World) : aj w 433 2 16 bg :=
 aj.at (ns := ["box"]) (T := C5) (U := 13) (D := 1) 433 [] 200 (B0 w) (w9 w) (by kernel_rfl) (fun as cel K h => by
  induction h using bg.casesOn; rfl) (aJ (.cons (vt w) .nil) (.cons (qt w) rfl rfl (by kernel_rfl) .nil) .nil .nil .nil) (by decide) (pg w)
noncomputable def BR : Tb := { glob := [("_law_take", .ref 426), ("bytes", .ty .bytes)], fn := [(426, aS)], fnG := [], cls := [], field := [], meth := [] }
theorem ug (w : World) : Rn c7 BR 200 440 [] ["box"] w := fun as cel K h => by
 obtain ⟨ns, j, h, rfl, hl, hj, h0, k⟩ := h
 refine aS.mk ns j h rfl hl hj h0 (by decide) (by decide) (fun r j' h' r0 r1 hj' h0' => ?_)
 have hr := cs5 r0 r1
 rcases hr with rfl | rfl | rfl | rfl | rfl
 all_goals
  exact k _ j' h' (Nat.le_of_ble_eq_true rfl) hj' h0'
theorem CP (w : World) : aD 440 w := ⟨_, _, _, _, _, _, _, _, _, rfl, by kernel_rfl⟩
theorem ww (w : World) : Bnd (prm 440) ["box"] := b7 fun _ _ => by kernel_rfl
theorem CD (w : World) : aj w 440 2 16 c7 :=
 aj.at (ns := ["box"]) (T := BR) (U := 13) (D := 1) 440 [] 200 (CP w) (ww w) (by kernel_rfl) (fun as cel K h => by
  induction h using c7.casesOn; rfl) (aJ (.cons (vt w) (.cons (rU w) .nil)) (.cons (qt w) rfl rfl (by kernel_rfl) .nil) .nil .nil .nil) (by decide) (ug w)
end
section
inductive dH : List AV → List aa → (SV → List aa → Prop) → Prop
 | mk {cel : List aa} {K : SV → List aa → Prop} (ns j h : _) (_ : cel = bx ns j h) (_ : ns.length ≤ 63) (_ : j ≤ ns.length) (_ : 0 ≤ h) (_ : ∀ f j' h', cq f → j' ≤ ns.length → 0 ≤ h' → K f.sv (bx ns j' h')) : dH [.c 0] cel K
theorem cg {n : Int} (h : Dd n) : 0 < n ∧ n < 4294967296 := by
 rcases h with rfl | rfl | rfl | rfl <;> lia
noncomputable def AZ : Tb := { glob := [("_law_kinds", fV), ("_law_take", .ref 426), ("_law_number", .ref 433), ("_law_some", .ref 440), ("bytes", .ty .bytes), ("range", .ty .range)], fn := [(426, aS), (433, bg), (440, c7)], fnG := [], cls := [], field := [], meth := [] }
theorem oW (w : World) : Rn dH AZ 200 447 [] ["box"] w := fun as cel K h => by
 obtain ⟨ns, j, h, rfl, hl, hj, h0, k⟩ := h
 refine aS.mk ns j h rfl hl hj h0 (by decide) (by decide) (fun r j' h' r0 r1 hj' h0' => ?_)
 have hr := Dn r0 r1
 rcases hr with rfl | rfl | rfl | rfl | rfl | rfl | rfl | rfl | rfl | rfl | rfl | rfl | rfl
 ·exact k (.ping) _ _ (trivial) (by assumption) (by assumption)
 ·refine aS.mk ns _ _ rfl hl (by assumption) (by assumption) (by decide) (by decide) (fun r j1 h1 r0 r1 hj1 hh1 => ?_)
  refine bg.mk ns _ _ rfl hl (by assumption) (by assumption) (fun n j2 h2 b2 hj2 hh2 => ?_)
  have q2 := cg b2
  refine Br.intro (fun q => ?_) (fun q => ?_)
  ·exact k (.ack n (10 + r) false) _ _ ⟨by lia, by lia, by lia, by lia⟩ hj2 hh2
  ·exact k (.ack n (10 + r) true) _ _ ⟨by lia, by lia, by lia, by lia⟩ hj2 hh2
 ·refine bg.mk ns _ _ rfl hl (by assumption) (by assumption) (fun n j1 h1 b1 hj1 hh1 => ?_)
  have q1 := cg b1
  refine c7.mk ns _ _ rfl hl (by assumption) (by assumption) (fun l j2 h2 b2 hj2 hh2 => ?_)
  exact k (.crypto n l) _ _ (⟨by lia, by lia, b2⟩) (by assumption) (by assumption)
 ·refine bg.mk ns _ _ rfl hl (by assumption) (by assumption) (fun n j1 h1 b1 hj1 hh1 => ?_)
  have q1 := cg b1
  refine bg.mk ns _ _ rfl hl (by assumption) (by assumption) (fun o j2 h2 b2 hj2 hh2 => ?_)
  have q2 := cg b2
  refine c7.mk ns _ _ rfl hl (by assumption) (by assumption) (fun l j3 h3 b3 hj3 hh3 => ?_)
  refine aS.mk ns _ _ rfl hl (by assumption) (by assumption) (by decide) (by decide) (fun r j4 h4 r0 r1 hj4 hh4 => ?_)
  have hr := cs2 r0 r1
  rcases hr with rfl | rfl
  all_goals
   conv => whnf
  ·exact k (.stream n o l true) _ _ (⟨by lia, by lia, by lia, by lia, b3⟩) (by assumption) (by assumption)
  ·exact k (.stream n o l false) _ _ (⟨by lia, by lia, by lia, by lia, b3⟩) (by assumption) (by assumption)
 ·refine bg.mk ns _ _ rfl hl (by assumption) (by assumption) (fun n j1 h1 b1 hj1 hh1 => ?_)
  have q1 := cg b1
  exact k (.maxData n) _ _ (⟨by lia, by lia⟩) (by assumption) (by assumption)
 ·refine aS.mk ns _ _ rfl hl (by assumption) (by assumption) (by decide) (by decide) (fun r j1 h1 r0 r1 hj1 hh1 => ?_)
  have hr := cs2 r0 r1
  rcases hr with rfl | rfl
  ·refine bg.mk ns _ _ rfl hl (by assumption) (by assumption) (fun n j2 h2 b2 hj2 hh2 => ?_)
   have q2 := cg b2
   exact k (.maxStreams true n) _ _ (⟨by lia, by lia⟩) (by assumption) (by assumption)
  ·refine bg.mk ns _ _ rfl hl (by assumption) (by assumption) (fun n j2 h2 b2 hj2 hh2 => ?_)
   have q2 := cg b2
   exact k (.maxStreams false n) _ _ (⟨by lia, by lia⟩) (by assumption) (by assumption)
 ·refine bg.mk ns _ _ rfl hl (by assumption) (by assumption) (fun n j1 h1 b1 hj1 hh1 => ?_)
  have q1 := cg b1
  refine c7.mk ns _ _ rfl hl (by assumption) (by assumption) (fun l j2 h2 b2 hj2 hh2 => ?_)
  apply Gd.mk
  ·exact ah (Nat.le_trans (Nat.add_le_add (Nat.le_of_ble_eq_true rfl : _ ≤ 2) (by assumption)) (by decide))
  exact k (.ncid n ([105, 100] ++ l)) _ _ (⟨by lia, by lia, by rw [List.length_append]; exact Nat.le_trans (Nat.le_of_ble_eq_true rfl) (Nat.le_add_right 2 l.length), by rw [List.length_append]; exact Nat.add_le_add (Nat.le_of_ble_eq_true rfl : _ ≤ 2) b2⟩) (by assumption) (by assumption)
 ·exact k (.pathResp) _ _ (trivial) (by assumption) (by assumption)
 ·refine bg.mk ns _ _ rfl hl (by assumption) (by assumption) (fun n j1 h1 b1 hj1 hh1 => ?_)
  have q1 := cg b1
  refine aS.mk ns _ _ rfl hl (by assumption) (by assumption) (by decide) (by decide) (fun r j2 h2 r0 r1 hj2 hh2 => ?_)
  have hr := cs2 r0 r1
  rcases hr with rfl | rfl
  ·refine c7.mk ns _ _ rfl hl (by assumption) (by assumption) (fun l j3 h3 b3 hj3 hh3 => ?_)
   exact k (.close n false l) _ _ (⟨by lia, by lia, b3⟩) (by assumption) (by assumption)
  ·refine c7.mk ns _ _ rfl hl (by assumption) (by assumption) (fun l j3 h3 b3 hj3 hh3 => ?_)
   exact k (.close n true l) _ _ (⟨by lia, by lia, b3⟩) (by assumption) (by assumption)
 ·exact k (.done) _ _ (trivial) (by assumption) (by assumption)
 ·refine bg.mk ns _ _ rfl hl (by assumption) (by assumption) (fun n j1 h1 b1 hj1 hh1 => ?_)
  have q1 := cg b1
  exact k (.retire n) _ _ (⟨by lia, by lia⟩) (by assumption) (by assumption)
 ·exact k (.pathChal) _ _ (trivial) (by assumption) (by assumption)
 ·refine c7.mk ns _ _ rfl hl (by assumption) (by assumption) (fun l j1 h1 b1 hj1 hh1 => ?_)
  apply Gd.mk
  ·exact ah (Nat.le_trans (Nat.add_le_add (Nat.le_of_ble_eq_true rfl : _ ≤ 2) (by assumption)) (by decide))
  exact k (.newToken ([116] ++ l)) _ _ (⟨by rw [List.length_append]; exact Nat.le_trans (Nat.le_of_ble_eq_true rfl) (Nat.le_add_right 1 l.length), by rw [List.length_append]; exact Nat.add_le_add (Nat.le_of_ble_eq_true rfl : _ ≤ 1) b1⟩) (by assumption) (by assumption)
theorem Bd (w : World) : aD 447 w := ⟨_, _, _, _, _, _, _, _, _, rfl, by kernel_rfl⟩
theorem wN (w : World) : Bnd (prm 447) ["box"] := b7 fun _ _ => by kernel_rfl
theorem B6 (w : World) : aj w 447 3 19 dH :=
 aj.at (ns := ["box"]) (T := AZ) (U := 16) (D := 2) 447 [] 200 (Bd w) (wN w) (by kernel_rfl) (fun as cel K h => by
  induction h using dH.casesOn; rfl) (aJ (.cons (g_9 w) (.cons (vt w) (.cons (Fz w) (.cons (Eh w) (.cons (rU w) (.cons (oz w) .nil)))))) (.cons (qt w) rfl rfl (by kernel_rfl) (.cons (Cl w) rfl rfl (by kernel_rfl) (.cons (CD w) rfl rfl (by kernel_rfl) .nil))) .nil .nil .nil) (by decide) (oW w)
end
section
inductive dA : List AV → List aa → (SV → List aa → Prop) → Prop
 | mk {n : Int} {m : Int} {cel : List aa} {K : SV → List aa → Prop} (_ : 0 ≤ n) (_ : n < 4611686018427387904) (_ : (m = 0 ∨ m = 1 ∨ m = 2)) (_ : cel = []) (_ : ((∀ e, Nm e n → K (.bytes (vb e n)) []) ∨ (m = 0 ∧ K (.bytes (vb (lv n) n)) []))) : dA [.v (.int n), .v (.int m)] cel K
noncomputable def oc (x : Int) : Nat → Nat → List Int
 | _, 0 => []
 | j, k + 1 => oc x (j + 1) k ++ [(x.fdiv (256 ^ j)).fmod 256]
theorem uc {x : Int} (h : 0 ≤ x) : ∀ j k, beI k (x.fdiv (256 ^ j)) = (oc x j k).map fun i => i.toNat.toUInt8
 | _, 0 => rfl
 | j, k + 1 => by
  have e : (x.fdiv (256 ^ j)).fdiv 256 = x.fdiv (256 ^ (j + 1)) := by
   have p : (0 : Int) ≤ 256 ^ j := Int.le_of_lt (Int.pow_pos (by decide))
   have p1 : (0 : Int) ≤ 256 ^ (j + 1) := Int.le_of_lt (Int.pow_pos (by decide))
   rw [Int.fdiv_eq_ediv_of_nonneg _ p, Int.fdiv_eq_ediv_of_nonneg _ p1, Int.fdiv_eq_ediv_of_nonneg _ (by decide), Int.ediv_ediv_of_nonneg p, Int.pow_succ]
  rw [beI, e, uc h (j + 1) k, oc, List.map_append]; rfl
theorem cc (x : Int) : ∀ j k, (oc x j k).all mr = true
 | _, 0 => rfl
 | j, k + 1 => by rw [oc, List.all_append, cc x (j + 1) k]; simp [aI]
theorem ek {e : Nat} {n : Int} (h : 0 ≤ n) : vb e n = (oc (n + off e) 0 (sz e)).map fun i => i.toNat.toUInt8 := by
 have ho : 0 ≤ n + off e := by unfold off; split <;> lia
 rw [vf, ← uc ho 0 (sz e)]
 rw [show (256 : Int) ^ 0 = 1 from rfl, Int.fdiv_one]
noncomputable def CI : Tb := { glob := [("min", .bi .min), ("bytes", .ty .bytes), ("range", .ty .range)], fn := [], fnG := [], cls := [], field := [], meth := [] }
theorem um {a b : Nat} (h : a ≤ b) : lim a ≤ lim b := by
 induction h with
 | refl => exact Int.le_refl _
 | step _ ih => exact Int.le_trans ih (e4 (p := fun e => lim e ≤ lim (e + 1)) (by decide) (by decide) (by decide) (fun _ => Int.le_refl _) _)
theorem sY (w : World) : Rn dA CI 200 452 [] ["number", "more"] w := fun as cel K h => by
 obtain ⟨h0, h1, hm, rfl, k⟩ := h
 rename_i n m
 have fin : ∀ (l : Nat), lv n = l → (∀ m', (m = m') → (∀ e, l ≤ e → e ≤ 3 → (m = 0 → e = l) → K (.bytes (vb e n)) [])) := by
  intro l hl m' hm' e he1 he2 he3
  rcases k with k | ⟨hm0, k⟩
  ·refine k e ⟨by lia, h0, ?_⟩
   unfold lv at hl
   have : n < lim l := by
    subst hl
    repeat' split
    all_goals (first | exact (by assumption) | exact h1)
   exact Int.lt_of_lt_of_le this (um he1)
  ·rw [he3 hm0, ← hl]; exact k
 apply bh.mk
 conv => whnf
 refine Br.intro (fun q0 => ?_) (fun q0 => ?_)
 rotate_left
 ·have q0 : n < 64 := Int.not_le.mp (of_decide_eq_false q0)
  have hl : lv n = 0 := by unfold lv; rw [if_pos q0]
  rcases hm with rfl | rfl | rfl
  ·apply bh.mk
   conv => whnf
   apply Gd.mk
   ·exact gw (cc (n + off 0) 0 1) rfl
   have kk := fin 0 hl 0 rfl 0 (by decide) (by decide) (by lia)
   rw [ek h0] at kk
   exact kk
  ·apply bh.mk
   conv => whnf
   apply Gd.mk
   ·exact gw (cc (n + off 1) 0 2) rfl
   have kk := fin 0 hl 1 rfl 1 (by decide) (by decide) (by lia)
   rw [ek h0] at kk
   exact kk
  ·apply bh.mk
   conv => whnf
   apply Gd.mk
   ·exact gw (cc (n + off 2) 0 4) rfl
   have kk := fin 0 hl 2 rfl 2 (by decide) (by decide) (by lia)
   rw [ek h0] at kk
   exact kk
 conv => whnf
 refine Br.intro (fun q1 => ?_) (fun q1 => ?_)
 rotate_left
 ·have q1 : n < 16384 := Int.not_le.mp (of_decide_eq_false q1)
  have q0 : 64 ≤ n := of_decide_eq_true q0
  have hl : lv n = 1 := by unfold lv; rw [if_neg (by lia), if_pos (by lia)]
  rcases hm with rfl | rfl | rfl
  ·apply bh.mk
   conv => whnf
   apply Gd.mk
   ·exact gw (cc (n + off 1) 0 2) rfl
   have kk := fin 1 hl 0 rfl 1 (by decide) (by decide) (by lia)
   rw [ek h0] at kk
   exact kk
  ·apply bh.mk
   conv => whnf
   apply Gd.mk
   ·exact gw (cc (n + off 2) 0 4) rfl
   have kk := fin 1 hl 1 rfl 2 (by decide) (by decide) (by lia)
   rw [ek h0] at kk
   exact kk
  ·apply bh.mk
   conv => whnf
   apply Gd.mk
   ·exact gw (cc (n + off 3) 0 8) rfl
   have kk := fin 1 hl 2 rfl 3 (by decide) (by decide) (by lia)
   rw [ek h0] at kk
   exact kk
 conv => whnf
 refine Br.intro (fun q2 => ?_) (fun q2 => ?_)
 rotate_left
 ·have q2 : n < 1073741824 := Int.not_le.mp (of_decide_eq_false q2)
  have q1 : 16384 ≤ n := of_decide_eq_true q1
  have hl : lv n = 2 := by unfold lv; rw [if_neg (by lia), if_neg (by lia), if_pos (by lia)]
  rcases hm with rfl | rfl | rfl
  ·apply bh.mk
   conv => whnf
   apply Gd.mk
   ·exact gw (cc (n + off 2) 0 4) rfl
   have kk := fin 2 hl 0 rfl 2 (by decide) (by decide) (by lia)
   rw [ek h0] at kk
   exact kk
  ·apply bh.mk
   conv => whnf
   apply Gd.mk
   ·exact gw (cc (n + off 3) 0 8) rfl
   have kk := fin 2 hl 1 rfl 3 (by decide) (by decide) (by lia)
   rw [ek h0] at kk
   exact kk
  ·apply bh.mk
   conv => whnf
   apply Gd.mk
   ·exact gw (cc (n + off 3) 0 8) rfl
   have kk := fin 2 hl 2 rfl 3 (by decide) (by decide) (by lia)
   rw [ek h0] at kk
   exact kk
 conv => whnf
 apply Br.f
 ·exact decide_eq_false (Int.not_le.mpr h1)
 ·have q2 : 1073741824 ≤ n := of_decide_eq_true q2
  have hl : lv n = 3 := by unfold lv; rw [if_neg (by lia), if_neg (by lia), if_neg (by lia)]
  rcases hm with rfl | rfl | rfl
  ·apply bh.mk
   conv => whnf
   apply Gd.mk
   ·exact gw (cc (n + off 3) 0 8) rfl
   have kk := fin 3 hl 0 rfl 3 (by decide) (by decide) (by lia)
   rw [ek h0] at kk
   exact kk
  ·apply bh.mk
   conv => whnf
   apply Gd.mk
   ·exact gw (cc (n + off 3) 0 8) rfl
   have kk := fin 3 hl 1 rfl 3 (by decide) (by decide) (by lia)
   rw [ek h0] at kk
   exact kk
  ·apply bh.mk
   conv => whnf
   apply Gd.mk
   ·exact gw (cc (n + off 3) 0 8) rfl
   have kk := fin 3 hl 2 rfl 3 (by decide) (by decide) (by lia)
   rw [ek h0] at kk
   exact kk
theorem B5 (w : World) : aD 452 w := ⟨_, _, _, _, _, _, _, _, _, rfl, by kernel_rfl⟩
theorem vB (w : World) : Bnd (prm 452) ["number", "more"] := dG fun _ _ _ => by kernel_rfl
theorem ym (w : World) : aj w 452 1 13 dA :=
 aj.at (ns := ["number", "more"]) (T := CI) (U := 10) (D := 0) 452 [] 200 (B5 w) (vB w) (by kernel_rfl) (fun as cel K h => by
  induction h using dA.casesOn; rfl) (aJ (.cons (EP w) (.cons (rU w) (.cons (oz w) .nil))) .nil .nil .nil .nil) (by decide) (sY w)
inductive f0 : List AV → List aa → (SV → List aa → Prop) → Prop
 | mk {l : List UInt8} {m : Int} {cel : List aa} {K : SV → List aa → Prop} (_ : l.length ≤ 30) (_ : (m = 0 ∨ m = 1 ∨ m = 2)) (_ : cel = []) (_ : ((∀ e, Nm e (l.length : Int) → K (.bytes (vb e l.length ++ l)) []) ∨ (m = 0 ∧ K (.bytes (cn l)) []))) : f0 [.v (.bytes l), .v (.int m)] cel K
theorem cE {a b : List UInt8} (h1 : a.length ≤ 1000) (h2 : b.length ≤ 1000) : Nat.ble (a.length + b.length) 16777216 = true := ah (by lia)
theorem cH (e : Nat) (n : Int) : (vb e n).length ≤ 8 := by rw [b9]; unfold sz; split <;> lia
noncomputable def Da : Tb := { glob := [("_law_varint", .ref 452), ("len", .bi .len)], fn := [(452, dA)], fnG := [], cls := [], field := [], meth := [] }
theorem tM (w : World) : Rn f0 Da 200 459 [] ["data", "more"] w := fun as cel K h => by
 obtain ⟨hl, hm, rfl, k⟩ := h
 rename_i l m
 apply Gd.mk
 ·exact ah (by lia)
 refine dA.mk (by lia) (by lia) hm rfl ?_
 rcases k with k | ⟨m0, k⟩
 ·refine .inl fun e he => ?_
  apply Gd.mk
  ·exact cE (Nat.le_trans (cH _ _) (by decide)) (by lia)
  exact k e he
 ·refine .inr ⟨m0, ?_⟩
  apply Gd.mk
  ·exact cE (Nat.le_trans (cH _ _) (by decide)) (by lia)
  exact k
theorem AO (w : World) : aD 459 w := ⟨_, _, _, _, _, _, _, _, _, rfl, by kernel_rfl⟩
theorem wv (w : World) : Bnd (prm 459) ["data", "more"] := dG fun _ _ _ => by kernel_rfl
theorem Cu (w : World) : aj w 459 2 16 f0 :=
 aj.at (ns := ["data", "more"]) (T := Da) (U := 13) (D := 1) 459 [] 200 (AO w) (wv w) (by kernel_rfl) (fun as cel K h => by
  induction h using f0.casesOn; rfl) (aJ (.cons (BZ w) (.cons (fz w) .nil)) (.cons (ym w) rfl rfl (by kernel_rfl) .nil) .nil .nil .nil) (by decide) (tM w)
end
section
inductive Pt where
 | num (n : Int)
 | cnt (l : List UInt8)
 | raw (l : List UInt8)
noncomputable def Pt.sv : Pt → SV
 | .num n => .int n
 | .cnt l => .tup [.str "counted", .bytes l]
 | .raw l => .bytes l
noncomputable def DW (low d : Int) : Bool → List Pt
 | true => [.num (low + 2), .num d, .num 1, .num 2, .num 2, .num 3, .num 1, .num 0, .num 300]
 | false => [.num (low + 2), .num d, .num 1, .num 2, .num 2, .num 3]
noncomputable def sB (c : Int) (l : List UInt8) : Bool → List Pt
 | true => [.num c, .num 6, .cnt l]
 | false => [.num c, .cnt l]
noncomputable def tlP : Fm → List Pt
 | .ping => []
 | .ack d low e => DW low d e
 | .crypto o l => [.num o, .cnt l]
 | .stream n o l _ => [.num n, .num o, .cnt l]
 | .maxData n => [.num n]
 | .maxStreams _ n => [.num n]
 | .ncid p c => [.num (p + 1), .num p, .raw (([c.length.toUInt8] ++ c) ++ cz 0 16)]
 | .pathResp => [.raw (cz 0 8)]
 | .close c ft l => sB c l ft
 | .done => []
 | .retire n => [.num n]
 | .pathChal => [.raw (cz 0 8)]
 | .newToken l => [.cnt l]
inductive fm : List AV → List aa → (SV → List aa → Prop) → Prop
 | mk {x : SV} {cel : List aa} {K : SV → List aa → Prop} (f : _) (_ : x = f.sv) (_ : cq f) (_ : cel = []) (_ : K (.lst (.int f.told :: (tlP f).map Pt.sv)) []) : fm [.v x] cel K
noncomputable def CK : Tb := { glob := [("int", .ty .int), ("bytes", .ty .bytes), ("len", .bi .len), ("list", .ty .list)], fn := [], fnG := [], cls := [], field := [], meth := [] }
theorem rK (w : World) : Rn fm CK 200 466 [] ["f"] w := fun as cel K h => by
 obtain ⟨f, rfl, hok, rfl, k⟩ := h
 induction f using Fm.casesOn with
 | ping  =>
  exact k
 | ack d low e =>
  induction e using Bool.casesOn
  all_goals
   conv => whnf
   rw [show low + 2 - low = 2 from by lia, show low - (low - 4) - 2 = 2 from by lia, show low - 4 - (low - 7) = 3 from by lia]
   exact k
 | crypto x l =>
  exact k
 | stream n x l fin =>
  induction fin using Bool.casesOn
  all_goals
   exact k
 | maxData n =>
  exact k
 | maxStreams u n =>
  induction u using Bool.casesOn
  all_goals
   exact k
 | ncid p c =>
  obtain ⟨p0, p1, c1, c6⟩ := hok
  apply Gd.mk
  ·exact ah (by lia)
  apply Gd.mk
  ·exact gw (by unfold mr; simp only [List.all_cons, List.all_nil, Bool.and_true, Bool.and_eq_true, decide_eq_true_eq]; lia) rfl
  apply Gd.mk
  ·exact cE (a := [_]) (Nat.le_of_ble_eq_true rfl) (by lia)
  apply Gd.mk
  ·refine ah ?_
   simp only [List.length_append, List.length_map, List.length_cons, List.length_nil, a6]; lia
  exact k
 | pathResp  =>
  exact k
 | close c ft l =>
  induction ft using Bool.casesOn
  all_goals
   exact k
 | done  =>
  exact k
 | retire n =>
  exact k
 | pathChal  =>
  exact k
 | newToken l =>
  exact k
theorem Cy (w : World) : aD 466 w := ⟨_, _, _, _, _, _, _, _, _, rfl, by kernel_rfl⟩
theorem xc (w : World) : Bnd (prm 466) ["f"] := b7 fun _ _ => by kernel_rfl
theorem BA (w : World) : aj w 466 1 13 fm :=
 aj.at (ns := ["f"]) (T := CK) (U := 10) (D := 0) 466 [] 200 (Cy w) (xc w) (by kernel_rfl) (fun as cel K h => by
  induction h using fm.casesOn; rfl) (aJ (.cons (AF w) (.cons (rU w) (.cons (fz w) (.cons (zI w) .nil)))) .nil .nil .nil .nil) (by decide) (rK w)
end
section
noncomputable def Pt.Ok : Pt → Prop
 | .num n => 0 ≤ n ∧ n < 4611686018427387904
 | .cnt l => l.length ≤ 30
 | .raw l => l.length ≤ 30
noncomputable def WR : List Pt → List UInt8 → Prop
 | [], b => b = []
 | .num n :: r, b => ∃ e b', Nm e n ∧ b = vb e n ++ b' ∧ WR r b'
 | .cnt l :: r, b => ∃ e b', Nm e (l.length : Int) ∧ b = (vb e l.length ++ l) ++ b' ∧ WR r b'
 | .raw l :: r, b => ∃ b', b = l ++ b' ∧ WR r b'
noncomputable def wl : Pt → List UInt8
 | .num n => vb (lv n) n
 | .cnt l => cn l
 | .raw l => l
inductive Wd where
 | least
 | wide (a b c : Int)
noncomputable def Wd.sv : Wd → SV
 | .least => .tup [.int 0]
 | .wide a b c => .lst [.int a, .int b, .int c]
noncomputable def b2 (a : Int) : Prop := a = 0 ∨ a = 1 ∨ a = 2
noncomputable def Wd.Ok : Wd → Prop
 | .least => True
 | .wide a b c => b2 a ∧ b2 b ∧ b2 c
noncomputable def WdR : Wd → List Pt → List UInt8 → Prop
 | .least, l, b => b = (l.map wl).flatten
 | .wide _ _ _, l, b => WR l b
inductive ce : List AV → List aa → (SV → List aa → Prop) → Prop
 | mk {x : SV} {y : SV} {cel : List aa} {K : SV → List aa → Prop} (f wd : _) (_ : x = f.sv) (_ : y = wd.sv) (_ : cq f) (_ : wd.Ok) (_ : cel = []) (_ : ∀ b, WdR wd (tlP f) b → K (.bytes (vb 0 f.told ++ b)) []) : ce [.v x, .v y] cel K
noncomputable def tK : Tb := { glob := [("_law_parts", .ref 466), ("_law_varint", .ref 452), ("_law_counted", .ref 459), ("isinstance", .bi .isi), ("int", .ty .int), ("tuple", .ty .tuple), ("len", .bi .len), ("enumerate", .ty .enumerate)], fn := [(466, fm), (452, dA), (459, f0)], fnG := [], cls := [], field := [], meth := [] }
noncomputable def yJ (w : World) : Expr := smC (.Constant .none 0 default) (s := (jW (bd 473) 1)) (for_ := fun t _ _ _ => t)
noncomputable def sJ (w : World) : List Stmt := smC [] (s := (jW (bd 473) 1)) (for_ := fun _ _ b _ => b)
theorem pS (f : Fm) : lv f.told = 0 := if_pos (gt f).2
theorem lk6 {a b c d e f : AV} {rest : List (Str × AV)} {v : Option AV} (h : lk "wider" rest = v) : lk "wider" (("part", a) :: ("at", b) :: ("found", c) :: ("more", d) :: ("part", e) :: ("at", f) :: rest) = v := h
theorem xW {G : Prop} {P : Int → Prop} {i i0 i1 i2 a b c : Int} (hi : i = i0 ∨ i = i1 ∨ i = i2) (ba : b2 a) (bb : b2 b) (bc : b2 c) (h0 : (∀ x, b2 x → P x) → i = i0 → G) (h1 : (∀ x, b2 x → P x) → i = i1 → G) (h2 : (∀ x, b2 x → P x) → i = i2 → G) (H : ∀ x, b2 x → P x) : G :=
 hi.elim (h0 H) fun h => h.elim (h1 H) (h2 H)
theorem fPq {l : List (Str × AV)} {k : List (Str × AV) → Prop} (h : k l) : lP l k := (hV l k).mpr h
theorem xv (w : World) (wd : Wd) (hw : wd.Ok) (K : SF → SS → Prop) : ∀ (pts : List Pt) (m : Nat) (j : Nat) (acc : List UInt8) (mo pa at0 : AV) (rest : List (Str × AV)), pts.length + 1 ≤ m → 1 ≤ j → (∀ p ∈ pts, p.Ok) → lk "wider" rest = some (.v wd.sv) → acc.length + 40 * pts.length ≤ 900 →
  (∀ b mo pa at0 rest, WdR wd pts b → K .next ⟨("found", .v (.bytes (acc ++ b))) :: ("more", mo) :: ("part", pa) :: ("at", at0) :: rest, []⟩) →
  run tK (m + 25) (cy 473 w 0 []) (.f (yJ w) (sJ w) (bX (j : Int) (pts.map Pt.sv)) ⟨("found", .v (.bytes acc)) :: ("more", mo) :: ("part", pa) :: ("at", at0) :: rest, []⟩ K) := by
 intro pts
 induction pts with
 | nil =>
  intro m j acc mo pa at0 rest hm hj hp hr hl k
  obtain ⟨m, rfl⟩ : ∃ m', m = m' + 1 := ⟨m - 1, by simp only [List.length_nil] at hm; lia⟩
  conv => whnf
  have k' := k [] mo pa at0 rest (by induction wd using Wd.casesOn <;> rfl)
  rw [List.append_nil] at k'
  exact k'
 | cons p pts ih =>
  intro m j acc mo pa at0 rest hm hj hp hr hl k
  obtain ⟨m, rfl⟩ : ∃ m', m = m' + 1 := ⟨m - 1, by simp only [List.length_cons] at hm; lia⟩
  simp only [List.length_cons] at hm hl
  have hp0 := hp p (.head _)
  apply Br.t
  ·exact decide_eq_true (by lia)
  conv => whnf
  erw [lk6 hr]
  induction wd using Wd.casesOn with
  | least =>
   conv => whnf
   erw [lk6 hr]
   conv => whnf
   rw [show ((j : Int)).fmod ((([SV.int 0] : List SV).length : Nat) : Int) = Int.ofNat 0 from Int.fmod_one _]
   refine fPq ?_
   conv => whnf
   induction p using Pt.casesOn with
   | num n =>
    refine dA.mk hp0.1 hp0.2 (.inl rfl) rfl (.inr ⟨rfl, ?_⟩)
    have hx := cH (lv n) n
    apply Gd.mk
    ·exact cE (by lia) (by lia)
    refine fPq ?_
    refine fPq ?_
    refine ih m (j + 1) (acc ++ (vb (lv n) n)) _ _ _ _ (by lia) (by lia) (fun p h => hp p (.tail _ h)) ?_ (by rw [List.length_append]; lia) (fun b mo pa at0 rest hb => ?_)
    ·exact hr
    have k' := k ((vb (lv n) n) ++ b) mo pa at0 rest (by rw [hb]; rfl)
    rw [← List.append_assoc] at k'
    exact k'
   | cnt l =>
    have hp0 : l.length ≤ 30 := hp0
    refine f0.mk hp0 (.inl rfl) rfl (.inr ⟨rfl, ?_⟩)
    have hx := dw l
    apply Gd.mk
    ·exact cE (by lia) (by lia)
    refine fPq ?_
    refine fPq ?_
    refine ih m (j + 1) (acc ++ (cn l)) _ _ _ _ (by lia) (by lia) (fun p h => hp p (.tail _ h)) ?_ (by rw [List.length_append]; lia) (fun b mo pa at0 rest hb => ?_)
    ·exact hr
    have k' := k ((cn l) ++ b) mo pa at0 rest (by rw [hb]; rfl)
    rw [← List.append_assoc] at k'
    exact k'
   | raw l =>
    have hp0 : l.length ≤ 30 := hp0
    apply Gd.mk
    ·exact cE (by lia) (by lia)
    refine fPq ?_
    refine fPq ?_
    refine ih m (j + 1) (acc ++ (l)) _ _ _ _ (by lia) (by lia) (fun p h => hp p (.tail _ h)) ?_ (by rw [List.length_append]; lia) (fun b mo pa at0 rest hb => ?_)
    ·exact hr
    have k' := k ((l) ++ b) mo pa at0 rest (by rw [hb]; rfl)
    rw [← List.append_assoc] at k'
    exact k'
  | wide a b c =>
   obtain ⟨ba, bb, bc⟩ := hw
   have hj3 : ((j : Int)).fmod ((([SV.int a, SV.int b, SV.int c] : List SV).length : Nat) : Int) = Int.ofNat 0 ∨ ((j : Int)).fmod ((([SV.int a, SV.int b, SV.int c] : List SV).length : Nat) : Int) = Int.ofNat 1 ∨ ((j : Int)).fmod ((([SV.int a, SV.int b, SV.int c] : List SV).length : Nat) : Int) = Int.ofNat 2 := by
    have e : ((j : Int)).fmod ((([SV.int a, SV.int b, SV.int c] : List SV).length : Nat) : Int) = (j : Int) % 3 := Int.fmod_eq_emod_of_nonneg (b := 3) _ (by decide)
    rw [e]
    show _ = (0 : Int) ∨ _ = (1 : Int) ∨ _ = (2 : Int)
    lia
   apply xW hj3 ba bb bc
   ·intro H e
    conv => whnf
    erw [lk6 hr]
    conv => whnf
    rw [e]
    refine fPq ?_
    conv => whnf
    apply H a ba
   ·intro H e
    conv => whnf
    erw [lk6 hr]
    conv => whnf
    rw [e]
    refine fPq ?_
    conv => whnf
    apply H b bb
   ·intro H e
    conv => whnf
    erw [lk6 hr]
    conv => whnf
    rw [e]
    refine fPq ?_
    conv => whnf
    apply H c bc
   ·intro x bx
    induction p using Pt.casesOn with
    | num n =>
     refine dA.mk hp0.1 hp0.2 bx rfl (.inl (fun lv0 hn => ?_))
     have hx := cH lv0 n
     apply Gd.mk
     ·exact cE (by lia) (by lia)
     refine fPq ?_
     refine fPq ?_
     refine ih m (j + 1) (acc ++ (vb lv0 n)) _ _ _ _ (by lia) (by lia) (fun p h => hp p (.tail _ h)) ?_ (by rw [List.length_append]; lia) (fun b mo pa at0 rest hb => ?_)
     ·exact hr
     have k' := k ((vb lv0 n) ++ b) mo pa at0 rest (⟨lv0, b, hn, rfl, hb⟩)
     rw [← List.append_assoc] at k'
     exact k'
    | cnt l =>
     have hp0 : l.length ≤ 30 := hp0
     refine f0.mk hp0 bx rfl (.inl (fun lv0 hn => ?_))
     have hx : (vb lv0 l.length ++ l).length ≤ 38 := by rw [List.length_append]; have := cH lv0 l.length; lia
     apply Gd.mk
     ·exact cE (by lia) (by lia)
     refine fPq ?_
     refine fPq ?_
     refine ih m (j + 1) (acc ++ (vb lv0 l.length ++ l)) _ _ _ _ (by lia) (by lia) (fun p h => hp p (.tail _ h)) ?_ (by rw [List.length_append]; lia) (fun b mo pa at0 rest hb => ?_)
     ·exact hr
     have k' := k ((vb lv0 l.length ++ l) ++ b) mo pa at0 rest (⟨lv0, b, hn, rfl, hb⟩)
     rw [← List.append_assoc] at k'
     exact k'
    | raw l =>
     have hp0 : l.length ≤ 30 := hp0
     apply Gd.mk
     ·exact cE (by lia) (by lia)
     refine fPq ?_
     refine fPq ?_
     refine ih m (j + 1) (acc ++ (l)) _ _ _ _ (by lia) (by lia) (fun p h => hp p (.tail _ h)) ?_ (by rw [List.length_append]; lia) (fun b mo pa at0 rest hb => ?_)
     ·exact hr
     have k' := k ((l) ++ b) mo pa at0 rest (⟨b, rfl, hb⟩)
     rw [← List.append_assoc] at k'
     exact k'
theorem okn {n : Int} (a : 0 ≤ n) (b : n < 4294967298) : Pt.Ok (.num n) := ⟨a, Int.lt_trans b (by decide)⟩
theorem okc {l : List UInt8} (a : l.length ≤ 6) : Pt.Ok (.cnt l) := Nat.le_trans a (by decide)
theorem okl {n : Int} (b : n < 4294967296) : n < 4294967298 := Int.lt_trans b (by decide)
theorem oks {p : Pt} {l : List Pt} (a : p.Ok) (b : ∀ q ∈ l, q.Ok) : ∀ q ∈ p :: l, q.Ok := List.forall_mem_cons.mpr ⟨a, b⟩
theorem ok0 : ∀ q ∈ ([] : List Pt), q.Ok := fun _ h => nomatch h
theorem ok1 (n : Nat) (h : Nat.ble n 300 = true) : Pt.Ok (.num (Int.ofNat n)) := okn (Int.natCast_nonneg n) (Int.ofNat_lt.mpr (Nat.lt_of_le_of_lt (Nat.le_of_ble_eq_true h) (by decide)))
theorem ok8 : ∀ q ∈ [Pt.raw (cz 0 8)], q.Ok := oks (by show (cz 0 8).length ≤ 30; rw [a6]; decide) ok0
theorem okp {l : List Pt} (h : ∀ q ∈ l, q.Ok) (k : Nat.ble l.length 9 = true) : (∀ p ∈ l, p.Ok) ∧ l.length ≤ 9 := ⟨h, Nat.le_of_ble_eq_true k⟩
theorem gP {f : Fm} (h : cq f) : (∀ p ∈ tlP f, p.Ok) ∧ (tlP f).length ≤ 9 := by
 induction f using Fm.casesOn with
 | ack d low e =>
  obtain ⟨h1, h2, h3, h4⟩ := h
  have a := okn h1 (okl h2)
  have b : Pt.Ok (.num (low + 2)) := okn (by lia) (by lia)
  induction e using Bool.casesOn with
  | false => exact okp (oks b (oks a (oks (ok1 1 rfl) (oks (ok1 2 rfl) (oks (ok1 2 rfl) (oks (ok1 3 rfl) ok0)))))) rfl
  | true => exact okp (oks b (oks a (oks (ok1 1 rfl) (oks (ok1 2 rfl) (oks (ok1 2 rfl) (oks (ok1 3 rfl) (oks (ok1 1 rfl) (oks (ok1 0 rfl) (oks (ok1 300 rfl) ok0))))))))) rfl
 | close c ft l =>
  obtain ⟨h1, h2, h3⟩ := h
  have b := oks (okc (Nat.le_trans h3 (by decide))) ok0
  induction ft using Bool.casesOn with
  | false => exact okp (oks (okn h1 (okl h2)) b) rfl
  | true => exact okp (oks (okn h1 (okl h2)) (oks (ok1 6 rfl) b)) rfl
 | ping => exact okp ok0 rfl
 | done => exact okp ok0 rfl
 | pathResp => exact okp ok8 rfl
 | pathChal => exact okp ok8 rfl
 | newToken l => exact okp (oks (okc (Nat.le_trans h.2 (by decide))) ok0) rfl
 | maxData n => exact okp (oks (okn h.1 (okl h.2)) ok0) rfl
 | retire n => exact okp (oks (okn h.1 (okl h.2)) ok0) rfl
 | maxStreams u n => exact okp (oks (okn h.1 (okl h.2)) ok0) rfl
 | crypto x l => exact okp (oks (okn h.1 (okl h.2.1)) (oks (okc (Nat.le_trans h.2.2 (by decide))) ok0)) rfl
 | stream n x l u =>
  obtain ⟨h1, h2, h3, h4, h5⟩ := h
  exact okp (oks (okn h1 (okl h2)) (oks (okn (Int.le_of_lt h3) (okl h4)) (oks (okc (Nat.le_trans h5 (by decide))) ok0))) rfl
 | ncid p c =>
  obtain ⟨h1, h2, h3, h4⟩ := h
  exact okp (oks (okn (by lia) (by lia)) (oks (okn h1 (okl h2)) (oks (by show (([c.length.toUInt8] ++ c) ++ cz 0 16).length ≤ 30; rw [List.length_append, List.length_append, a6]; show 1 + _ + 16 ≤ 30; lia) ok0))) rfl
theorem tw (w : World) (f : Fm) (its : List SV) (nu wd fv : SV) (K : SF → SS → Prop)
  (h : run tK 196 (cy 473 w 0 []) (.f (yJ w) (sJ w) its ⟨[("found", .v (.bytes ([] ++ vb 0 f.told))), ("more", .v (.int 0)), ("part", .v (.int f.told)), ("at", .v (.int 0)), ("found", .v (.bytes [])), ("numbers", .v nu), ("wider", .v wd), ("f", .v fv)], []⟩ K)) :
  run tK 197 (cy 473 w 0 []) (.f (yJ w) (sJ w) (.tup [.int 0, .int f.told] :: its) ⟨[("found", .v (.bytes [])), ("numbers", .v nu), ("wider", .v wd), ("f", .v fv)], []⟩ K) := by
 refine dA.mk ((gt f).1) (Int.lt_trans (gt f).2 (by decide)) (.inl rfl) rfl (.inr ⟨rfl, ?_⟩)
 rw [pS]
 conv => whnf
 conv at h => whnf
 exact h
theorem mj (w : World) : Rn ce tK 200 473 [] ["f", "wider"] w := fun as cel K h => by
 obtain ⟨f, wd, rfl, rfl, hok, hw, rfl, k⟩ := h
 refine fm.mk f rfl hok rfl ?_
 apply bh.mk
 refine tw w f (bX (1 : Nat) ((tlP f).map Pt.sv)) _ _ _ _ ?_
 have hx := cH 0 f.told
 refine xv w wd hw _ (tlP f) 171 1 ([] ++ vb 0 f.told) _ _ _ _ (by have := (gP hok).2; lia) (by decide) (gP hok).1 ?_ (by have := (gP hok).2; rw [List.nil_append]; lia) (fun b mo pa at0 rest hb => ?_)
 ·rfl
 refine fPq ?_
 refine fPq ?_
 exact k b hb
theorem Cm (w : World) : aD 473 w := ⟨_, _, _, _, _, _, _, _, _, rfl, by kernel_rfl⟩
theorem wj (w : World) : Bnd (prm 473) ["f", "wider"] := dG fun _ _ _ => by kernel_rfl
theorem DT (w : World) : aj w 473 3 19 ce :=
 aj.at (ns := ["f", "wider"]) (T := tK) (U := 16) (D := 2) 473 [] 200 (Cm w) (wj w) (by kernel_rfl) (fun as cel K h => by
  induction h using ce.casesOn; rfl) (aJ (.cons (Fs w) (.cons (BZ w) (.cons (Ek w) (.cons (EZ w) (.cons (AF w) (.cons (xx w) (.cons (fz w) (.cons (EJ w) .nil)))))))) (.cons (BA w) rfl rfl (by kernel_rfl) (.cons (ym w) rfl rfl (by kernel_rfl) (.cons (Cu w) rfl rfl (by kernel_rfl) .nil))) .nil .nil .nil) (by decide) (mj w)
end
section
theorem ma : (Builtin.Str.occurrences ("ihz1" : Str) ("z" : Str) 0 ("ihz1" : Str).length 1).isEmpty = false := by decide +kernel
theorem nK : (Builtin.Str.occurrences ("ihz1" : Str) ("i" : Str) 0 ("ihz1" : Str).length 1).isEmpty = false := by decide +kernel
theorem nP : (Builtin.Str.occurrences ("ihz1" : Str) ("1" : Str) 0 ("ihz1" : Str).length 1).isEmpty = false := by decide +kernel
theorem mh : (Builtin.Str.occurrences ("ihz1" : Str) ("h" : Str) 0 ("ihz1" : Str).length 1).isEmpty = false := by decide +kernel
theorem o2 : (Builtin.Str.occurrences ("ih1" : Str) ("z" : Str) 0 ("ih1" : Str).length 1).isEmpty = true := by decide +kernel
theorem oh : (Builtin.Str.occurrences ("ih1" : Str) ("i" : Str) 0 ("ih1" : Str).length 1).isEmpty = false := by decide +kernel
theorem pc : (Builtin.Str.occurrences ("ih1" : Str) ("1" : Str) 0 ("ih1" : Str).length 1).isEmpty = false := by decide +kernel
theorem oQ : (Builtin.Str.occurrences ("ih1" : Str) ("h" : Str) 0 ("ih1" : Str).length 1).isEmpty = false := by decide +kernel
theorem qM : (Builtin.Str.occurrences ("z1" : Str) ("z" : Str) 0 ("z1" : Str).length 1).isEmpty = false := by decide +kernel
theorem qU : (Builtin.Str.occurrences ("z1" : Str) ("i" : Str) 0 ("z1" : Str).length 1).isEmpty = true := by decide +kernel
theorem qH : (Builtin.Str.occurrences ("z1" : Str) ("1" : Str) 0 ("z1" : Str).length 1).isEmpty = false := by decide +kernel
theorem rB : (Builtin.Str.occurrences ("z1" : Str) ("h" : Str) 0 ("z1" : Str).length 1).isEmpty = true := by decide +kernel
theorem u8 : (Builtin.Str.occurrences ("1" : Str) ("z" : Str) 0 ("1" : Str).length 1).isEmpty = true := by decide +kernel
theorem u7 : (Builtin.Str.occurrences ("1" : Str) ("i" : Str) 0 ("1" : Str).length 1).isEmpty = true := by decide +kernel
theorem th : (Builtin.Str.occurrences ("1" : Str) ("1" : Str) 0 ("1" : Str).length 1).isEmpty = false := by decide +kernel
theorem sZ : (Builtin.Str.occurrences ("1" : Str) ("h" : Str) 0 ("1" : Str).length 1).isEmpty = true := by decide +kernel
theorem rM (p : Pk) : (Builtin.Str.occurrences ("ihz1" : Str) p.short 0 ("ihz1" : Str).length 1).isEmpty = (match p with | .z => false | .i => false | .s => false | .h => false) := by
 induction p using Pk.casesOn with
 | z => exact ma
 | i => exact nK
 | s => exact nP
 | h => exact mh
theorem nX (p : Pk) : (Builtin.Str.occurrences ("ih1" : Str) p.short 0 ("ih1" : Str).length 1).isEmpty = (match p with | .z => true | .i => false | .s => false | .h => false) := by
 induction p using Pk.casesOn with
 | z => exact o2
 | i => exact oh
 | s => exact pc
 | h => exact oQ
theorem fk (p : Pk) : (Builtin.Str.occurrences ("z1" : Str) p.short 0 ("z1" : Str).length 1).isEmpty = (match p with | .z => false | .i => true | .s => false | .h => true) := by
 induction p using Pk.casesOn with
 | z => exact qM
 | i => exact qU
 | s => exact qH
 | h => exact rB
theorem lg (p : Pk) : (Builtin.Str.occurrences ("1" : Str) p.short 0 ("1" : Str).length 1).isEmpty = (match p with | .z => true | .i => true | .s => false | .h => true) := by
 induction p using Pk.casesOn with
 | z => exact u8
 | i => exact u7
 | s => exact th
 | h => exact sZ
noncomputable def b0 : Bool → Str
 | true => "client"
 | false => "server"
noncomputable def gf : Fm → Bool → Bool
 | .newToken _, c => !c
 | .done, c => !c
 | _, _ => true
noncomputable def wh : SV := .dic [(.str "ping", .str "ihz1"), (.str "ack", .str "ih1"), (.str "crypto", .str "ih1"), (.str "stream", .str "z1"), (.str "max_data", .str "z1"), (.str "max_streams", .str "z1"), (.str "new_connection_id", .str "z1"), (.str "path_response", .str "1"), (.str "handshake_done", .str "1"), (.str "retire_connection_id", .str "1"), (.str "path_challenge", .str "z1"), (.str "new_token", .str "1")]
inductive aQ : List AV → List aa → (SV → List aa → Prop) → Prop
 | mk {cel : List aa} {K : SV → List aa → Prop} (_ : cel = []) (_ : K wh []) : aQ [] cel K
inductive gz : List AV → List aa → (SV → List aa → Prop) → Prop
 | mk {y : Str} {z : Str} {x : SV} {cel : List aa} {K : SV → List aa → Prop} (f : Fm) (p : Pk) (c : Bool) (_ : x = f.sv) (_ : y = p.short) (_ : z = b0 c) (_ : cel = []) (_ : K (.bool (jF f p && gf f c)) []) : gz [.v x, .v (.str y), .v (.str z)] cel K
noncomputable def DS : Tb := { glob := [], fn := [], fnG := [], cls := [], field := [], meth := [] }
theorem oN (w : World) : Rn aQ DS 200 419 [] [] w := fun as cel K h => by
 obtain ⟨rfl, k⟩ := h
 exact k
theorem z9 (w : World) : aD 419 w := ⟨_, _, _, _, _, _, _, _, _, rfl, by kernel_rfl⟩
theorem wa (w : World) : Bnd (prm 419) [] := Ef fun _ => by kernel_rfl
theorem BX (w : World) : aj w 419 1 13 aQ :=
 aj.at (ns := []) (T := DS) (U := 10) (D := 0) 419 [] 200 (z9 w) (wa w) (by kernel_rfl) (fun as cel K h => by
  induction h using aQ.casesOn; rfl) (aJ .nil .nil .nil .nil .nil) (by decide) (oN w)
noncomputable def Ai : Tb := { glob := [("_law_places", .ref 419)], fn := [(419, aQ)], fnG := [], cls := [], field := [], meth := [] }
theorem sA (w : World) : Rn gz Ai 200 480 [] ["f", "packet", "sender"] w := fun as cel K h => by
 obtain ⟨f, p, c, rfl, rfl, rfl, rfl, k⟩ := h
 induction f using Fm.casesOn with
 | ping  =>
  refine aQ.mk rfl ?_
  conv => whnf
  rw [rM]
  induction p using Pk.casesOn <;> exact k
 | ack d low e =>
  refine aQ.mk rfl ?_
  conv => whnf
  rw [nX]
  induction p using Pk.casesOn <;> exact k
 | crypto x l =>
  refine aQ.mk rfl ?_
  conv => whnf
  rw [nX]
  induction p using Pk.casesOn <;> exact k
 | stream n x l fin =>
  refine aQ.mk rfl ?_
  conv => whnf
  rw [fk]
  induction p using Pk.casesOn <;> exact k
 | maxData n =>
  refine aQ.mk rfl ?_
  conv => whnf
  rw [fk]
  induction p using Pk.casesOn <;> exact k
 | maxStreams u n =>
  refine aQ.mk rfl ?_
  conv => whnf
  rw [fk]
  induction p using Pk.casesOn <;> exact k
 | ncid p0 c0 =>
  refine aQ.mk rfl ?_
  conv => whnf
  rw [fk]
  induction p using Pk.casesOn <;> exact k
 | pathResp  =>
  refine aQ.mk rfl ?_
  conv => whnf
  rw [lg]
  induction p using Pk.casesOn <;> exact k
 | close c0 ft l =>
  induction ft using Bool.casesOn
  all_goals
   conv => whnf
   rw [fk]
   induction p using Pk.casesOn
   all_goals
    exact k
 | done  =>
  induction c using Bool.casesOn
  ·refine aQ.mk rfl ?_
   conv => whnf
   rw [lg]
   induction p using Pk.casesOn <;> exact k
  ·conv => whnf
   have e : (jF (.done) p && gf (.done) true) = false := by induction p using Pk.casesOn <;> rfl
   rw [e] at k
   exact k
 | retire n =>
  refine aQ.mk rfl ?_
  conv => whnf
  rw [lg]
  induction p using Pk.casesOn <;> exact k
 | pathChal  =>
  refine aQ.mk rfl ?_
  conv => whnf
  rw [fk]
  induction p using Pk.casesOn <;> exact k
 | newToken l =>
  induction c using Bool.casesOn
  ·refine aQ.mk rfl ?_
   conv => whnf
   rw [lg]
   induction p using Pk.casesOn <;> exact k
  ·conv => whnf
   have e : (jF (.newToken l) p && gf (.newToken l) true) = false := by induction p using Pk.casesOn <;> rfl
   rw [e] at k
   exact k
theorem CR (w : World) : aD 480 w := ⟨_, _, _, _, _, _, _, _, _, rfl, by kernel_rfl⟩
theorem xA (w : World) : Bnd (prm 480) ["f", "packet", "sender"] := rq fun _ _ _ _ => by kernel_rfl
theorem DN (w : World) : aj w 480 2 16 gz :=
 aj.at (ns := ["f", "packet", "sender"]) (T := Ai) (U := 13) (D := 1) 480 [] 200 (CR w) (xA w) (by kernel_rfl) (fun as cel K h => by
  induction h using gz.casesOn; rfl) (aJ (.cons (EY w) .nil) (.cons (BX w) rfl rfl (by kernel_rfl) .nil) .nil .nil .nil) (by decide) (sA w)
end
section
theorem j5 {w : World} {f : Addr} {D U : Nat} {qual : Str} {params : Arguments} {body : List Stmt} {sc : Scope} {ns : List Str} (hf : gZ w f qual params body sc) (hb : Bnd params ns) (hc : dq sc ns)
  (X : Fx) (O : X.Ok) (hw : X.w = w) (hdp : X.dp + (D + 1) < recursionLimit) (hun : X.un + (U + 3) < cLine) (ow : Addr → Prop) (ρ : List Addr) (σ : SS) (s : Shared) (S : SR X ow ρ s.heap σ)
  (ρ' : List Addr) (cel : List aa) (vs : List Value) (as : List AV) (nd : ρ'.Nodup) (sub : ∀ a ∈ ρ', a ∈ ρ) (C : cC (Pz s.heap ow) w ρ' s.heap cel) (R : ARs (Pz s.heap ow) w ρ' vs as) (hlen : as.length = ns.length) (ρh : List Addr) (news : List (Addr × Obj)) (N : News X.hz0 X.L s.heap news) (hnews : news.map (·.1) = ρh) (inc : ∀ a ∈ ρ', a ∈ ρh) (hid : ∀ a ∈ ρh, ow a) (Rs : Result → Shared → Prop)
  (h : ∀ (X' : Fx) (ca : List Addr) (hz1 : Heap) (tk : Nat), Ent w D U sc ns as cel ow s.heap ρ' ρh X.A (envX X.cn X.cs X.L X.fa X.ccd X.cl :: X.outer) X.base X' ca hz1 →
   wpAny (model af w) X'.A (execs body X'.env) (fun fl s' => Rs (.ok (.ret (match fl with | .ret v => v | _ => .none))) s') (fun e s' => wpAny (model af w) X'.A (leaving X'.env e) (fun _ s'' => Rs (.error e) s'') (fun e' s'' => Rs (.error e') s'') s') { s with heap := hz1, toks := tk }) :
  codeAny (model af w) X.A (.call (.ref f) ⟨vs, []⟩) Rs s := by
 refine hide fun Gz0 bk0 => ?_
 obtain ⟨o, fd, ⟨ho, hd, hco, hgen, hbody, hcd⟩, go⟩ := l7 hf hb hc X O hw hdp hun ow ρ σ s S ρ' cel vs as nd sub C R hlen N hnews inc hid
 refine bk0 ?_; clear bk0 Gz0
 refine codeAny_call_function (by show X.dp < recursionLimit; omega) ho hd hco hgen hbody hcd (go (fun env sz2 => codeAny (model af w) X.A (.func body env) _ sz2) _ fun X' ca hz1 tk T => codeAny_func ?_)
 have J := h X' ca hz1 tk T
 rw [T.A] at J
 exact J
theorem nS {w : World} {f : Addr} {D U : Nat} {qual : Str} {params : Arguments} {body : List Stmt} {sc : Scope} {ns : List Str} (hf : gZ w f qual params body sc) (hb : Bnd params ns) (hc : dq sc ns)
  (X : Fx) (O : X.Ok) (hw : X.w = w) (hdp : X.dp + (D + 1) < recursionLimit) (hun : X.un + (U + 3) < cLine) (ow : Addr → Prop) (ρ : List Addr) (σ : SS) (s : Shared) (S : SR X ow ρ s.heap σ)
  (ρ' : List Addr) (cel : List aa) (vs : List Value) (as : List AV) (nd : ρ'.Nodup) (sub : ∀ a ∈ ρ', a ∈ ρ) (C : cC (Pz s.heap ow) w ρ' s.heap cel) (R : ARs (Pz s.heap ow) w ρ' vs as) (hlen : as.length = ns.length) (Rs : Result → Shared → Prop)
  (h : ∀ (X' : Fx) (ca : List Addr) (hz1 : Heap) (tk : Nat), Ent w D U sc ns as cel ow s.heap ρ' ρ' X.A (envX X.cn X.cs X.L X.fa X.ccd X.cl :: X.outer) X.base X' ca hz1 →
   wpAny (model af w) X'.A (execs body X'.env) (fun fl s' => Rs (.ok (.ret (match fl with | .ret v => v | _ => .none))) s') (fun e s' => wpAny (model af w) X'.A (leaving X'.env e) (fun _ s'' => Rs (.error e) s'') (fun e' s'' => Rs (.error e') s'') s') { s with heap := hz1, toks := tk }) :
  codeAny (model af w) X.A (.call (.ref f) ⟨vs, []⟩) Rs s := by
 obtain ⟨news, N, hnews⟩ := iI S sub
 exact j5 hf hb hc X O hw hdp hun ow ρ σ s S ρ' cel vs as nd sub C R hlen ρ' news N hnews (fun _ m => m) (fun a m => (S.off a (sub a m)).1) Rs h
theorem zY {w : World} {f : Addr} {D U : Nat} {qual : Str} {params : Arguments} {body : List Stmt} {sc : Scope} {ns : List Str} (hf : gZ w f qual params body sc) (hb : Bnd params ns) (hc : dq sc ns)
  (X : Fx) (O : X.Ok) (hw : X.w = w) (hdp : X.dp + (D + 1) < recursionLimit) (hun : X.un + (U + 3) < cLine) (ow : Addr → Prop) (ρ : List Addr) (σ : SS) (s : Shared) (S : SR X ow ρ s.heap σ)
  (ρ' : List Addr) (cel : List aa) (vs : List Value) (as : List AV) (nd : ρ'.Nodup) (sub : ∀ a ∈ ρ', a ∈ ρ) (C : cC (Pz s.heap ow) w ρ' s.heap cel) (R : ARs (Pz s.heap ow) w ρ' vs as) (hlen : as.length = ns.length) (Rs : Result → Shared → Prop)
  (h : ∀ (X' : Fx) (ca : List Addr) (hz1 : Heap) (tk : Nat), Ent w D U sc ns as cel ow s.heap ρ' ρ' X.A (envX X.cn X.cs X.L X.fa X.ccd X.cl :: X.outer) X.base X' ca hz1 →
   wpG (model af w) X'.A (execs body X'.env) (fun fl s' => Rs (.ok (.ret (match fl with | .ret v => v | _ => .none))) s') F0 { s with heap := hz1, toks := tk }) :
  bw (model af w) X.A (.call (.ref f) ⟨vs, []⟩) Rs s := by
 refine hide fun Gz0 bk0 => ?_
 obtain ⟨news, N, hnews⟩ := iI S sub
 obtain ⟨o, fd, ⟨ho, hd, hco, hgen, hbody, hcd⟩, go⟩ := l7 hf hb hc X O hw hdp hun ow ρ σ s S ρ' cel vs as nd sub C R hlen N hnews (fun _ m => m) (fun a m => (S.off a (sub a m)).1)
 refine bk0 ?_; clear bk0 Gz0
 refine bO (by show X.dp < recursionLimit; omega) ho hd hco hgen hbody hcd (go (fun env sz2 => bw (model af w) X.A (.func body env) _ sz2) _ fun X' ca hz1 tk T => fQ ?_)
 have J := h X' ca hz1 tk T
 rw [T.A] at J
 exact J
end
section
noncomputable abbrev frs (l : List Env) : List Addr := l.filterMap (·.frame)
structure Kp (g : Heap) (fr : List Addr) (h : Heap) : Prop where
 keep : ∀ b o, g.get? b = some o → b ∉ fr → h.get? b = some o
 slot : ∀ b o, g.get? b = some o → b ∈ fr → ∃ sl, h.get? b = some { o with slots := sl }
noncomputable def EG (g h : Heap) (e dx : Addr) (vs : Array Value) : Option Value → Prop
 | none => vs[1]? = some .none
 | some f => ∃ T oT ts, vs[1]? = some (.ref T) ∧ g.get? T = none ∧ T ≠ e ∧ T ≠ dx ∧ h.get? T = some oT ∧ oT.data = .fields ts ∧ ts[3]? = some f
inductive FA (g : Heap) (C e dx : Addr) (fl : Option Value) (h : Heap) : Prop
 | mk (oe : Obj) (vs : Array Value) (_ : h.get? e = some oe) (_ : oe.cls = .ref C) (_ : oe.dict = some dx) (_ : oe.data = .fields vs) (_ : EG g h e dx vs fl)
inductive sK (dx : Addr) (h : Heap) : Prop
 | mk (m : Str → Option Value) (tk : Tok) (_ : h.Ns dx m) (_ : m "code" = some (.int 10 tk))
structure Fly (g : Heap) (l : List Env) (C e dx : Addr) (fl : Option Value) (h : Heap) : Prop where
 kp : Kp g (frs l) h
 ff : ∃ base, h.FunFrames base l
 en : g.get? e = none
 dn : g.get? dx = none
 ed : e ≠ dx
 dl : dx ∉ frs l
 eo : FA g C e dx fl h
 cd : sK dx h
section
variable {M : Model} {A : Around} {E : Value → Shared → Prop} {s : Shared}
theorem eR (f : Array Value → Array Value) (o : Obj) : (Obj.mapFields f o).dict = o.dict := by unfold Obj.mapFields; split <;> rfl
theorem u5 {h base : Heap} {l : List Env} (hl : h.FunFrames base l) {b : Addr} {o : Obj} {vs : Array Value} (e : h.get? b = some o) (d : o.data = .fields vs) : b ∉ frs l := fun m => by
 obtain ⟨_, o', ho, hnf⟩ := hl.mem m
 rw [e] at ho; injection ho with ho; subst ho; exact hnf vs d
theorem et {g : Heap} {env : Env} {outer : List Env} {L C e dx : Addr} {oe : Obj} {vs : Array Value} {head : Value} {hadNext : Bool} {Q : Unit → Shared → Prop}
  (hfr : A.frames = some (env :: outer)) (hf : env.frame = some L)
  (kp : Kp g (frs (env :: outer)) s.heap) (ff : ∃ base, s.heap.FunFrames base (env :: outer)) (en : g.get? e = none) (dn : g.get? dx = none) (ed : e ≠ dx) (dl : dx ∉ frs (env :: outer))
  (he : s.heap.get? e = some oe) (hc : oe.cls = .ref C) (hdx : oe.dict = some dx) (hd : oe.data = .fields vs) (hsz : 1 < vs.size) (cd : sK dx s.heap)
  (h : ∀ h', Fly g (env :: outer) C e dx (some (rawInt L)) h' → Q () { s with heap := h' }) :
  wpAny M A (do let a ← frameOf env; let pl ← entryPlaceOf L hadNext; let b ← EntryCells.newEntry head a .none (rawInt L) .none pl; setField (.ref e) 1 b) Q E s := by
 obtain ⟨base, hl⟩ := ff
 have hene : e ∉ frs (env :: outer) := u5 hl he hd
 refine wpAny_bind (wpAny_frameOf_fun hfr hl hf fun hz1 hs1 => ?_)
 refine wpAny_bind (wpAny_entryPlaceOf fun pl hpl => ?_)
 refine wpAny_bind (wpAny_newObj_type ?_ (hpl.sizeOk5 _ _ _ _ _))
 have hez1 : hz1.get? e = some oe := (hs1.2.1 e hene).trans he
 have hez2 := Heap.get?_push_of_some (h := hz1) { cls := .type "traceback", dict := none, data := .fields ([head, .ref L, .none, rawInt L, .none] ++ (if pl.isEmpty then List.replicate 6 Value.none else pl)).toArray } hez1
 refine wpAny_setField hez2 hd hsz (h _ ?_)
 have hTe : hz1.objs.size ≠ e := Nat.ne_of_gt (Heap.lt_size hez1)
 have hd3 := Obj.data_mapFields hd (·.setIfInBounds 1 (Value.ref hz1.objs.size))
 have hez3 := Heap.get?_update_self (Obj.mapFields (·.setIfInBounds 1 (Value.ref hz1.objs.size))) hez2 (Obj.isFreed_of_fields hd3)
 have hT3 := (Heap.get?_update_other (hz1.push { cls := .type "traceback", dict := none, data := .fields ([head, .ref L, .none, rawInt L, .none] ++ (if pl.isEmpty then List.replicate 6 Value.none else pl)).toArray })
  (Obj.mapFields (·.setIfInBounds 1 (Value.ref hz1.objs.size))) (Ne.symm hTe)).trans (Heap.get?_push_size hz1 rfl)
 have keep : ∀ b o, b ≠ e → hz1.get? b = some o →
   ((hz1.push { cls := .type "traceback", dict := none, data := .fields ([head, .ref L, .none, rawInt L, .none] ++ (if pl.isEmpty then List.replicate 6 Value.none else pl)).toArray }).update e (Obj.mapFields (·.setIfInBounds 1 (Value.ref hz1.objs.size)))).get? b = some o :=
  fun b o hbe hb => by
   rw [Heap.get?_update_other _ _ (Ne.symm hbe)]
   exact Heap.get?_push_of_some _ hb
 have ge : ∀ b o, g.get? b = some o → b ≠ e := fun b o q z => by rw [z, en] at q; cases q
 have sl1 : ∀ b o, s.heap.get? b = some o → ∃ sl, hz1.get? b = some { o with slots := sl } := fun b o hb => hs1.2.2 b o hb
 have gT : g.get? hz1.objs.size = none := by
  cases q : g.get? hz1.objs.size with
  | none => rfl
  | some o =>
   exfalso
   have : ∃ o', s.heap.get? hz1.objs.size = some o' := by
    by_cases m : hz1.objs.size ∈ frs (env :: outer)
    ·obtain ⟨sl, z⟩ := kp.slot _ _ q m; exact ⟨_, z⟩
    ·exact ⟨_, kp.keep _ _ q m⟩
   obtain ⟨o', z⟩ := this
   obtain ⟨sl, z⟩ := sl1 _ _ z
   exact Nat.lt_irrefl _ (Heap.lt_size z)
 refine hide fun Gz0 bk0 => ?_
 obtain ⟨m, tk, ⟨od, es, ep, d1, d2, d3, d4⟩, hm⟩ := cd
 refine bk0 ?_; clear bk0 Gz0
 have hd1 : hz1.get? dx = some od := (hs1.2.1 dx dl).trans d1
 have hTd : hz1.objs.size ≠ dx := Nat.ne_of_gt (Heap.lt_size hd1)
 exact {
     kp := ⟨fun b o q nm => keep b o (ge b o q) ((hs1.2.1 b nm).trans (kp.keep b o q nm)), fun b o q mm => by
      obtain ⟨sl, z⟩ := kp.slot b o q mm
      obtain ⟨sl', z'⟩ := sl1 _ _ z
      exact ⟨sl', keep b _ (ge b o q) z'⟩⟩
     ff := ⟨base, hl.of_keeps fun b o hb hnf => by
      obtain ⟨sl, z⟩ := sl1 b o hb
      refine ⟨_, keep b _ (fun z' => ?_) z, rfl⟩
      subst z'; rw [he] at hb; injection hb with hb; subst hb; exact hnf vs hd⟩
     en := en, dn := dn, ed := ed, dl := dl
     eo := ⟨_, _, hez3, (Obj.cls_mapFields _ _).trans hc, (eR _ _).trans hdx, hd3, hz1.objs.size, _, _, by simp [hsz], gT, hTe, hTd, hT3, rfl, by first | (simp; done) | (rcases hpl with rfl | ⟨_, _, _, _, _, _, _, rfl⟩ <;> simp)⟩
     cd := ⟨m, tk, ⟨od, es, ep, keep dx od (Ne.symm ed) hd1, d2, d3, d4⟩, hm⟩ }
theorem h8 {g : Heap} {env : Env} {outer : List Env} {L C e dx : Addr} {fl : Option Value} {Q : Unit → Shared → Prop}
  (hfr : A.frames = some (env :: outer)) (hf : env.frame = some L) (F : Fly g (env :: outer) C e dx fl s.heap) (hfl : fl = none ∨ fl = some .none)
  (h : ∀ h', Fly g (env :: outer) C e dx (some (rawInt L)) h' → Q () { s with heap := h' }) : wpAny M A (noteFrame (.ref e) env) Q E s := by
 refine hide fun Gz0 bk0 => ?_
 obtain ⟨kp, ff, en, dn, ed, dl, ⟨oe, vs, he, hc, hdx, hd, ht⟩, cd⟩ := F
 refine bk0 ?_; clear bk0 Gz0
 unfold noteFrame
 rw [hf]
 rcases hfl with rfl | rfl
 ·have h1 : vs[1]? = some .none := ht
  refine wpAny_bind (wpAny_field he hd h1 ?_)
  rw [if_neg (by decide)]
  exact et hfr hf kp ff en dn ed dl he hc hdx hd (Array.getElem?_eq_some_iff.mp h1).1 cd h
 ·obtain ⟨T, oT, ts, h1, gT, hTe, hTd, hT, hdT, h3⟩ := ht
  refine wpAny_bind (wpAny_field he hd h1 ?_)
  rw [if_pos (show (Value.ref T != Value.none) = true from by simp)]
  refine wpAny_bind (wpAny_field hT hdT h3 ?_)
  rw [if_neg (show ¬ ((Value.none == rawInt L) = true) from by simp [rawInt])]
  refine wpAny_bind (wpAny_setField hT hdT (Array.getElem?_eq_some_iff.mp h3).1 ?_)
  have other : ∀ b, b ≠ T → (s.heap.update T (Obj.mapFields (·.setIfInBounds 3 Value.none))).get? b = s.heap.get? b := fun b hb => Heap.get?_update_other _ _ (Ne.symm hb)
  have gT' : ∀ b o, g.get? b = some o → b ≠ T := fun b o q z => by rw [z, gT] at q; cases q
  refine hide fun Gz0 bk0 => ?_
  obtain ⟨m, tk, ⟨od, es, ep, d1, d2, d3, d4⟩, hm⟩ := cd
  obtain ⟨base, hl⟩ := ff
  refine bk0 ?_; clear bk0 Gz0
  refine et hfr hf ⟨fun b o q nm => (other b (gT' b o q)).trans (kp.keep b o q nm), fun b o q mm => ?_⟩ ⟨base, hl.of_keeps fun b o hb hnf => ⟨o, (other b fun z => ?_).trans hb, rfl⟩⟩ en dn ed dl ((other e (Ne.symm hTe)).trans he) hc hdx hd (Array.getElem?_eq_some_iff.mp h1).1 ⟨m, tk, ⟨od, es, ep, (other dx (Ne.symm hTd)).trans d1, d2, d3, d4⟩, hm⟩ h
  ·obtain ⟨sl, z⟩ := kp.slot b o q mm
   exact ⟨sl, (other b (gT' b o q)).trans z⟩
  ·subst z; rw [hT] at hb; injection hb with hb; subst hb; exact hnf ts hdT
theorem f9 {g : Heap} {l : List Env} {env : Env} {L C e dx : Addr} {Q : Unit → Shared → Prop} (hf : env.frame = some L) (F : Fly g l C e dx (some (rawInt L)) s.heap) (h : Q () s) : wpAny M A (noteFrame (.ref e) env) Q E s := by
 refine hide fun Gz0 bk0 => ?_
 obtain ⟨kp, ff, en, dn, ed, dl, ⟨oe, vs, he, hc, hdx, hd, T, oT, ts, h1, gT, hTe, hTd, hT, hdT, h3⟩, cd⟩ := F
 refine bk0 ?_; clear bk0 Gz0
 unfold noteFrame
 rw [hf]
 refine wpAny_bind (wpAny_field he hd h1 ?_)
 rw [if_pos (show (Value.ref T != Value.none) = true from by simp)]
 refine wpAny_bind (wpAny_field hT hdT h3 ?_)
 rw [if_pos (show (rawInt L == rawInt L) = true from by simp)]
 exact wpAny_pure h
theorem d8 {g : Heap} {env : Env} {outer : List Env} {L C e dx : Addr} {fl : Option Value} {Q : Unit → Shared → Prop}
  (hfr : A.frames = some (env :: outer)) (hf : env.frame = some L) (F : Fly g (env :: outer) C e dx fl s.heap) (hfl : fl = none ∨ fl = some .none ∨ fl = some (rawInt L))
  (h : ∀ h', Fly g (env :: outer) C e dx (some (rawInt L)) h' → Q () { s with heap := h' }) : wpAny M A (noteFrame (.ref e) env) Q E s := by
 rcases hfl with hfl | hfl | rfl
 ·exact h8 hfr hf F (.inl hfl) h
 ·exact h8 hfr hf F (.inr hfl) h
 ·exact f9 hf F (h s.heap F)
theorem bM {g : Heap} {l : List Env} {C e dx : Addr} {f : Value} {fr : Option Addr} {Q : Unit → Shared → Prop} (F : Fly g l C e dx (some f) s.heap)
  (h : ∀ h', Fly g l C e dx (some (fr.elim .none fun f => rawInt f)) h' → Q () { s with heap := h' }) : wpAny M A (setFlight (.ref e) fr) Q E s := by
 refine hide fun Gz0 bk0 => ?_
 obtain ⟨kp, ff, en, dn, ed, dl, ⟨oe, vs, he, hc, hdx, hd, T, oT, ts, h1, gT, hTe, hTd, hT, hdT, h3⟩, cd⟩ := F
 refine bk0 ?_; clear bk0 Gz0
 have hsz3 : 3 < ts.size := (Array.getElem?_eq_some_iff.mp h3).1
 have other : ∀ b, b ≠ T → (s.heap.update T (Obj.mapFields (·.setIfInBounds 3 (fr.elim Value.none fun f => rawInt f)))).get? b = s.heap.get? b :=
  fun b hb => Heap.get?_update_other _ _ (Ne.symm hb)
 have gT' : ∀ b o, g.get? b = some o → b ≠ T := fun b o q z => by rw [z, gT] at q; cases q
 refine hide fun Gz0 bk0 => ?_
 obtain ⟨m, tk, ⟨od, es, ep, d1, d2, d3, d4⟩, hm⟩ := cd
 obtain ⟨base, hl⟩ := ff
 refine bk0 ?_; clear bk0 Gz0
 refine wpAny_bind (wpAny_field he hd h1 ?_)
 rw [if_pos (show (Value.ref T != Value.none) = true from by simp)]
 refine wpAny_setField hT hdT hsz3 (h _ ?_)
 exact {
     kp := ⟨fun b o q nm => (other b (gT' b o q)).trans (kp.keep b o q nm), fun b o q mm => by
      obtain ⟨sl, z⟩ := kp.slot b o q mm
      exact ⟨sl, (other b (gT' b o q)).trans z⟩⟩
     ff := ⟨base, hl.of_keeps fun b o hb hnf => ⟨o, (other b fun z => by subst z; rw [hT] at hb; injection hb with hb; subst hb; exact hnf ts hdT).trans hb, rfl⟩⟩
     en := en, dn := dn, ed := ed, dl := dl
     eo := ⟨oe, vs, (other e (Ne.symm hTe)).trans he, hc, hdx, hd, T, _, _, h1, gT, hTe, hTd, Heap.get?_update_self _ hT (Obj.isFreed_of_fields (Obj.data_mapFields hdT _)), Obj.data_mapFields hdT _, by simp [hsz3]⟩
     cd := ⟨m, tk, ⟨od, es, ep, (other dx (Ne.symm hTd)).trans d1, d2, d3, d4⟩, hm⟩ }
theorem iM {g : Heap} {env : Env} {outer : List Env} {L C e dx : Addr} {fl : Option Value} {Q : Unit → Shared → Prop}
  (hfr : A.frames = some (env :: outer)) (hf : env.frame = some L) (F : Fly g (env :: outer) C e dx fl s.heap) (hfl : fl = none ∨ fl = some .none ∨ fl = some (rawInt L)) (gL : g.get? L = none)
  (h : ∀ h', Fly g outer C e dx (some .none) h' → Q () { s with heap := h' }) : wpAny M A (leaving env (.ref e)) Q E s := by
 refine wpAny_bind (d8 hfr hf F hfl fun hz1 F1 => ?_)
 refine bM (s := { s with heap := hz1 }) (fr := none) F1 fun hz2 F2 => h hz2 ?_
 refine hide fun Gz0 bk0 => ?_
 obtain ⟨kp, ⟨base, hl⟩, en, dn, ed, dl, eo, cd⟩ := F2
 refine bk0 ?_; clear bk0 Gz0
 have hfrs : frs (env :: outer) = L :: frs outer := by show List.filterMap _ _ = _; rw [List.filterMap_cons, hf]
 rw [hfrs] at kp dl
 have ne : ∀ b o, g.get? b = some o → b ≠ L := fun b o q z => by rw [z, gL] at q; cases q
 exact ⟨⟨fun b o q nm => kp.keep b o q fun m => (List.mem_cons.mp m).elim (ne b o q) nm, fun b o q m => kp.slot b o q (.tail _ m)⟩, ⟨base, hl.2.2⟩, en, dn, ed, fun m => dl (.tail _ m), eo, cd⟩
end
end
section
theorem iO {K : Frag} {h : Heap} {N : Addr} {mg : Str → Option Value} {n : Str} {v : Value} (X : K.In h) (G : h.Ns N mg) (e : nsIn K N n = some (some v)) : mg n = some v := by
 refine hide fun Gz0 bk0 => ?_
 obtain ⟨o, es, ep, ho, hd, _, hf⟩ := G
 refine bk0 ?_; clear bk0 Gz0
 unfold nsIn at e
 split at e
 ·rename_i c d es' n' sl q
  have z := X _ _ q
  rw [ho] at z
  cases z
  cases hd
  split at e
  ·rename_i en he
   cases e
   rw [← hf]
   unfold nsFind findBy
   rw [← Array.find?_toList, he]
   rfl
  ·split at e <;> cases e
 ·cases e
noncomputable def yS : List Value := [.type "Exception", .type "BaseException", .type "object"]
noncomputable def lW : List Str := ["__getattribute__", "__getattr__", "__setattr__", "code", "frame_type", "text", "args"]
inductive ExC (h : Heap) : Prop
 | mk (nm q N bs sn sub ab col dd k0 k1 k2 k3 k5 : _) (mN : Str → Option Value) (_ : h.get? 38 = some (excClassObj nm q 38 N bs yS true sn sub ab col dd k0 k1 k2 k3 k5 "Exception.__new__")) (_ : h.Ns N mN) (_ : mN "__init__" = some (.ref 35)) (_ : ∀ n ∈ lW, mN n = none) : ExC h
inductive ExK (K : Frag) : Prop
 | mk (nm q N bs sn sub ab col dd k0 k1 k2 k3 k5 : _) (_ : K.lookup 38 = some (excClassObj nm q 38 N bs yS true sn sub ab col dd k0 k1 k2 k3 k5 "Exception.__new__")) (_ : nsOkIn K N = true) (_ : nsIn K N "__init__" = some (some (.ref 35))) (_ : (lW.all fun n => nsIn K N n == some none) = true) : ExK K
theorem CW (w : World) : ExK (tp.heap_1 w.params) := ⟨_, _, _, _, _, _, _, _, _, _, _, _, _, _, rfl, by kernel_rfl, by kernel_rfl, by kernel_rfl⟩
theorem kQ {w : World} {h : Heap} (X : (tp.heap_1 w.params).In h) : ExC h := by
 obtain ⟨nm, q, N, bs, sn, sub, ab, col, dd, k0, k1, k2, k3, k5, ho, hok, hi, hno⟩ := CW w
 have G : h.Ns N (h.nsMap N) := .of_isNs (isNs_of_in X hok)
 exact ⟨nm, q, N, bs, sn, sub, ab, col, dd, k0, k1, k2, k3, k5, h.nsMap N, X _ _ ho, G, iO X G hi, fun n hn => nsMap_none_of_in X hok (beq_iff_eq.mp (List.all_eq_true.mp hno n hn))⟩
end
section
open Builtin Builtin.ObjectAttr
section
variable {prog : Program} {w : World} {A : Around} {E : Value → Shared → Prop} {h : Heap} {g : Array GenState} {d : Drawn} {t : Nat} {os : OsState}
variable {nm q : Str} {C N x : Addr} {bs bm : List Value} {sn : List Str} {sub : List Value} {ab : Bool} {col : Option Bool} {dd : Option Addr} {k0 k1 k2 k3 k5 : Option Value} {B newId sa owner : String}
 {mN mA : Str → Option Value} {name : Str} {v : Value} {o : Obj}
noncomputable def sR (h : Heap) (x : Addr) (o : Obj) (name : Str) (v : Value) (mA : Str → Option Value) (P : Heap → Addr → Prop) : Prop :=
 ∀ h' dx, (o.dict = some dx ∨ (o.dict = none ∧ h.get? dx = none)) → h'.get? x = some { o with dict := some dx } → dx ≠ x → h'.Ns1 dx (fun y => if y = name then some v else mA y) → (∀ b ob, b ≠ x → b ≠ dx → h.get? b = some ob → h'.get? b = some ob) → P h' dx
theorem lV {tk : Tok} {Q : Fin → Shared → Prop} {ns : List Str} (SF : StoreFacts B bm sa owner)
  (hC : h.get? C = some (excClassObj nm q C N bs bm true sn sub ab col dd k0 k1 k2 k3 k5 newId)) (hn : h.Ns N mN) (hna : mN name = none)
  (hB : typeLookup (.type B) name = pure none) (hx : h.get? x = some o) (hc : o.cls = .ref C) (hnc : ∀ c, o.data ≠ .cls c) (hd : (o.dict = none ∧ ∀ n, mA n = none) ∨ ∃ d, o.dict = some d ∧ d ≠ x ∧ h.Ns1 d mA)
  (hq : ∀ tk', sR h x o name v mA fun h' dx => Q (.done (.ret .none)) ⟨h', g, d, tk', os⟩) (hw : Within mA ns) (hsz : ns.length ≤ 100) :
  wpAny (model prog w) A (Builtin.«object.__setattr__» ⟨[.ref x, .str name tk, v], []⟩) Q E ⟨h, g, d, t, os⟩ := by
 have hpass := SF.passes (.ref x)
 wp_delta
 (with_reducible apply wpAny_ite_false); focus (rfl; done)
 with_reducible refine wpAny_bind ?_
 rw [refuse_eq]
 with_reducible refine wpAny_bind ?_
 wp_delta
 with_reducible refine wpAny_bind ?_
 with_reducible refine wpAny_loadPart_at hx ?_; rw [hc]
 with_reducible refine wpAny_pure ?_
 with_reducible refine wpAny_bind ?_
 with_reducible refine wpAny_mroOf_exc hC ?_
 rw [refuseLoop_ref, hpass]
 with_reducible refine wpAny_pure ?_
 with_reducible refine wpAny_bind ?_
 wp_delta
 with_reducible refine wpAny_pure ?_
 with_reducible refine wpAny_bind ?_
 wp_delta
 with_reducible refine wpAny_bind ?_
 with_reducible refine wpAny_loadPart_at hx ?_; rw [hc]
 with_reducible refine wpAny_pure ?_
 with_reducible refine wpAny_bind ?_
 with_reducible refine wpAny_typeLookup_exc hC hn SF.mro hB ?_; rw [hna]
 with_reducible refine wpAny_bind ?_
 wp_delta
 with_reducible refine wpAny_pure ?_
 wp_delta
 wp_delta
 with_reducible refine wpAny_bind ?_
 wp_delta
 with_reducible refine wpAny_pure ?_
 (with_reducible apply wpAny_ite_false); focus (rfl; done)
 with_reducible refine wpAny_bind ?_
 wp_delta
 wp_delta
 with_reducible refine wpAny_bind ?_
 with_reducible refine wpAny_loadPart_at hx ?_; rw [hc]
 with_reducible refine wpAny_bind ?_
 wp_delta
 with_reducible refine wpAny_bind ?_
 (with_reducible apply wpAny_load'); focus (heap_get; done)
 with_reducible refine wpAny_pure ?_
 (with_reducible apply wpAny_ite_false); focus (rfl; done)
 wp_delta
 rcases hd with ⟨hdn, hmA⟩ | ⟨dx, hdx, hne, hns⟩
 ·rw [hdn, if_neg (by simp [typeHasDict])]
  split
  ·rename_i hcd
   cases hcd
  split
  ·rename_i c hcd
   exact absurd hcd (hnc c)
  ·have hxz1 : (h.push { cls := .type "dict", data := .dict #[] }).get? x = some o := Heap.get?_push_of_some _ hx
   have hxs : x ≠ h.objs.size := Nat.ne_of_lt (Heap.lt_size hx)
   refine wpAny_bind (wpAny_alloc' ?_)
   refine wpAny_bind (wpAny_update' hxz1 ?_)
   refine wpAny_pure ?_
   have hgd : ((h.push { cls := .type "dict", data := .dict #[] }).update x fun o => { cls := o.cls, dict := some h.objs.size, data := o.data, slots := o.slots }).get? h.objs.size
     = some { cls := .type "dict", data := .dict #[] } :=
    (Heap.get?_update_ne _ _ _ _ hxs.symm).trans (Heap.get?_push_at rfl rfl)
   have hnd : ((h.push { cls := .type "dict", data := .dict #[] }).update x fun o => { cls := o.cls, dict := some h.objs.size, data := o.data, slots := o.slots }).Ns h.objs.size (fun _ => none) :=
    ⟨_, #[], _, hgd, rfl, fun e he => absurd he (by simp), fun _ => rfl⟩
   refine wpAny_bind (wpAny_pure (wpAny_bind (wpAny_nsSet1 (Heap.Ns1.of_empty hnd) fun h' hn' hs => ?_)))
   refine hide fun Gz0 bk0 => ?_
   obtain ⟨oD, esD, epD, hoD, hdD, hcD⟩ := hn'.count (Within.cons name v Within.nil)
   refine bk0 ?_; clear bk0 Gz0
   refine wpAny_bind (wpAny_lookBehind hoD (by rw [hdD]; exact pastItsLine_dict (Nat.le_trans hcD (by rw [List.length_cons, List.length_nil, sizeLine_eq]; lia))) ?_)
   wp_walk
   refine hq _ h' h.objs.size (.inr ⟨hdn, aA h⟩) ?_ hxs.symm ?_ (fun b ob hbx _ hb => ?_)
   ·refine (hs.2 x hxs).trans (Heap.get?_update_self _ hxz1 ?_)
    have hfr := (Heap.get?_some_iff.mp hx).2
    obtain ⟨oc, od, odt, osl⟩ := o
    induction odt using Data.casesOn <;> first | rfl | exact hfr
   ·obtain ⟨o', es, ep, e1, e2, e3, eu, e4⟩ := hn'
    exact ⟨o', es, ep, e1, e2, e3, eu, fun y => by rw [e4 y]; by_cases hy : y = name <;> simp [hy, hmA]⟩
   ·exact (hs.2 b (Nat.ne_of_lt (Heap.lt_size hb))).trans ((Heap.get?_update_ne _ _ _ _ hbx).trans (Heap.get?_push_of_some _ hb))
 ·rw [hdx]
  refine wpAny_pure ?_
  refine wpAny_bind (wpAny_pure (wpAny_bind (wpAny_nsSet1 hns fun h' hn' hs => ?_)))
  refine hide fun Gz0 bk0 => ?_
  obtain ⟨oD, esD, epD, hoD, hdD, hcD⟩ := hn'.count (Within.cons name v hw)
  refine bk0 ?_; clear bk0 Gz0
  refine wpAny_bind (wpAny_lookBehind hoD (by rw [hdD]; exact pastItsLine_dict (Nat.le_trans hcD (by rw [List.length_cons, sizeLine_eq]; lia))) ?_)
  wp_walk
  refine hq _ h' dx (.inl hdx) ?_ hne hn' (fun b ob _ hbd hb => (hs.2 b hbd).trans hb)
  rw [← hdx]
  exact (hs.2 x hne.symm).trans hx
theorem yN {Q : Unit → Shared → Prop} {ns : List Str} (SF : StoreFacts B bm sa owner)
  (hC : h.get? C = some (excClassObj nm q C N bs bm true sn sub ab col dd k0 k1 k2 k3 k5 newId)) (hn : h.Ns N mN) (hns : mN "__setattr__" = none) (hna : mN name = none)
  (hB : typeLookup (.type B) name = pure none) (hx : h.get? x = some o) (hc : o.cls = .ref C) (hnc : ∀ c, o.data ≠ .cls c) (hd : (o.dict = none ∧ ∀ n, mA n = none) ∨ ∃ d, o.dict = some d ∧ d ≠ x ∧ h.Ns1 d mA)
  (hq : ∀ tk', sR h x o name v mA fun h' dx => Q () ⟨h', g, d, tk', os⟩) (hw : Within mA ns) (hsz : ns.length ≤ 100) :
  wpAny (model prog w) A (setAttr (.ref x) name v) Q E ⟨h, g, d, t, os⟩ := by
 have f3 := SF.slot.bind (.ref x)
 repeat (any_goals (first | assumption | (with_reducible refine wpAny_loadPart_at hx ?_; rw [hc]) | (with_reducible refine wpAny_typeLookup_exc hC hn SF.mro SF.slot.lookup ?_; rw [hns]) | wp_step))
 refine codeAny_call_builtin SF.slot.plain SF.entry (wpAny_check_sa SF hC hx hc (lV SF hC hn hna hB hx hc hnc hd (fun tk' h' dx a1 a2 a3 a4 a5 => ?_) hw hsz))
 repeat (any_goals (first | assumption | wp_step))
 exact hq tk' h' dx a1 a2 a3 a4 a5
end
end
section
open Builtin Builtin.ObjectAttr
section
variable {prog : Program} {w : World} {A : Around} {E : Value → Shared → Prop} {h : Heap} {g : Array GenState} {d : Drawn} {t : Nat} {os : OsState} {a : Addr} {o : Obj} {vs : Array Value} {t0 : Addr}
 {nm q : Str} {C N : Addr} {bs bm bmB : List Value} {hdct : Bool} {sn : List Str} {sub : List Value} {ab : Bool} {col : Option Bool} {dd : Option Addr} {k0 k1 k2 k3 k5 : Option Value} {B newId initId : String} {mN mA : Str → Option Value} {name : Str} {v : Value} {dx : Addr}
theorem Dr (F : ExcBaseFacts B newId initId bm) {e : Addr} {rest : List Value} {Q : Value → Shared → Prop}
  (hC : h.get? C = some (excClassObj nm q C N bs bm hdct sn sub ab col dd k0 k1 k2 k3 k5 newId)) (he : h.get? e = some o) (hcls : o.cls = .ref C) (hd : o.data = .fields vs) (h0 : vs[0]? = some (.ref t0))
  (hq : Q .none ⟨(h.push { cls := .type "tuple", data := .seq rest.toArray }).update e (Obj.mapFields (·.setIfInBounds 0 (.ref h.objs.size))), g, d, t, os⟩) (hrest : rest.length ≤ sizeLine) :
  wpAny (model prog w) A (call (.builtin initId) (.ref e :: rest)) Q E ⟨h, g, d, t, os⟩ := by
 refine wpAny_call (codeAny_call_builtin F.init.plain F.initEntry (wpAny_check_init_sub F hC he hcls ?_))
 unfold Builtin.«BaseException.__init__»
 dsimp only
 rw [if_neg (by simp)]
 have hsz : 0 < vs.size := (Array.getElem?_eq_some_iff.mp h0).1
 have hez1 := Heap.get?_push_of_some (h := h) { cls := .type "tuple", data := .seq rest.toArray } he
 refine wpAny_bind (wpAny_newObj_type (wpAny_bind (wpAny_bind (wpAny_field hez1 hd h0 (wpAny_bind (wpAny_setField hez1 hd hsz ?_))))) (by show rest.toArray.size ≤ sizeLine; rw [List.size_toArray]; exact hrest))
 exact wpAny_letGo (wpAny_pure hq)
theorem sj {M : Model} {nameV : Value} {Q : Unit → Shared → Prop} (hC : h.get? C = some (excClassObj nm q C N bs bm hdct sn sub ab col dd k0 k1 k2 k3 k5 newId)) (hb : bm.contains (.type "BaseException") = true)
  (hx : h.get? a = some o) (hc : o.cls = .ref C) (hq : Q () ⟨h, g, d, t, os⟩) : wpAny M A (checkBuiltinCall "BaseException.__getattribute__" ⟨[.ref a, nameV], []⟩) Q E ⟨h, g, d, t, os⟩ := by
 have hk : builtinKind "BaseException.__getattribute__" = some .slot := by decide +kernel
 have hsplit : splitId "BaseException.__getattribute__" = some ("BaseException", "__getattribute__") := by decide +kernel
 have hcB : (Value.ref C :: bm).contains (.type "BaseException") = true := by rw [List.contains_cons, hb]; rfl
 have ha := F.args_bexc_ga (.ref a) nameV
 simp only [checkBuiltinCall, hk, hsplit]
 refine wpAny_bind ?_
 ·unfold isInstance
  with_reducible refine wpAny_bind ?_
  wp_delta
  with_reducible refine wpAny_bind ?_
  with_reducible refine wpAny_loadPart_at hx ?_; rw [hc]
  with_reducible refine wpAny_pure ?_
  with_reducible refine wpAny_isSubtype_exc hC ?_; rw [hcB]
  (with_reducible apply wpAny_ite_false); focus (rfl; done)
  wp_delta
  wp_delta
  with_reducible refine wpAny_bind ?_
  wp_delta
  (with_reducible apply wpAny_ite_true); focus (rfl; done)
  with_reducible refine wpAny_pure ?_
  with_reducible refine wpAny_bind ?_
  wp_delta
  (with_reducible apply wpAny_ite_true); focus (rfl; done)
  with_reducible refine wpAny_pure ?_
  wp_delta
  wp_delta
  with_reducible_and_instances refine wpAny_pure ?_
  exact hq
theorem pL {tk : Tok} {Q : Fin → Shared → Prop} (FB : ExcAttrBase B bm) (hC : h.get? C = some (excClassObj nm q C N bs bm true sn sub ab col dd k0 k1 k2 k3 k5 newId)) (hN : h.Ns N mN)
  (hna : mN name = none) (hB : typeLookup (.type B) name = pure none) (hx : h.get? a = some o) (hc : o.cls = .ref C) (hd : o.data = .fields vs) (hdx : o.dict = some dx) (hns : h.Ns dx mA) (hv : mA name = some v) (hq : Q (.done (.ret v)) ⟨h, g, d, t, os⟩) :
  wpAny (model prog w) A (Builtin.«object.__getattribute__» ⟨[.ref a, .str name tk], []⟩) Q E ⟨h, g, d, t, os⟩ := by
 wp_delta
 with_reducible refine wpAny_bind ?_
 wp_delta
 (with_reducible apply wpAny_ite_false); focus (rfl; done)
 (with_reducible apply wpAny_ite_false); focus (rfl; done)
 with_reducible refine wpAny_pure ?_
 with_reducible refine wpAny_bind ?_
 wp_delta
 with_reducible refine wpAny_pure ?_
 with_reducible refine wpAny_bind ?_
 wp_delta
 with_reducible refine wpAny_bind ?_
 with_reducible refine wpAny_loadPart_at hx ?_; rw [hc]
 with_reducible refine wpAny_pure ?_
 with_reducible refine wpAny_bind ?_
 wp_delta
 with_reducible refine wpAny_bind ?_
 with_reducible refine wpAny_typeLookup_exc hC hN FB.mro hB ?_; rw [hna]
 with_reducible refine wpAny_bind ?_
 wp_delta
 with_reducible refine wpAny_pure ?_
 with_reducible refine wpAny_bind ?_
 wp_delta
 with_reducible refine wpAny_pure ?_
 wp_delta
 wp_delta
 with_reducible refine wpAny_bind ?_
 wp_delta
 with_reducible refine wpAny_bind ?_
 wp_delta
 with_reducible refine wpAny_bind ?_
 wp_delta
 (with_reducible apply wpAny_loadPart'); focus (heap_get; done)
 rw [hd]
 wp_delta
 wp_delta
 with_reducible refine wpAny_bind ?_
 with_reducible refine wpAny_loadPart_at hx ?_; rw [hc]
 with_reducible refine wpAny_bind ?_
 wp_delta
 with_reducible refine wpAny_bind ?_
 (with_reducible apply wpAny_load'); focus (heap_get; done)
 with_reducible refine wpAny_pure ?_
 (with_reducible apply wpAny_ite_false); focus (rfl; done)
 wp_delta
 rw [hdx]
 with_reducible refine wpAny_pure ?_
 wp_delta
 with_reducible refine wpAny_nsGet hns ?_; rw [hv]
 with_reducible refine wpAny_bind ?_
 with_reducible refine wpAny_rule ?_
 with_reducible refine wpAny_pure ?_
 wp_delta
 wp_delta
 with_reducible refine wpAny_pure ?_
 exact hq
theorem D5 {expr : Bool} {Q : Value → Shared → Prop} (FB : ExcAttrBase B bm) (hC : h.get? C = some (excClassObj nm q C N bs bm true sn sub ab col dd k0 k1 k2 k3 k5 newId)) (hN : h.Ns N mN)
  (hga : mN "__getattribute__" = none) (hgt : mN "__getattr__" = none)
  (hna : mN name = none) (hB : typeLookup (.type B) name = pure none) (hx : h.get? a = some o) (hc : o.cls = .ref C) (hd : o.data = .fields vs) (hdx : o.dict = some dx) (hns : h.Ns dx mA) (hv : mA name = some v) (hh : handedOut v = pure v) (hq : Q v ⟨h, g, d, t + 1, os⟩) :
  wpAny (model prog w) A (getAttr (.ref a) name expr) Q E ⟨h, g, d, t, os⟩ := by
 have f3 := FB.ga.bind (.ref a)
 have hx0 : (expr && onTheHeap (Value.builtin "BaseException.__getattribute__")) = false := by induction expr using Bool.casesOn <;> rfl
 have hx2 : (Value.builtin "BaseException.__getattribute__" == Value.builtin "object.__getattribute__") = false := by decide +kernel
 have hx1 : (onTheHeap (Value.ref C) && Value.builtin "BaseException.__getattribute__" == Value.builtin "object.__getattribute__") = false := by rw [hx2]; rfl
 repeat (any_goals (first | assumption | (with_reducible refine wpAny_loadPart_at hx ?_; rw [hc]) | (with_reducible refine wpAny_typeLookup_exc hC hN FB.mro FB.ga.lookup ?_; rw [hga]) | (with_reducible refine wpAny_typeLookup_exc hC hN FB.mro FB.noGetattr ?_; rw [hgt]) | wp_step))
 refine codeAny_call_builtin FB.ga.plain F.entry_bexc_ga (sj hC FB.hasBase hx hc (pL FB hC hN hna hB hx hc hd hdx hns hv ?_))
 show wpAny _ _ (handedOut v) _ _ _
 rw [hh]
 exact wpAny_pure hq
end
end
section
inductive sP (w : World) : Prop
 | mk (p1 p2 p3 p4 p5 p6 p7 p8 p9 p10 p11 p12 p13 p14 p15 p16 p17 p18 p19 p20 p21 p22 p23 p24 : Pos) (_ : bd 35 = [ .Expr (.Call (.Attribute (.Name "Exception" p1) "__init__" p2) [.Name "self" p3, .BinOp (.BinOp (.Call (.Name "str" p4) [.Name "code" p5] [] p6) .Add (.Constant (.str ": ") 0 p7) p8) .Add (.Name "text" p9) p10] [] p11) p12, .Assign [.Attribute (.Name "self" p13) "code" p14] (.Name "code" p15) p16, .Assign [.Attribute (.Name "self" p17) "frame_type" p18] (.Name "frame_type" p19) p20, .Assign [.Attribute (.Name "self" p21) "text" p22] (.Name "text" p23) p24]) (_ : mOk [.Name "self" p3, .BinOp (.BinOp (.Call (.Name "str" p4) [.Name "code" p5] [] p6) .Add (.Constant (.str ": ") 0 p7) p8) .Add (.Name "text" p9) p10] p2 p11 = true) : sP w
theorem b35 (w : World) : sP w := ⟨_, _, _, _, _, _, _, _, _, _, _, _, _, _, _, _, _, _, _, _, _, _, _, _, rfl, rfl⟩
section
variable {X : Fx} {σ : SS} {K : AV → SS → Prop}
theorem ko (O : X.Ok) {x : Str} {pos : Pos} {v : Value} {ow : Addr → Prop} {ρ : List Addr} {s : Shared} {Q E : Value → Shared → Prop} (S : SR X ow ρ s.heap σ) (hx : X.env.kindOf x = some .globalImplicit) (hd : (x == ("__debug__" : Str)) = false) (hn : x ≠ "__name__")
  (e : nsIn (tp.heap_1 X.w.params) mainGlobals x = some none) (hv : bootBuiltins x = some v) (q : Q v s) : wpAny (model af X.w) X.A (eval (.Name x pos) X.env) Q E s := by
 obtain ⟨mf, ml, F, n, c1, c2, l⟩ := S.fr
 obtain ⟨mean, mg, mb, T⟩ := O.T
 exact Name_function_global O.kind hx (loadGlobal_builtin (by rw [O.glob]; exact T.g.keeps F.keep) (mg_none_of O.K T.g e) (by rw [O.bins]; exact T.b.keeps F.keep) ((T.builtins x hn).trans hv) q) hd
theorem g9 (O : X.Ok) {x : Str} {pos : Pos} {v : Value} {ow : Addr → Prop} {ρ : List Addr} {s : Shared} {Q E : Value → Shared → Prop} (S : SR X ow ρ s.heap σ) (hx : X.env.kindOf x = some .globalImplicit) (hd : (x == ("__debug__" : Str)) = false)
  (e : nsIn (tp.heap_1 X.w.params) mainGlobals x = some (some v)) (q : Q v s) : wpAny (model af X.w) X.A (eval (.Name x pos) X.env) Q E s := by
 obtain ⟨mf, ml, F, n, c1, c2, l⟩ := S.fr
 obtain ⟨mean, mg, mb, T⟩ := O.T
 exact Name_function_global O.kind hx (loadGlobal_global (by rw [O.glob]; exact T.g.keeps F.keep) (mg_of O.K T.g e) q) hd
theorem dX {x y : Str} (h : x.length + y.length ≤ sizeLine) (k : K (.v (.str (x ++ y))) σ) : J2 X (binaryOp .Add) (.v (.str x)) (.v (.str y)) σ K := by
 intro ow ρ s va vb S ra rb Q E q
 obtain ⟨t, rfl⟩ := ra.inv.str_inv
 obtain ⟨u, rfl⟩ := rb.inv.str_inv
 exact PyProof.Rows.add_str (fun t' tk => q _ _ σ ow ρ s.heap tk .refl S (.v (.str _ _)) k) h
theorem to (O : X.Ok) {p q pos : Pos} {x : Str} {i : Int} (hx : X.env.kindOf "str" = some .globalImplicit) (hl : X.env.kindOf x = some .local) (hd : (x == ("__debug__" : Str)) = false) (hv : lk x σ.loc = some (.v (.int i))) (hi : i.natAbs.log2 < 1920)
  (e : nsIn (tp.heap_1 X.w.params) mainGlobals "str" = some none) (k : K (.v (.str (toString i))) σ) : JE X (.Call (.Name "str" p) [.Name x q] [] pos) σ K := by
 intro ow ρ s S Q E qq
 refine Call_ (ko O S hx (by decide) (by decide) e (by rfl : bootBuiltins "str" = some (.type "str")) ?_)
 refine PyProof.Rows.callWith_type1 ?_ rfl rfl
 refine (aH (K := fun as σ1 => as = [.v (.int i)] ∧ σ1 = σ) rfl (cm O hl hd hv (dB ⟨rfl, rfl⟩))) ow ρ s S _ _ fun vs as σ1 ow1 ρ1 hz1 tk1 ez1 S1 rz1 kz1 => ?_
 obtain ⟨rfl, rfl⟩ := kz1
 refine hide fun Gz0 bk0 => ?_
 replace rz1 := rz1.i; obtain ⟨_, _, rfl, r, rs⟩ := rz1; replace rs := rs.i; obtain rfl := rs
 obtain ⟨t, rfl⟩ := r.inv.int_inv
 refine bk0 ?_; clear bk0 Gz0
 exact P.str_of_int hi (qq _ _ _ ow1 ρ1 hz1 (tk1 + 1) ez1 S1 (.v (.str _ _)) k)
end
end
section
section
variable {X : Fx} {σ : SS} {ow : Addr → Prop} {ρ : List Addr} {h h' : Heap}
structure Hid (X : Fx) (ow : Addr → Prop) (ρ : List Addr) (a : Addr) : Prop where
 o : ow a
 r : a ∉ ρ
 L : a ≠ X.L
 l : a ≠ X.env.locals
 h : X.hz0.get? a = none
theorem zS (X : Fx) (hs : Heap) (hn : ∀ b, hs.get? b = none) (ow : Addr → Prop) (ρ : List Addr) (h : Heap) : Ex X (fun _ => False) [] hs ow ρ h :=
 ⟨fun _ x => x.elim, fun b _ => .inr (hn b), List.nil_prefix, fun b _ => .inr (hn b), fun b o e => ao e (hn b), fun b o e => ao e (hn b)⟩
theorem rA : ∃ hs : Heap, ∀ b, hs.get? b = none := ⟨{ objs := #[] }, fun b => Heap.get?_none_of_le (Nat.zero_le _)⟩
theorem SR.write (S : SR X ow ρ h σ) (wr : List Addr) (kp : ∀ b o, b ∉ wr → h.get? b = some o → h'.get? b = some o) (hw : ∀ a ∈ wr, Hid X ow ρ a) (lv : ∀ a ∈ wr, ∃ o, h'.get? a = some o) : SR X ow ρ h' σ := by
 obtain ⟨hs, hn⟩ := rA
 exact (S.hid (zS X hs hn ow ρ h) kp (fun a m => ⟨(hw a m).o, hn a, (hw a m).r, (hw a m).L, (hw a m).l, (hw a m).h⟩) (fun _ z => z) (fun _ z => .inl z) (fun b _ m => lv b m)).1
theorem SR.writeNew (S : SR X ow ρ h σ) {e dx : Addr} {o : Obj} (he : h.get? e = some o) (he' : ∃ o', h'.get? e = some o') (kp : ∀ b ob, b ≠ e → h.get? b = some ob → h'.get? b = some ob) (dn : h.get? dx = none) (dh : ∃ od, h'.get? dx = some od) (H : Hid X ow ρ e) : SR X (fun b => ow b ∨ b ∈ [dx]) ρ h' σ := by
 obtain ⟨o', he'⟩ := he'
 have hfr := (Heap.get?_some_iff.mp he).2
 have gm : (h'.update e fun _ => o).get? e = some o := Heap.get?_update_self _ he' hfr
 have ge : ∀ b, b ≠ e → (h'.update e fun _ => o).get? b = h'.get? b := fun b hb => Heap.get?_update_other _ _ (Ne.symm hb)
 have de : dx ≠ e := fun z => by rw [z, he] at dn; cases dn
 have S1 := (S.hideUp (h' := h'.update e fun _ => o) [dx] (fun b x q => by
  by_cases z : b = e
  ·subst z; rw [he] at q; cases q; exact gm
  ·rw [ge b z]; exact kp b x z q) (fun a m => by rw [List.mem_singleton.mp m]; exact ⟨dn, by rw [ge dx de]; exact dh⟩)).1
 refine S1.write [e] (fun b ob nb q => ?_) (fun a m => by rw [List.mem_singleton.mp m]; exact ⟨.inl H.o, H.r, H.L, H.l, H.h⟩) (fun a m => by rw [List.mem_singleton.mp m]; exact ⟨o', he'⟩)
 rw [ge b (fun z => nb (by rw [z]; exact .head _))] at q
 exact q
end
inductive Ea (h : Heap) (e : Addr) (dct : Option Addr) : Prop
 | mk (o : Obj) (vs : Array Value) (t0 : Addr) (_ : h.get? e = some o) (_ : o.cls = .ref 38) (_ : o.dict = dct) (_ : o.data = .fields vs) (_ : vs[0]? = some (.ref t0)) (_ : vs[1]? = some .none)
structure ExO (h : Heap) (e : Addr) (dct : Option Addr) : Prop where
 o : Ea h e dct
end
section
theorem qr : typeLookup (.type "Exception") "code" = pure none := by rw [typeLookup_type, builtinLookup_eq_fast]; kernel_rfl
theorem DZ : typeLookup (.type "Exception") "frame_type" = pure none := by rw [typeLookup_type, builtinLookup_eq_fast]; kernel_rfl
theorem vZ : typeLookup (.type "Exception") "text" = pure none := by rw [typeLookup_type, builtinLookup_eq_fast]; kernel_rfl
section
variable {X : Fx} {σ : SS} {ow : Addr → Prop} {ρ : List Addr} {s : Shared}
theorem iZ (O : X.Ok) {x : Str} {pos : Pos} {sv : AV} {Q E : Value → Shared → Prop} (S : SR X ow ρ s.heap σ) (hx : X.env.kindOf x = some .local) (hd : (x == ("__debug__" : Str)) = false) (h : lk x σ.loc = some sv)
  (q : ∀ v, AR (Pz s.heap ow) X.w ρ v sv → Q v s) : wpAny (model af X.w) X.A (eval (.Name x pos) X.env) Q E s := by
 obtain ⟨mf, ml, F, n, c1, c2, l⟩ := S.fr
 obtain ⟨v, hv, r⟩ := l x sv h
 exact wpAny_Name (wpAny_loadName_local O.kind hx n hv (q v r)) hd
theorem o0 (O : X.Ok) {e : Addr} {o : Obj} {vs : Array Value} {mA : Str → Option Value} {ns : List Str} {sv : SV} {x attr : Str} {p1 p2 p3 p4 : Pos} {Q : Flow → Shared → Prop} {E : Value → Shared → Prop} (S : SR X ow ρ s.heap σ)
  (ks : X.env.kindOf "self" = some .local) (kx : X.env.kindOf x = some .local) (hd : (x == ("__debug__" : Str)) = false) (hself : lk "self" σ.loc = some (.v (.ref e))) (hx : lk x σ.loc = some (.v sv))
  (hn : attr ∈ lW) (hB : typeLookup (.type "Exception") attr = pure none) (he : s.heap.get? e = some o) (hc : o.cls = .ref 38) (hdt : o.data = .fields vs)
  (hdi : (o.dict = none ∧ ∀ n, mA n = none) ∨ ∃ d, o.dict = some d ∧ d ≠ e ∧ s.heap.Ns1 d mA) (hw : Within mA ns) (hsz : ns.length ≤ 100)
  (q : ∀ v h' tk' dx, VR (Pz s.heap ow) X.w v sv → (o.dict = some dx ∨ (o.dict = none ∧ s.heap.get? dx = none)) → h'.get? e = some { o with dict := some dx } → dx ≠ e → h'.Ns1 dx (fun y => if y = attr then some v else mA y) →
   (∀ b ob, b ≠ e → b ≠ dx → s.heap.get? b = some ob → h'.get? b = some ob) → Q .next { s with heap := h', toks := tk' }) :
  wpAny (model af X.w) X.A (exec (.Assign [.Attribute (.Name "self" p1) attr p2] (.Name x p3) p4) X.env) Q E s := by
 obtain ⟨nm, qn, N, bs, sn, sub, ab, col, dd, k0, k1, k2, k3, k5, mN, hC, hN, hi, hno⟩ := kQ S.kin
 refine plainObj_wpAny_Assign_Attribute (iZ O S kx hd hx fun v rv => iZ O S ks (by decide) hself fun a ra => ?_) (bG rfl)
 cases ra.inv
 obtain ⟨hh, gg, dr, tt, oo⟩ := s
 exact yN (o := o) PySem.F.store_Exception hC hN (hno _ (by decide)) (hno _ hn) hB he hc (fun c z => by rw [hdt] at z; cases z) hdi (fun tk' h' dx a1 a2 a3 a4 a5 => q v h' tk' dx rv.inv a1 a2 a3 a4 a5) hw hsz
end
theorem vR {h : Heap} {e : Addr} {o T : Obj} {ws : Array Value} {v : Value} (y : h.get? e = some o) (d : o.data = .fields ws) (h0 : ∃ t0, ws[0]? = some t0) (h1 : ws[1]? = some .none) :
  (∃ oz2 ws2, ((h.push T).update e (Obj.mapFields (·.setIfInBounds 0 v))).get? e = some oz2 ∧ oz2.cls = o.cls ∧ oz2.dict = o.dict ∧ oz2.data = .fields ws2 ∧ ws2[0]? = some v ∧ ws2[1]? = some .none) ∧ ∀ b ob, b ≠ e → h.get? b = some ob → ((h.push T).update e (Obj.mapFields (·.setIfInBounds 0 v))).get? b = some ob := by
 obtain ⟨t0, h0⟩ := h0
 have hd := Obj.data_mapFields d (·.setIfInBounds 0 v)
 have yp := Heap.get?_push_of_some (h := h) T y
 refine ⟨⟨_, _, Heap.get?_update_self _ yp (Obj.isFreed_of_fields hd), Obj.cls_mapFields _ _, eR _ _, hd, ?_, ?_⟩, fun b ob nb q => ?_⟩
 ·have hsz : 0 < ws.size := (Array.getElem?_eq_some_iff.mp h0).1
  simp [hsz]
 ·rw [Array.getElem?_setIfInBounds_ne (by decide)]; exact h1
 ·rw [Heap.get?_update_other _ _ (Ne.symm nb)]; exact Heap.get?_push_of_some _ q
theorem Hid.new {X : Fx} {σ : SS} {ow : Addr → Prop} {ρ : List Addr} {h : Heap} {dx : Addr} (S : SR X ow ρ h σ) (dn : h.get? dx = none) : Hid X (fun b => ow b ∨ b ∈ [dx]) ρ dx := by
 have nl : ∀ a o, h.get? a = some o → dx ≠ a := fun a o z y => by rw [← y, dn] at z; cases z
 obtain ⟨mf, ml, F, n, c1, c2, l⟩ := S.fr
 refine ⟨.inr (.head _), fun m => ?_, ?_, ?_, ?_⟩
 ·obtain ⟨o, z⟩ := S.low dx (S.off dx m).1; exact nl _ _ z rfl
 ·obtain ⟨o, z⟩ := S.low _ S.owL; exact nl _ _ z
 ·obtain ⟨o, z⟩ := S.low _ S.owl; exact nl _ _ z
 ·cases z : X.hz0.get? dx with
  | none => rfl
  | some o => exact absurd rfl (nl _ _ (F.keep _ _ z))
theorem Hid.up {X : Fx} {ow ow' : Addr → Prop} {ρ : List Addr} {e : Addr} (H : Hid X ow ρ e) (h : ∀ b, ow b → ow' b) : Hid X ow' ρ e := ⟨h _ H.o, H.r, H.L, H.l, H.h⟩
theorem wq {X : Fx} (O : X.Ok) {σ : SS} {K : AV → SS → Prop} {p4 p5 p6 p7 p8 p9 p10 : Pos} {x : Str} (hx : X.env.kindOf "str" = some .globalImplicit) (hl : X.env.kindOf "code" = some .local) (ht : X.env.kindOf "text" = some .local)
  (hv : lk "code" σ.loc = some (.v (.int 10))) (ht' : lk "text" σ.loc = some (.v (.str x))) (e : nsIn (tp.heap_1 X.w.params) mainGlobals "str" = some none) (hz : x.length ≤ 1000) (k : ∀ y, K (.v (.str y)) σ) :
  JE X (.BinOp (.BinOp (.Call (.Name "str" p4) [.Name "code" p5] [] p6) .Add (.Constant (.str ": ") 0 p7) p8) .Add (.Name "text" p9) p10) σ K := by
 refine cj (cj (to O hx hl (by decide) hv (by decide +kernel) e ?_))
 refine gV ?_
 refine dX (by decide +kernel) ?_
 refine cm O ht (by decide) ht' ?_
 refine dX ?_ (k _)
 have : (Str.ofString (toString (10 : Int)) ++ (": " : Str)).length ≤ 1000 := by decide +kernel
 have h2 : (2000 : Nat) ≤ sizeLine := by decide +kernel
 lia
theorem qN {X : Fx} (O : X.Ok) {ow : Addr → Prop} {ρ : List Addr} {s : Shared} {e : Addr} {x : Str} (ag : Agr X (gU (scp 35) 0))
  (S : SR X ow ρ s.heap (aR (scp 35) ["self", "code", "frame_type", "text"] [.v (.ref e), .v (.int 10), .v (.int 0), .v (.str x)] [])) (H : Hid X ow ρ e) (hx : x.length ≤ 1000) (xo : ExO s.heap e none) {Q : Flow → Shared → Prop} {E : Value → Shared → Prop}
  (q : ∀ h' tk' dx, (∀ b o, b ≠ e → b ∉ ρ → b ≠ X.L → b ≠ X.env.locals → s.heap.get? b = some o → h'.get? b = some o) → s.heap.get? dx = none → ExO h' e (some dx) → dx ≠ e → (sK dx h') → Q .next { s with heap := h', toks := tk' }) :
  wpAny (model af X.w) X.A (execs (bd 35) X.env) Q E s := by
 have kind : ∀ y k, (scp 35).names.lookup y = k → X.env.kindOf y = k := fun y k z => by show X.env.scope.names.lookup y = k; rw [ag.names]; exact z
 have kself := kind "self" (some .local) (by kernel_rfl)
 have kcode := kind "code" (some .local) (by kernel_rfl)
 have kft := kind "frame_type" (some .local) (by kernel_rfl)
 have ktext := kind "text" (some .local) (by kernel_rfl)
 have kexc := kind "Exception" (some .globalImplicit) (by kernel_rfl)
 have kstr := kind "str" (some .globalImplicit) (by kernel_rfl)
 have lself : lk "self" (aR (scp 35) ["self", "code", "frame_type", "text"] [.v (.ref e), .v (.int 10), .v (.int 0), .v (.str x)] []).loc = some (.v (.ref e)) := by kernel_rfl
 have lcode : lk "code" (aR (scp 35) ["self", "code", "frame_type", "text"] [.v (.ref e), .v (.int 10), .v (.int 0), .v (.str x)] []).loc = some (.v (.int 10)) := by kernel_rfl
 have lft : lk "frame_type" (aR (scp 35) ["self", "code", "frame_type", "text"] [.v (.ref e), .v (.int 10), .v (.int 0), .v (.str x)] []).loc = some (.v (.int 0)) := by kernel_rfl
 have ltext : lk "text" (aR (scp 35) ["self", "code", "frame_type", "text"] [.v (.ref e), .v (.int 10), .v (.int 0), .v (.str x)] []).loc = some (.v (.str x)) := by kernel_rfl
 obtain ⟨p1, p2, p3, p4, p5, p6, p7, p8, p9, p10, p11, p12, p13, p14, p15, p16, p17, p18, p19, p20, p21, p22, p23, p24, hb, hm⟩ := b35 X.w
 generalize (aR (scp 35) ["self", "code", "frame_type", "text"] [.v (.ref e), .v (.int 10), .v (.int 0), .v (.str x)] []) = σ at *
 rw [hb]
 have nstr : nsIn (tp.heap_1 X.w.params) mainGlobals "str" = some none := (noM _ 11 (by kernel_rfl)).2
 have nexc : nsIn (tp.heap_1 X.w.params) mainGlobals "Exception" = some none := (noM _ 12 (by kernel_rfl)).2
 refine wpAny_execs_cons (wpAny_Expr (yy rfl hm fun pl => ko O S kexc (by decide) (by decide) nexc (by rfl : bootBuiltins "Exception" = some (.type "Exception")) ?_) (aY O) rfl)
 obtain ⟨mf, ml, F, nz0, c1, c2, lz0⟩ := S.fr
 refine @method_type _ _ _ _ _ _ _ _ _ _ (.builtin "Exception.__init__") _ _ _ F O.K (by rfl) (by decide +kernel) (by rfl) (by decide +kernel) ?_
 refine PyProof.Rows.callWith_builtin1 ?_ rfl rfl
 have J : JL X p11 [.Name "self" p3, .BinOp (.BinOp (.Call (.Name "str" p4) [.Name "code" p5] [] p6) .Add (.Constant (.str ": ") 0 p7) p8) .Add (.Name "text" p9) p10] σ (fun as σ1 => σ1 = σ ∧ ∃ y, as = [.v (.ref e), .v (.str y)]) :=
  aH rfl (cm O kself (by decide) lself (aH rfl (wq O kstr kcode ktext lcode ltext nstr hx fun y => dB ⟨rfl, y, rfl⟩)))
 refine J ow ρ { s with toks := s.toks + 1 } S _ _ fun vs as σ1 ow1 ρ1 hz1 tk1 ez1 S1 rz1 kz1 => ?_
 obtain ⟨hσ, y, rfl⟩ := kz1
 rw [hσ] at S1
 refine hide fun Gz0 bk0 => ?_
 replace rz1 := rz1.i; obtain ⟨_, _, rfl, r, rs⟩ := rz1; replace rs := rs.i; obtain ⟨_, _, rfl, r2, rs⟩ := rs; replace rs := rs.i; obtain rfl := rs
 obtain rfl := r.inv.i
 obtain ⟨u2, rfl⟩ := r2.inv.str_inv
 obtain ⟨o, ws, t0, x1, x2, x3, x4, x5, x6⟩ := xo.o
 refine bk0 ?_; clear bk0 Gz0
 have y1 : hz1.get? e = some o := ez1.keep e o x1 H.r H.l H.L
 obtain ⟨hr1, H1⟩ : e ∉ ρ1 ∧ Hid X ow1 ρ1 e := by
  have z : e ∉ ρ1 := fun m => by
   rcases ez1.fresh e m with m | m
   ·exact H.r m
   ·have := x1; rw [m] at this; cases this
  exact ⟨z, ez1.own _ H.o, z, H.L, H.l, H.h⟩
 refine hide fun Gz0 bk0 => ?_
 obtain ⟨nm, qn, N, bs, sn, sub, ab, col, dd, k0, k1, k2, k3, k5, mN, hC, hN, hi, hno⟩ := kQ S1.kin
 refine bk0 ?_; clear bk0 Gz0
 refine Dr (o := o) PySem.F.excBase_Exception hC y1 x2 x4 x5 ?_ (show 1 ≤ sizeLine by decide +kernel)
 refine hide fun Gz0 bk0 => ?_
 obtain ⟨⟨oz2, ws2, z1, z2, z3, z4, z5, z6⟩, kp2⟩ := vR (T := { cls := .type "tuple", data := .seq [.str y u2].toArray }) (v := .ref hz1.objs.size) y1 x4 ⟨_, x5⟩ x6
 refine bk0 ?_; clear bk0 Gz0
 generalize hG : (hz1.push { cls := .type "tuple", data := .seq [.str y u2].toArray }).update e (Obj.mapFields (·.setIfInBounds 0 (.ref hz1.objs.size))) = hz2 at z1 kp2 ⊢
 have S2 : SR X ow1 ρ1 hz2 σ := S1.write [e] (fun b ob nb q => kp2 b ob (fun z => nb (by rw [z]; exact .head _)) q) (fun a m => by rw [List.mem_singleton.mp m]; exact H1) (fun a m => by rw [List.mem_singleton.mp m]; exact ⟨_, z1⟩)
 -- self.code
 refine wpAny_execs_cons (o0 (s := ⟨hz2, s.gens, s.drawn, tk1, s.os⟩) (mA := fun _ => none) (ns := []) O S2 kself kcode (by decide) lself lcode (by decide) qr z1 (z2.trans x2) z4 (.inl ⟨z3.trans x3, fun _ => rfl⟩) .nil (Nat.zero_le _) fun v1 hz3 tk3 dx rv1 a1 a2 a3 a4 a5 => ?_)
 obtain ⟨t1, rfl⟩ := rv1.int_inv
 have dn : hz2.get? dx = none := by
  rcases a1 with a1 | a1
  ·rw [z3.trans x3] at a1; cases a1
  ·exact a1.2
 have dEx : ∃ od, hz3.get? dx = some od := by obtain ⟨o', _, _, q, _⟩ := a4; exact ⟨o', q⟩
 have kp3 : ∀ b ob, b ≠ e → hz2.get? b = some ob → hz3.get? b = some ob := fun b ob nb q => a5 b ob nb (fun z => by rw [z, dn] at q; cases q) q
 have S3 := S2.writeNew z1 ⟨_, a2⟩ kp3 dn dEx H1
 have Hd := Hid.new S2 dn
 have He3 : Hid X (fun b => ow1 b ∨ b ∈ [dx]) ρ1 e := H1.up fun _ => .inl
 have hw2 : ∀ a ∈ [e, dx], Hid X (fun b => ow1 b ∨ b ∈ [dx]) ρ1 a := fun a m => by
  rcases jd m with rfl | m
  ·exact He3
  ·rw [List.mem_singleton.mp m]; exact Hd
 -- self.frame_type
 refine wpAny_execs_cons (o0 (s := ⟨hz3, s.gens, s.drawn, tk3, s.os⟩) (ns := ["code"]) O S3 kself kft (by decide) lself lft (by decide) DZ a2 (z2.trans x2) z4 (.inr ⟨dx, rfl, a3, a4⟩) (.cons _ _ .nil) (by decide) fun v2 hz4 tk4 dx' rv2 c1 c2 c3 c4 c5 => ?_)
 obtain rfl : dx = dx' := by rcases c1 with c1 | c1; exact Option.some.inj c1; cases c1.1
 have S4 := S3.write (h' := hz4) [e, dx] (fun b ob nb q => c5 b ob (fun z => nb (by rw [z]; exact .head _)) (fun z => nb (by rw [z]; exact .tail _ (.head _))) q) hw2 (fun a m => by
  rcases jd m with rfl | m
  ·exact ⟨_, c2⟩
  ·rw [List.mem_singleton.mp m]; obtain ⟨o', _, _, q, _⟩ := c4; exact ⟨o', q⟩)
 -- self.text
 refine wpAny_execs_cons (o0 (s := ⟨hz4, s.gens, s.drawn, tk4, s.os⟩) (ns := ["frame_type", "code"]) O S4 kself ktext (by decide) lself ltext (by decide) vZ c2 (z2.trans x2) z4 (.inr ⟨dx, rfl, c3, c4⟩) (.cons _ _ (.cons _ _ .nil)) (by decide) fun v3 hz5 tk5 dx' rv3 d1 d2 d3 d4 d5 => ?_)
 obtain rfl : dx = dx' := by rcases d1 with d1 | d1; exact Option.some.inj d1; cases d1.1
 refine wpAny_execs_nil (q hz5 tk5 dx (fun b ob nb n1 n2 n3 q => ?_) ?_ ⟨⟨_, ws2, _, d2, z2.trans x2, rfl, z4, z5, z6⟩⟩ d3 ⟨_, t1, d4.ns, rfl⟩)
 ·have qz1 := ez1.keep b ob q n1 n3 n2
  have qz2 := kp2 b ob nb qz1
  have nd : b ≠ dx := fun z => by rw [z, dn] at qz2; cases qz2
  exact d5 b ob nb nd (c5 b ob nb nd (kp3 b ob nb qz2))
 ·have : hz1.get? dx = none := by
   cases z : hz1.get? dx with
   | none => rfl
   | some od =>
    by_cases y : dx = e
    ·exact absurd y d3
    ·have := kp2 dx od y z; rw [dn] at this; cases this
  exact ez1.gone this
end
section
theorem EU (w : World) : aD 35 w := ⟨_, _, _, _, _, _, _, _, _, rfl, by kernel_rfl⟩
theorem y9 (w : World) : Bnd (prm 35) ["self", "code", "frame_type", "text"] := AS fun _ _ _ _ _ => by kernel_rfl
theorem Fv (w : World) : ∃ o, (tp.heap_1 w.params).lookup 35 = some o ∧ o.cls = .type "function" := ⟨_, rfl, by kernel_rfl⟩
theorem Fl (w : World) : (hO ((c8 (scp 35)).map (·.1)) && tu (scp 35) ["self", "code", "frame_type", "text"] && ((scp 35).kind == .function && !(scp 35).isCoroutine && !(scp 35).isGenerator)) = true := by kernel_rfl
theorem xP {X : Fx} (O : X.Ok) {σ : SS} {ow : Addr → Prop} {ρ : List Addr} {s : Shared} (S : SR X ow ρ s.heap σ) (hdp : X.dp + 2 < recursionLimit) (hun : X.un + 14 < cLine) {t1 t2 t3 : Tok} {x : Str} (hx : x.length ≤ 1000) {Q E : Value → Shared → Prop}
  (q : ∀ e dx h' tk', (∀ b o, s.heap.get? b = some o → h'.get? b = some o) → s.heap.get? e = none → s.heap.get? dx = none → ExO h' e (some dx) → dx ≠ e → (sK dx h') → Q (.ref e) { s with heap := h', toks := tk' }) :
  wpAny (model af X.w) X.A (call (.ref 38) [.int 10 t1, .int 0 t2, .str x t3]) Q E s := by
 refine hide fun Gz0 bk0 => ?_
 obtain ⟨nm, qn, N, bs, sn, sub, ab, col, dd, k0, k1, k2, k3, k5, mN, hC, hN, hi, hno⟩ := kQ S.kin
 obtain ⟨oI, hfI, hfc⟩ := Fv X.w
 obtain ⟨hh, gg, dr, tt, oo⟩ := s
 refine bk0 ?_; clear bk0 Gz0
 refine wpAny_call_exc_init PySem.F.excBase_Exception hC hN hi (S.kin _ _ hfI) hfc (fun h' e hm => ?_) (show 3 ≤ sizeLine by decide +kernel)
 rw [kK]
 generalize hX : ({ X with dp := X.dp + 1, un := X.un + 1, D := X.D - 1, U := X.U - 1 } : Fx) = X1
 have room := O.room
 have units := O.units
 have O1 : X1.Ok := by
  subst hX
  exact { below := O.below, K := O.K, T := O.T, ck := O.ck, kind := O.kind, glob := O.glob, bins := O.bins, here := O.here, there := O.there, room := (by dsimp only; omega), units := (by dsimp only; omega) }
 obtain ⟨t0, he, ht0, _⟩ := hm.there
 have S1 : SR X1 (fun b => ow b ∨ b ∈ [e]) ρ h' σ := by
  subst hX
  have S2 := (S.hideUp (h' := h') [e] hm.keeps (fun a m => by rw [List.mem_singleton.mp m]; exact ⟨hm.new, _, he⟩)).1
  exact ⟨S2.fr, S2.len, S2.cel, S2.nd, S2.off, S2.owL, S2.owl, S2.low, S2.var, S2.kf⟩
 have hA : X1.A = { X.A with depth := X.A.depth + 1, units := X.A.units + 1 } ∧ X1.w = X.w ∧ X1.dp = X.dp + 1 ∧ X1.un = X.un + 1 ∧ X1.hz0 = X.hz0 ∧ X1.L = X.L := by subst hX; exact ⟨rfl, rfl, rfl, rfl, rfl, rfl⟩
 refine hide fun Gz0 bk0 => ?_
 obtain ⟨hA, hw, hdp1, hun1, hh0, hL⟩ := hA
 refine bk0 ?_; clear bk0 Gz0
 rw [← hA]
 have c := Fl X.w
 have nl : ∀ a o, hh.get? a = some o → e ≠ a := fun a o z y => by rw [← y, hm.new] at z; cases z
 have N' : News X1.hz0 X1.L h' [(e, _)] := fun p hp => by
  rw [List.mem_singleton.mp hp]
  obtain ⟨mf, ml, F, n, c1, c2, l⟩ := S.fr
  obtain ⟨oL, zL⟩ := S.low _ S.owL
  refine ⟨he, by rw [hL]; exact nl _ _ zL, ?_⟩
  rw [hh0]
  cases z : X.hz0.get? e with
  | none => rfl
  | some o => exact absurd rfl (nl _ _ (F.keep _ _ z))
 refine wpAny_call (j5 (w := X.w) (f := 35) (D := 0) (U := 10) (ns := ["self", "code", "frame_type", "text"]) (EU X.w) (y9 X.w) c
  X1 O1 hw (by omega) (by omega) _ ρ σ ⟨h', gg, dr, tt, oo⟩ S1 [] [] [.ref e, .int 10 t1, .int 0 t2, .str x t3] [.v (.ref e), .v (.int 10), .v (.int 0), .v (.str x)] List.nodup_nil (fun a m => by cases m) ⟨rfl, fun i a o f1 f2 => by cases f1⟩
  (.cons (.v (.ref e)) (.cons (.v (.int _ _)) (.cons (.v (.int _ _)) (.cons (.v (.str _ _)) .nil)))) rfl [e] [(e, _)] N' rfl (fun a m => by cases m) (fun a m => .inr m) _ ?_)
 intro X' ca hz1 tk ⟨O', hw', hD, hU, ag, hout, hbase, hh, hL', hcomp, hA', hfr, hme, keep1, caBig, S'⟩
 have hes : e < h'.objs.size := Heap.lt_size he
 have loc : X'.env.locals = X'.L := O'.here hcomp
 have H : Hid X' (fun b => (ow b ∨ b ∈ [e]) ∨ b = h'.objs.size ∨ b ∈ ca) ([] ++ ca) e := ⟨.inl (.inr (.head _)), fun m => by
  rw [List.nil_append] at m; exact Nat.lt_irrefl _ (Nat.lt_trans hes (caBig e m)), by rw [hL']; exact Nat.ne_of_lt hes, by rw [loc, hL']; exact Nat.ne_of_lt hes, by rw [hh]; exact hideAll_none _ (.head _)⟩
 rw [← hw']
 refine qN O' ag S' H hx ⟨⟨_, _, t0, keep1 _ _ he, rfl, rfl, rfl, rfl, rfl⟩⟩ fun hz2 tk2 dx kp dn xo de cd => ?_
 refine ⟨rfl, q e dx hz2 tk2 (fun b o z => ?_) hm.new ?_ xo de cd⟩
 ·have bl := Heap.lt_size (hm.keeps b o z)
  refine kp b o (Ne.symm (nl b o z)) (fun m => ?_) (by rw [hL']; exact Nat.ne_of_lt bl) (by rw [loc, hL']; exact Nat.ne_of_lt bl) (keep1 b o (hm.keeps b o z))
  rw [List.nil_append] at m; exact Nat.lt_irrefl _ (Nat.lt_trans bl (caBig b m))
 ·show Heap.get? _ dx = none
  cases z : Heap.get? _ dx with
  | none => rfl
  | some o => have := keep1 _ _ (hm.keeps _ _ z); rw [dn] at this; cases this
end
section
noncomputable abbrev Fx.me (X : Fx) : Env := envX X.cn X.cs X.L X.fa X.ccd X.cl
inductive cM (X : Fx) (e : Addr) (h : Heap) : Prop
 | mk (g : Heap) (dx : Addr) (fl : Option Value) (_ : fl = none ∨ fl = some .none ∨ fl = some (rawInt X.L)) (_ : ∀ b o, X.hz0.get? b = some o → g.get? b = some o) (_ : ∃ m, g.Ns X.L m) (_ : Fly g (X.me :: X.outer) 38 e dx fl h)
noncomputable def JSR (X : Fx) (st : Stmt) (σ : SS) : Prop := ∀ ow ρ s, SR X ow ρ s.heap σ → ∀ (Q : Flow → Shared → Prop) (E : Value → Shared → Prop), (∀ e h' tk', cM X e h' → E (.ref e) { s with heap := h', toks := tk' }) → wpAny (model af X.w) X.A (exec st X.env) Q E s
noncomputable def JER (X : Fx) (x : Expr) (σ : SS) : Prop := ∀ ow ρ s, SR X ow ρ s.heap σ → ∀ (Q : Value → Shared → Prop) (E : Value → Shared → Prop), (∀ e h' tk', cM X e h' → E (.ref e) { s with heap := h', toks := tk' }) → wpAny (model af X.w) X.A (eval x X.env) Q E s
noncomputable def JBR (X : Fx) (st : List Stmt) (σ : SS) : Prop := ∀ ow ρ s, SR X ow ρ s.heap σ → ∀ (Q : Flow → Shared → Prop) (E : Value → Shared → Prop), (∀ e h' tk', cM X e h' → E (.ref e) { s with heap := h', toks := tk' }) → wpAny (model af X.w) X.A (execs st X.env) Q E s
section
variable {X : Fx} {σ : SS}
theorem cv {st : Stmt} {rest : List Stmt} (h : JSR X st σ) : JBR X (st :: rest) σ := fun ow ρ s S Q E q => wpAny_execs_cons (h ow ρ s S _ _ q)
theorem tW {st : Stmt} {rest : List Stmt} (h : JS X st σ fun f σ1 => f = .next ∧ JBR X rest σ1) : JBR X (st :: rest) σ := by
 intro ow ρ s S Q E q
 refine wpAny_execs_cons (h ow ρ s S _ _ fun a sa σ1 ow1 ρ1 hz1 tk1 ez1 S1 rz1 kz1 => ?_)
 obtain ⟨rfl, kz1⟩ := kz1
 cases rz1
 exact kz1 ow1 ρ1 { s with heap := hz1, toks := tk1 } S1 _ _ q
theorem uw {t : Expr} {a b : List Stmt} {pos : Pos} (h : JT X t σ fun c σ1 => Br c (JBR X a σ1) (JBR X b σ1)) : JSR X (.If t a b pos) σ := by
 intro ow ρ s S Q E q
 refine wpAny_If (h ow ρ s S _ _ fun c sc σ1 ow1 ρ1 hz1 tk1 ez1 S1 rz1 kz1 => ?_)
 obtain rfl : c = sc := rz1
 induction c using Bool.casesOn with
 | true => exact kz1 ow1 ρ1 { s with heap := hz1, toks := tk1 } S1 _ _ q
 | false => exact kz1 ow1 ρ1 { s with heap := hz1, toks := tk1 } S1 _ _ q
theorem jy {x : Expr} {pos : Pos} (hi : interactive X.env = false) (hs : swapsWith x none pos.line X.env = pure false) (h : JER X x σ) : JSR X (.Expr x pos) σ := fun ow ρ s S Q E q => wpAny_Expr (h ow ρ s S _ _ q) hi hs
theorem DM (O : X.Ok) {ow : Addr → Prop} {ρ : List Addr} {h : Heap} (S : SR X ow ρ h σ) : h.FunFrames X.base (X.me :: X.outer) := by
 refine hide fun Gz0 bk0 => ?_
 obtain ⟨mf, ml, F, n, c1, c2, l⟩ := S.fr
 have f := O.below.frames
 obtain ⟨o, es, ep, ho, hd, _⟩ := F.ns
 refine bk0 ?_; clear bk0 Gz0
 refine ⟨by show X.cs.kind ≠ .module; rw [O.ck]; decide, ⟨X.L, o, rfl, ?_, ho, fun vs z => by rw [hd] at z; cases z⟩, f.of_keeps fun b o z _ => ⟨o, F.keep b o z, rfl⟩⟩
 cases z : X.base.get? X.L with
 | none => rfl
 | some o' =>
  have := kts_self F
  rw [O.below.stays _ _ z] at this; cases this
theorem cM.made (O : X.Ok) {ow : Addr → Prop} {ρ : List Addr} {h h' : Heap} {e dx : Addr} (S : SR X ow ρ h σ) (kp : ∀ b o, h.get? b = some o → h'.get? b = some o) (en : h.get? e = none) (dn : h.get? dx = none) (xo : ExO h' e (some dx)) (de : dx ≠ e) (cd : sK dx h') : cM X e h' := by
 refine hide fun Gz0 bk0 => ?_
 obtain ⟨mf, ml, F, n, c1, c2, l⟩ := S.fr
 obtain ⟨o, vs, t0, x1, x2, x3, x4, x5, x6⟩ := xo.o
 refine bk0 ?_; clear bk0 Gz0
 have ff := DM O S
 refine ⟨h, dx, none, .inl rfl, F.keep, ⟨mf, F.ns⟩, ⟨⟨fun b o z _ => kp b o z, fun b o z _ => ⟨o.slots, kp b o z⟩⟩, ⟨X.base, ff.of_keeps fun b o z _ => ⟨o, kp b o z, rfl⟩⟩, en, dn, Ne.symm de, fun m => ?_, ⟨o, vs, x1, x2, x3, x4, x6⟩, cd⟩⟩
 obtain ⟨_, o', z, _⟩ := ff.mem m
 rw [dn] at z; cases z
theorem kC (O : X.Ok) {a0 : Expr} {args : List Expr} {np cpos pos : Pos} (hs : az (a0 :: args) = true) (hx : X.env.kindOf "QuicError" = some .globalImplicit) (hD : 2 ≤ X.D) (hU : 14 ≤ X.U)
  (h : JL X cpos (a0 :: args) σ fun as σ1 => ∃ x, as = [.v (.int 10), .v (.int 0), .v (.str x)] ∧ x.length ≤ 1000) : JSR X (.Raise (some (.Call (.Name "QuicError" np) (a0 :: args) [] cpos)) none pos) σ := by
 intro ow ρ s S Q E q
 have room := O.room
 have units := O.units
 rw [arm_exec_Raise]
 refine wpAny_bind (wpAny_standAt ?_)
 refine wpAny_bind (wpAny_bind (Call_ (g9 O S hx (by decide) (v := .ref 38) (by kernel_rfl) ?_)))
 refine callWith_K S.kin (by kernel_rfl) ?_ (am hs) (aC (aZ hs))
 refine h ow ρ s S _ _ fun vs as σ1 ow1 ρ1 hz1 tk1 ez1 S1 rz1 kz1 => ⟨S1.kin, ?_⟩
 obtain ⟨x, rfl, hz⟩ := kz1
 refine hide fun Gz0 bk0 => ?_
 replace rz1 := rz1.i; obtain ⟨_, _, rfl, ra, rs⟩ := rz1; replace rs := rs.i; obtain ⟨_, _, rfl, rb, rs⟩ := rs; replace rs := rs.i; obtain ⟨_, _, rfl, rc, rs⟩ := rs; replace rs := rs.i; obtain rfl := rs
 obtain ⟨t1, rfl⟩ := ra.inv.int_inv
 obtain ⟨t2, rfl⟩ := rb.inv.int_inv
 obtain ⟨t3, rfl⟩ := rc.inv.str_inv
 refine bk0 ?_; clear bk0 Gz0
 refine xP (s := { s with heap := hz1, toks := tk1 }) O S1 (by lia) (by lia) hz fun e dx hz2 tk2 kp en dn xo de cd => ?_
 refine wpAny_bind (wpAny_standAt (wpAny_pure ?_))
 have fin := q e hz2 tk2 (cM.made O S1 kp en dn xo de cd)
 refine hide fun Gz0 bk0 => ?_
 obtain ⟨o, ws, t0, x1, x2, x3, x4, x5, x6⟩ := xo.o
 obtain ⟨nm, qn, N, bs, sn, sub, ab, col, dd, k0, k1, k2, k3, k5, mN, hC, hN, hi, hno⟩ := kQ S1.kin
 have hC := kp _ _ hC
 have hcB : (Value.ref 38 :: yS).contains (.type "BaseException") = true := by decide +kernel
 obtain ⟨hh, gg, dr, tt, oo⟩ := s
 refine bk0 ?_; clear bk0 Gz0
 wp_delta
 with_reducible refine wpAny_bind ?_
 with_reducible refine wpAny_pure ?_
 with_reducible refine wpAny_bind ?_
 with_reducible refine wpAny_holding ?_
 wp_delta
 with_reducible refine wpAny_bind ?_
 wp_delta
 with_reducible refine wpAny_bind ?_
 wp_delta
 with_reducible refine wpAny_bind ?_
 wp_delta
 with_reducible refine wpAny_loadPart_at x1 ?_; rw [x4]
 with_reducible refine wpAny_pure ?_
 (with_reducible apply wpAny_ite_false); focus (rfl; done)
 with_reducible refine wpAny_pure ?_
 (with_reducible apply wpAny_ite_false); focus (rfl; done)
 with_reducible refine wpAny_bind ?_
 wp_delta
 with_reducible refine wpAny_bind ?_
 wp_delta
 with_reducible refine wpAny_bind ?_
 with_reducible refine wpAny_loadPart_at x1 ?_; rw [x2]
 with_reducible refine wpAny_pure ?_
 with_reducible refine wpAny_isSubtype_exc hC ?_; rw [hcB]
 (with_reducible apply wpAny_ite_true); focus (rfl; done)
 with_reducible refine wpAny_pure ?_
 with_reducible refine wpAny_bind ?_
 wp_delta
 with_reducible refine wpAny_bind ?_
 wp_delta
 with_reducible refine wpAny_loadPart_at x1 ?_; rw [x4]
 with_reducible refine wpAny_pure ?_
 (with_reducible apply wpAny_ite_false); focus (rfl; done)
 with_reducible refine wpAny_bind ?_
 wp_delta
 with_reducible refine wpAny_bind ?_
 wp_delta
 with_reducible refine wpAny_bind ?_
 with_reducible refine wpAny_loadPart_at x1 ?_; rw [x2]
 with_reducible refine wpAny_pure ?_
 with_reducible refine wpAny_bind ?_
 wp_delta
 with_reducible refine wpAny_bind ?_
 with_reducible refine wpAny_loadPart_at hC ?_
 with_reducible refine wpAny_pure ?_
 (with_reducible apply wpAny_ite_true); focus (rfl; done)
 with_reducible refine wpAny_pure ?_
 with_reducible refine wpAny_bind ?_
 wp_delta
 with_reducible refine wpAny_bind ?_
 wp_delta
 with_reducible refine wpAny_bind ?_
 wp_delta
 with_reducible refine wpAny_bind ?_
 (with_reducible apply wpAny_load'); focus (heap_get; done)
 rw [x4]
 refine wpAny_pure ?_
 rw [x6]
 refine wpAny_pure ?_
 rw [if_neg (by decide)]
 refine wpAny_pure ?_
 exact wpAny_raiseNew_none rfl fin
end
end
section
theorem Fly.mono {g g' h : Heap} {l : List Env} {C e dx : Addr} {fl : Option Value} (up : ∀ b o, g.get? b = some o → g'.get? b = some o) (F : Fly g' l C e dx fl h) : Fly g l C e dx fl h := by
 have dn : ∀ b, g'.get? b = none → g.get? b = none := fun b z => by
  cases y : g.get? b with
  | none => rfl
  | some o => have := up _ _ y; rw [z] at this; cases this
 refine hide fun Gz0 bk0 => ?_
 obtain ⟨kp, ff, en, dd, ed, dl, ⟨oe, vs, he, hc, hdx, hd, ht⟩, cd⟩ := F
 refine bk0 ?_; clear bk0 Gz0
 refine ⟨⟨fun b o z => kp.keep b o (up b o z), fun b o z => kp.slot b o (up b o z)⟩, ff, dn e en, dn dx dd, ed, dl, ⟨oe, vs, he, hc, hdx, hd, ?_⟩, cd⟩
 induction fl using Option.casesOn with
 | none => exact ht
 | some f => obtain ⟨T, oT, ts, h1, gT, r⟩ := ht; exact ⟨T, oT, ts, h1, dn T gT, r⟩
noncomputable def cI (w : World) (f : Addr) (D U : Nat) (sp : List AV → Prop) : Prop :=
 ∀ (X : Fx), X.Ok → X.w = w → X.dp + D < recursionLimit → X.un + U < cLine → ∀ (ow : Addr → Prop) (ρ : List Addr) (σ : SS) (s : Shared), SR X ow ρ s.heap σ →
 ∀ (vs : List Value) (as : List AV), ARs (Pz s.heap ow) w [] vs as → sp as → ∀ (Q E : Value → Shared → Prop), (∀ e h' tk', cM X e h' → E (.ref e) { s with heap := h', toks := tk' }) → wpAny (model af w) X.A (call (.ref f) vs) Q E s
theorem cI.of_body {w : World} {f : Addr} {D U : Nat} {sp : List AV → Prop} {qual : Str} {params : Arguments} {body : List Stmt} {sc : Scope} {ns : List Str}
  (hf : gZ w f qual params body sc) (hb : Bnd params ns)
  (hc : dq sc ns)
  (hlen : ∀ as, sp as → as.length = ns.length)
  (h : ∀ (X : Fx) (as : List AV), X.Ok → X.w = w → X.D = D → X.U = U → Agr X (gU sc 0) → X.env = X.me → sp as → JBR X body (aR sc ns as [])) : cI w f (D + 1) (U + 3) sp := by
 intro X O hw hdp hun ow ρ σ s S vs as R hsp Q E q
 refine wpAny_call (nS hf hb hc
  X O hw hdp hun ow ρ σ s S [] [] vs as List.nodup_nil (fun a m => by cases m) ⟨rfl, fun i a o f1 f2 => by cases f1⟩ R (hlen _ hsp) _ ?_)
 intro X' ca hz1 tk ⟨O', hw', hD, hU, ag, hout, hbase, hh, hL, hcomp, hA, hfr, hme, keep1, caBig, S'⟩
 have J := h X' as O' hw' hD hU ag hme hsp _ _ { s with heap := hz1, toks := tk } S' (fun fl s' => False) (fun e s' => wpAny (model af w) X'.A (leaving X'.env e) (fun _ s'' => E e s'') (fun e' s'' => E e' s'') s') fun e h' tk' R => ?_
 ·rw [hw'] at J
  exact wpAny_mono J (fun _ _ z => z.elim) fun _ _ z => z
 refine hide fun Gz0 bk0 => ?_
 obtain ⟨g, dx, fl, hfl, hg, _, F⟩ := R
 obtain ⟨mf, ml, Fr0, n, c1, c2, l⟩ := S.fr
 refine bk0 ?_; clear bk0 Gz0
 rw [hme]
 refine iM (s := { s with heap := h', toks := tk' }) (env := X'.me) (outer := X'.outer) rfl rfl (F.mono hg) hfl ?_ fun h'' F'' => q e h'' tk' ⟨s.heap, dx, some .none, .inr (.inl rfl), Fr0.keep, ⟨mf, Fr0.ns⟩, ?_⟩
 ·rw [hh, hL]; exact aA s.heap
 ·rw [hh, hout] at F''
  exact F''
section
variable {X : Fx} {σ : SS}
theorem jl (O : X.Ok) {f : Addr} {D U : Nat} {sp : List AV → Prop} {x : Str} {px pos : Pos} {a : Expr} {args : List Expr} (hf : cI X.w f D U sp) (hD : D ≤ X.D) (hU : U ≤ X.U) (hs : az (a :: args) = true) (hk : keepIn (tp.heap_1 X.w.params) (.ref f) = true)
  (hx : X.env.kindOf x = some .globalImplicit) (hd : (x == ("__debug__" : Str)) = false) (e : nsIn (tp.heap_1 X.w.params) mainGlobals x = some (some (.ref f)))
  (h : JL X pos (a :: args) σ fun as σ1 => du as = true ∧ sp as) : JER X (.Call (.Name x px) (a :: args) [] pos) σ := by
 intro ow ρ s S Q E q
 have room := O.room
 have units := O.units
 refine Call_ (g9 O S hx hd e ?_)
 refine callWith_K S.kin hk ?_ (am hs) (aC (aZ hs))
 refine h ow ρ s S _ _ fun vs as σ1 ow1 ρ1 hz1 tk1 ez1 S1 rz1 kz1 => ⟨S1.kin, ?_⟩
 exact hf X O rfl (by lia) (by lia) ow1 ρ1 σ1 { s with heap := hz1, toks := tk1 } S1 vs as (rz1.plain kz1.1) kz1.2 _ _ q
noncomputable def pW (X : Fx) (target : Expr) (body : List Stmt) : List SV → SS → Prop
 | [], σ => False
 | d :: ds, σ => JA X target (.v d) σ (fun σ1 => JBR X body σ1) ∨ JA X target (.v d) σ (fun σ1 => JB X body σ1 fun f σ2 => f = .next ∧ pW X target body ds σ2)
theorem vQ {target iter : Expr} {body : List Stmt} {pos : Pos} (O : X.Ok) (hme : X.env = X.me) (hs : ∀ x, foldedSetIterable iter X.env x = pure x) (h : JE X iter σ fun a σ1 => ∃ its, eM X a σ1 its ∧ pW X target body its σ1) : JSR X (.For target iter body [] pos) σ := by
 intro ow ρ s S Q E q
 refine wpAny_For (h ow ρ s S _ _ fun a sa σ1 ow1 ρ1 hz1 tk1 ez1 S1 rz1 kz1 => ?_) hs
 obtain ⟨its, hi, jf⟩ := kz1
 refine hi ow1 ρ1 { s with heap := hz1, toks := tk1 } a S1 rz1 _ _ fun o fp P St hof it st0 => ?_
 obtain ⟨S2, ez2⟩ := S1.hide o hof
 -- what comes back out of the loop
 have back : ∀ e h' tk', cM X e h' → notedBy (model af X.w) X.A X.env (fun e s' => cameBackBy (model af X.w) X.A X.env E e s') (.ref e) { s with heap := h', toks := tk' } := fun e h' tk' R => by
  refine hide fun Gz0 bk0 => ?_
  obtain ⟨g, dx, fl, hfl, hg, hm, F⟩ := R
  refine bk0 ?_; clear bk0 Gz0
  rw [hme]
  refine d8 (s := { s with heap := h', toks := tk' }) (env := X.me) (outer := X.outer) rfl rfl F hfl fun hz2 F2 => ?_
  refine hide fun Gz0 bk0 => ?_
  obtain ⟨oe, vs, he, hc, hdx, hd, T, oT, ts, y1, gT, hTe, hTd, hT, hdT, h3⟩ := F2.eo
  refine bk0 ?_; clear bk0 Gz0
  refine wpAny_bind (wpAny_field (s := { s with heap := hz2, toks := tk' }) he hd y1 ?_)
  rw [if_neg (show ¬ ((Value.ref T == Value.none) = true) from by simp)]
  exact bM (s := { s with heap := hz2, toks := tk' }) F2 fun hz3 F3 => q e hz3 tk' ⟨g, dx, _, .inr (.inr rfl), hg, hm, F3⟩
 refine codeAny_forLoop_any (sk X ow1 ρ1 hz1 s St its fun ds σ => pW X target body ds σ) (fun n s' inv => ?_) its.length (.mk (i := 0) (Nat.zero_le _) S2 ez2 st0 (.inr rfl) (S1.frA (aA hz1)).r jf)
 refine nB S1 it inv (fun _ _ _ _ _ _ _ j => j.elim) fun v d ds ow' ρ' h' tk' σ' oI S' rv eI qI j again => ?_
 refine eY (s := { s with heap := h', toks := tk' }) eI qI ?_
 rcases j with j | j
 ·exact j ow' ρ' { s with heap := h', toks := tk' } v S' rv _ _ fun _ _ σ3 ow3 ρ3 hz3 tk3 ez3 S3 _ kz3 => kz3 ow3 ρ3 { s with heap := hz3, toks := tk3 } S3 _ _ back
 ·refine j ow' ρ' { s with heap := h', toks := tk' } v S' rv _ _ fun _ _ σ3 ow3 ρ3 hz3 tk3 ez3 S3 _ kz3 => ?_
  refine kz3 ow3 ρ3 { s with heap := hz3, toks := tk3 } S3 _ _ fun f sf σ4 ow4 ρ4 hz4 tk4 ez4 S4 rz4 kz4 => ?_
  obtain ⟨rfl, kz4⟩ := kz4
  cases rz4 with
  | next => exact (again _ _ _ tk4 _ (ez3.trans ez4) S4).2 kz4
end
end
section
theorem ss (f : Fm) : (kn f).length ≤ 30 := by induction f using Fm.casesOn <;> exact Nat.le_of_ble_eq_true (by kernel_rfl)
theorem t5 (p : Pk) : p.long.length ≤ 30 := by induction p using Pk.casesOn <;> decide +kernel
theorem nG {x y : Str} (hx : x.length ≤ 200) (hy : y.length ≤ 200) : x.length + y.length ≤ sizeLine := by
 have : (400 : Nat) ≤ sizeLine := by decide +kernel
 lia
theorem f4 (x y : Str) : (x ++ y).length = x.length + y.length := by first | exact Str.length_append x y | exact Str.length_append | simp
inductive lU : List AV → List aa → (SV → List aa → Prop) → Prop
 | mk {y : Str} {z : Int} {x : SV} {cel : List aa} {K : SV → List aa → Prop} (f : Fm) (p : Pk) (_ : x = f.sv) (_ : y = p.long) (_ : z = 0) (_ : cel = []) (_ : jF f p = true) (_ : K .none []) : lU [.v x, .v (.str y), .v (.int z)] cel K
inductive lO : List AV → List aa → (SV → List aa → Prop) → Prop
 | mk {y : Str} {z : Int} {x : SV} {cel : List aa} {K : SV → List aa → Prop} (f : Fm) (c : Bool) (_ : x = f.sv) (_ : y = b0 c) (_ : z = 0) (_ : cel = []) (_ : gf f c = true) (_ : K .none []) : lO [.v x, .v (.str y), .v (.int z)] cel K
noncomputable def yT : List AV → Prop := fun as => ∃ (f : Fm) (p : Pk), as = [.v f.sv, .v (.str p.long), .v (.int 0)] ∧ jF f p = false
noncomputable def zG : List AV → Prop := fun as => ∃ (f : Fm) (c : Bool), as = [.v f.sv, .v (.str (b0 c)), .v (.int 0)] ∧ gf f c = false
noncomputable def rT : Tb := { glob := [("PROTOCOL_VIOLATION", .int 10), ("may_stand", .ref 275)], fn := [(275, jj)], fnG := [], cls := [], field := [], meth := [] }
theorem ub (w : World) : Rn lU rT 200 318 [] ["f", "packet", "frame_type"] w := fun as cel K h => by
 refine hide fun Gz0 bk0 => ?_
 obtain ⟨f, p, rfl, rfl, rfl, rfl, hm, k⟩ := h
 refine bk0 ?_; clear bk0 Gz0
 refine jj.mk f p rfl rfl rfl ?_
 rw [hm]
 exact k
theorem x0 (w : World) : aD 318 w := ⟨_, _, _, _, _, _, _, _, _, rfl, by kernel_rfl⟩
theorem pZ (w : World) : Bnd (prm 318) ["f", "packet", "frame_type"] := rq fun _ _ _ _ => by kernel_rfl
theorem AM (w : World) : aj w 318 2 16 lU :=
 aj.at (ns := ["f", "packet", "frame_type"]) (T := rT) (U := 13) (D := 1) 318 [] 200 (x0 w) (pZ w) (by kernel_rfl) (fun as cel K h => by
  induction h using lU.casesOn; rfl) (aJ (.cons (sq w) (.cons (B2 w) .nil)) (.cons (yz w) rfl rfl (by kernel_rfl) .nil) .nil .nil .nil) (by decide) (ub w)
noncomputable def si : Tb := { glob := [("PROTOCOL_VIOLATION", .int 10), ("SERVER_ALONE", fL)], fn := [], fnG := [], cls := [], field := [], meth := [] }
theorem sH (w : World) : Rn lO si 200 325 [] ["f", "sender", "frame_type"] w := fun as cel K h => by
 refine hide fun Gz0 bk0 => ?_
 obtain ⟨f, c, rfl, rfl, rfl, rfl, hm, k⟩ := h
 refine bk0 ?_; clear bk0 Gz0
 induction f using Fm.casesOn
 case newToken =>
  induction c using Bool.casesOn
  ·exact k
  ·cases hm
 case done =>
  induction c using Bool.casesOn
  ·exact k
  ·cases hm
 all_goals
  exact k
theorem yi (w : World) : aD 325 w := ⟨_, _, _, _, _, _, _, _, _, rfl, by kernel_rfl⟩
theorem qB (w : World) : Bnd (prm 325) ["f", "sender", "frame_type"] := rq fun _ _ _ _ => by kernel_rfl
theorem CX (w : World) : aj w 325 1 13 lO :=
 aj.at (ns := ["f", "sender", "frame_type"]) (T := si) (U := 10) (D := 0) 325 [] 200 (yi w) (qB w) (by kernel_rfl) (fun as cel K h => by
  induction h using lO.casesOn; rfl) (aJ (.cons (sq w) (.cons (g_7 w) .nil)) .nil .nil .nil .nil) (by decide) (sH w)
theorem zs (w : World) : dq (scp 318) ["f", "packet", "frame_type"] := by kernel_rfl
theorem za (w : World) : dq (scp 325) ["f", "sender", "frame_type"] := by kernel_rfl
inductive qa (w : World) : Prop
 | mk (q1 q2 q3 q4 q5 p1 p2 p3 p4 p5 p6 p7 p8 p9 p10 p11 p12 p13 p14 p15 : Pos) (_ : bd 318 = [.If (.UnaryOp .Not (.Call (.Name "may_stand" q1) [.Name "f" q2, .Name "packet" q3] [] q4) q5) [.Raise (some (.Call (.Name "QuicError" p1) [.Name "PROTOCOL_VIOLATION" p2, .Name "frame_type" p3, .BinOp (.BinOp (.BinOp (.Constant (.str "a ") 0 p4) .Add (.Subscript (.Name "f" p5) (.Constant (.int 0) 0 p6) p7) p8) .Add (.Constant (.str " frame in a packet of kind ") 0 p9) p10) .Add (.Name "packet" p11) p12] [] p13)) none p14] [] p15]) : qa w
theorem EK (w : World) : qa w := ⟨_, _, _, _, _, _, _, _, _, _, _, _, _, _, _, _, _, _, _, _, rfl⟩
inductive qk (w : World) : Prop
 | mk (q1 q2 q3 q4 q5 q6 q7 q8 q9 p1 p2 p3 p4 p5 p6 p7 p8 p9 p10 p11 p12 p13 : Pos) (_ : bd 325 = [.If (.BoolOp .And [.Compare (.Subscript (.Name "f" q1) (.Constant (.int 0) 0 q2) q3) [.In] [.Name "SERVER_ALONE" q4] q5, .Compare (.Name "sender" q6) [.NotEq] [.Constant (.str "server") 0 q7] q8] q9) [.Raise (some (.Call (.Name "QuicError" p1) [.Name "PROTOCOL_VIOLATION" p2, .Name "frame_type" p3, .BinOp (.BinOp (.Constant (.str "a client sent a ") 0 p4) .Add (.Subscript (.Name "f" p5) (.Constant (.int 0) 0 p6) p7) p8) .Add (.Constant (.str " frame") 0 p9) p10] [] p11)) none p12] [] p13]) : qk w
theorem ES (w : World) : qk w := ⟨_, _, _, _, _, _, _, _, _, _, _, _, _, _, _, _, _, _, _, _, _, _, rfl⟩
theorem BI (w : World) : cI w 318 3 17 yT := by
 refine cI.of_body (D := 2) (U := 14) (ns := ["f", "packet", "frame_type"]) (x0 w) (pZ w) (zs w) (fun as h => by obtain ⟨f, p, rfl, _⟩ := h; rfl) fun X as O hw hD hU ag hme h => ?_
 refine hide fun Gz0 bk0 => ?_
 obtain ⟨f, p, rfl, hm⟩ := h
 have tb : iy X.w X.D X.U rT := by rw [hw, hD, hU]; exact (aJ (.cons (sq w) (.cons (B2 w) .nil)) (.cons (yz w) rfl rfl (by kernel_rfl) .nil) .nil .nil .nil)
 have c : Ctx rT X (cy 318 w 0 []) := ⟨O, ⟨ag.names, ag.vid, fun _ => ag.comp, aY O⟩, tb, by rw [hU]; decide⟩
 have run : ∀ n t, run rT n (cy 318 w 0 []) t → t.sound X n := fun n t => @ai rT n X _ t c
 have kind : ∀ y k, (scp 318).names.lookup y = k → X.env.kindOf y = k := fun y k z => by show X.env.scope.names.lookup y = k; rw [ag.names]; exact z
 obtain ⟨tl, hsv, hble⟩ := fw f
 obtain ⟨q1, q2, q3, q4, q5, p1, p2, p3, p4, p5, p6, p7, p8, p9, p10, p11, p12, p13, p14, p15, hb⟩ := EK w
 refine bk0 ?_; clear bk0 Gz0
 rw [hb]
 refine cv (uw (run 100 (.t _ _ _) ?_))
 refine jj.mk f p rfl rfl rfl ?_
 rw [hm]
 refine cv (kC O rfl (kind "QuicError" _ (by kernel_rfl)) (by lia) (by lia) ?_)
 generalize hσ : aR (scp 318) ["f", "packet", "frame_type"] [.v f.sv, .v (.str p.long), .v (.int 0)] [] = σ
 have J1 : ∀ q, JE X (.Name "PROTOCOL_VIOLATION" q) σ (fun a σ1 => a = .v (.int 10) ∧ σ1 = σ) := fun q => run 100 (.e _ _ _) (by subst hσ; (conv => whnf); exact ⟨rfl, rfl⟩)
 have J2 : ∀ q, JE X (.Name "frame_type" q) σ (fun a σ1 => a = .v (.int 0) ∧ σ1 = σ) := fun q => run 100 (.e _ _ _) (by subst hσ; (conv => whnf); exact ⟨rfl, rfl⟩)
 have J3 : ∀ q, JE X (.Name "packet" q) σ (fun a σ1 => a = .v (.str p.long) ∧ σ1 = σ) := fun q => run 100 (.e _ _ _) (by subst hσ; (conv => whnf); exact ⟨rfl, rfl⟩)
 have J4 : ∀ q1 q2 q3, JE X (.Subscript (.Name "f" q1) (.Constant (.int 0) 0 q2) q3) σ (fun a σ1 => a = .v (.str (kn f)) ∧ σ1 = σ) := fun q1 q2 q3 => run 100 (.e _ _ _) (by subst hσ; rw [hsv]; (conv => whnf); exact Gd.mk hble ⟨rfl, rfl⟩)
 refine aH rfl ((J1 p2).mono fun a σ1 z => ?_)
 obtain ⟨rfl, rfl⟩ := z
 refine aH rfl ((J2 p3).mono fun a σ2 z => ?_)
 obtain ⟨rfl, rfl⟩ := z
 refine aH rfl (cj (cj (cj (gV ((J4 p5 p6 p7).mono fun a σ3 z => ?_)))))
 obtain ⟨rfl, rfl⟩ := z
 have h1 := ss f
 have h2 := t5 p
 have h3 : ("a " : Str).length ≤ 30 := by decide +kernel
 have h4 : (" frame in a packet of kind " : Str).length ≤ 30 := by decide +kernel
 have h5 : (("a " : Str) ++ kn f).length ≤ 60 := by rw [f4]; lia
 have h6 : ((("a " : Str) ++ kn f) ++ (" frame in a packet of kind " : Str)).length ≤ 90 := by rw [f4]; lia
 refine dX (nG (by lia) (by lia)) (gV (dX (nG (by lia) (by lia)) ((J3 p11).mono fun a σ4 z => ?_)))
 obtain ⟨rfl, rfl⟩ := z
 exact dX (nG (by lia) (by lia)) (dB ⟨_, rfl, by rw [f4]; lia⟩)
theorem BD (w : World) : cI w 325 3 17 zG := by
 refine cI.of_body (D := 2) (U := 14) (ns := ["f", "sender", "frame_type"]) (yi w) (qB w) (za w) (fun as h => by obtain ⟨f, p, rfl, _⟩ := h; rfl) fun X as O hw hD hU ag hme h => ?_
 refine hide fun Gz0 bk0 => ?_
 obtain ⟨f, p, rfl, hm⟩ := h
 have tb : iy X.w X.D X.U si := by rw [hw, hD, hU]; exact (aJ (.cons (sq w) (.cons (g_7 w) .nil)) .nil .nil .nil .nil)
 have c : Ctx si X (cy 325 w 0 []) := ⟨O, ⟨ag.names, ag.vid, fun _ => ag.comp, aY O⟩, tb, by rw [hU]; decide⟩
 have run : ∀ n t, run si n (cy 325 w 0 []) t → t.sound X n := fun n t => @ai si n X _ t c
 have kind : ∀ y k, (scp 325).names.lookup y = k → X.env.kindOf y = k := fun y k z => by show X.env.scope.names.lookup y = k; rw [ag.names]; exact z
 obtain ⟨tl, hsv, hble⟩ := fw f
 obtain ⟨q1, q2, q3, q4, q5, q6, q7, q8, q9, p1, p2, p3, p4, p5, p6, p7, p8, p9, p10, p11, p12, p13, hb⟩ := ES w
 refine bk0 ?_; clear bk0 Gz0
 rw [hb]
 have J : JT X (.BoolOp .And [.Compare (.Subscript (.Name "f" q1) (.Constant (.int 0) 0 q2) q3) [.In] [.Name "SERVER_ALONE" q4] q5, .Compare (.Name "sender" q6) [.NotEq] [.Constant (.str "server") 0 q7] q8] q9) (aR (scp 325) ["f", "sender", "frame_type"] [.v f.sv, .v (.str (b0 p)), .v (.int 0)] []) (fun a σ1 => a = true ∧ σ1 = aR (scp 325) ["f", "sender", "frame_type"] [.v f.sv, .v (.str (b0 p)), .v (.int 0)] []) := by
  refine run 100 (.t _ _ _) ?_
  induction p using Bool.casesOn with
  | false => induction f using Fm.casesOn <;> cases hm
  | true =>
   induction f using Fm.casesOn
   case newToken =>
    conv => whnf
    exact ⟨rfl, rfl⟩
   case done =>
    conv => whnf
    exact ⟨rfl, rfl⟩
   all_goals cases hm
 refine cv (uw (J.mono fun a σ1 z => ?_))
 obtain ⟨rfl, rfl⟩ := z
 refine cv (kC O rfl (kind "QuicError" _ (by kernel_rfl)) (by lia) (by lia) ?_)
 generalize hσ : aR (scp 325) ["f", "sender", "frame_type"] [.v f.sv, .v (.str (b0 p)), .v (.int 0)] [] = σ
 have J1 : ∀ q, JE X (.Name "PROTOCOL_VIOLATION" q) σ (fun a σ1 => a = .v (.int 10) ∧ σ1 = σ) := fun q => run 100 (.e _ _ _) (by subst hσ; (conv => whnf); exact ⟨rfl, rfl⟩)
 have J2 : ∀ q, JE X (.Name "frame_type" q) σ (fun a σ1 => a = .v (.int 0) ∧ σ1 = σ) := fun q => run 100 (.e _ _ _) (by subst hσ; (conv => whnf); exact ⟨rfl, rfl⟩)
 have J4 : ∀ q1 q2 q3, JE X (.Subscript (.Name "f" q1) (.Constant (.int 0) 0 q2) q3) σ (fun a σ1 => a = .v (.str (kn f)) ∧ σ1 = σ) := fun q1 q2 q3 => run 100 (.e _ _ _) (by subst hσ; rw [hsv]; (conv => whnf); exact Gd.mk hble ⟨rfl, rfl⟩)
 refine aH rfl ((J1 p2).mono fun a σ1 z => ?_)
 obtain ⟨rfl, rfl⟩ := z
 refine aH rfl ((J2 p3).mono fun a σ2 z => ?_)
 obtain ⟨rfl, rfl⟩ := z
 refine aH rfl (cj (cj (gV ((J4 p5 p6 p7).mono fun a σ3 z => ?_))))
 obtain ⟨rfl, rfl⟩ := z
 have h1 := ss f
 have h3 : ("a client sent a " : Str).length ≤ 30 := by decide +kernel
 have h4 : (" frame" : Str).length ≤ 30 := by decide +kernel
 have h5 : (("a client sent a " : Str) ++ kn f).length ≤ 60 := by rw [f4]; lia
 refine dX (nG (by lia) (by lia)) (gV ?_)
 exact dX (nG (by lia) (by lia)) (dB ⟨_, rfl, by rw [f4]; lia⟩)
end
section
inductive qp (w : World) : Prop
 | mk (p1 p2 p3 p4 p5 p6 p7 p8 p9 p10 p11 p12 p13 p14 p15 : Pos) (_ : bd 332 = [.For (.Name "f" p1) (.Name "row" p2) [.Expr (.Call (.Name "check_place" p3) [.Name "f" p4, .Name "packet" p5, .Constant (.int 0) 0 p6] [] p7) p8, .Expr (.Call (.Name "check_sender" p9) [.Name "f" p10, .Name "sender" p11, .Constant (.int 0) 0 p12] [] p13) p14] [] p15]) : qp w
theorem Aw (w : World) : qp w := ⟨_, _, _, _, _, _, _, _, _, _, _, _, _, _, _, rfl⟩
noncomputable def okF (p : Pk) (c : Bool) (f : Fm) : Bool := jF f p && gf f c
section
variable {X : Fx} {σ : SS}
theorem JL3 (O : X.Ok) {x y : Str} {p1 p2 p3 pos : Pos} {d1 d2 : AV} {K : List AV → SS → Prop} (kx : X.env.kindOf x = some .local) (ky : X.env.kindOf y = some .local) (hx : (x == ("__debug__" : Str)) = false) (hy : (y == ("__debug__" : Str)) = false)
  (lx : lk x σ.loc = some d1) (ly : lk y σ.loc = some d2) (k : K [d1, d2, .v (.int 0)] σ) : JL X pos [.Name x p1, .Name y p2, .Constant (.int 0) 0 p3] σ K :=
 aH rfl (cm O kx hx lx (aH rfl (cm O ky hy ly (aH rfl (uC (dB k))))))
structure Lp (X : Fx) (w : World) : Prop where
 O : X.Ok
 hw : X.w = w
 D : 3 ≤ X.D
 U : 17 ≤ X.U
 n : X.env.scope.names = (scp 332).names
structure Lo (p : Pk) (c : Bool) (σ : SS) : Prop where
 p : lk "packet" σ.loc = some (.v (.str p.long))
 s : lk "sender" σ.loc = some (.v (.str (b0 c)))
 c : σ.cel = []
theorem Lp.kind {w : World} (L : Lp X w) (y : Str) (k : Option NameKind) (z : (scp 332).names.lookup y = k) : X.env.kindOf y = k := by show X.env.scope.names.lookup y = k; rw [L.n]; exact z
theorem zb {w : World} (L : Lp X w) {f : Fm} {p : Pk} {p3 p4 p5 p6 p7 p8 : Pos} {K : SF → SS → Prop} (lf : lk "f" σ.loc = some (.v f.sv)) (lp : lk "packet" σ.loc = some (.v (.str p.long))) (hm : jF f p = true) (k : K .next σ) : JS X (.Expr (.Call (.Name "check_place" p3) [.Name "f" p4, .Name "packet" p5, .Constant (.int 0) 0 p6] [] p7) p8) σ K := by
 obtain ⟨O, rfl, hD, hU, hn⟩ := L
 have L : Lp X X.w := ⟨O, rfl, hD, hU, hn⟩
 refine kY (aY O) rfl (qz rfl (l6 O (L.kind "check_place" _ (by kernel_rfl)) (by decide) (v := .ref 318) (sv := .ref 318) (by kernel_rfl) (fun P _ => .ref 318) ⟨by kernel_rfl, ?_⟩))
 refine JL3 O (L.kind "f" _ (by kernel_rfl)) (L.kind "packet" _ (by kernel_rfl)) (by decide) (by decide) lf lp ?_
 exact jA O (AM X.w) (by lia) (by lia) (Gd.mk rfl ⟨f, p, rfl, rfl, rfl, rfl, hm, k⟩)
theorem Cj {w : World} (L : Lp X w) {f : Fm} {c : Bool} {p3 p4 p5 p6 p7 p8 : Pos} {K : SF → SS → Prop} (lf : lk "f" σ.loc = some (.v f.sv)) (lp : lk "sender" σ.loc = some (.v (.str (b0 c)))) (hm : gf f c = true) (k : K .next σ) : JS X (.Expr (.Call (.Name "check_sender" p3) [.Name "f" p4, .Name "sender" p5, .Constant (.int 0) 0 p6] [] p7) p8) σ K := by
 obtain ⟨O, rfl, hD, hU, hn⟩ := L
 have L : Lp X X.w := ⟨O, rfl, hD, hU, hn⟩
 refine kY (aY O) rfl (qz rfl (l6 O (L.kind "check_sender" _ (by kernel_rfl)) (by decide) (v := .ref 325) (sv := .ref 325) (by kernel_rfl) (fun P _ => .ref 325) ⟨by kernel_rfl, ?_⟩))
 refine JL3 O (L.kind "f" _ (by kernel_rfl)) (L.kind "sender" _ (by kernel_rfl)) (by decide) (by decide) lf lp ?_
 exact jA O (CX X.w) (by lia) (by lia) (Gd.mk rfl ⟨f, c, rfl, rfl, rfl, rfl, hm, k⟩)
theorem raP {w : World} (L : Lp X w) {f : Fm} {p : Pk} {p3 p4 p5 p6 p7 p8 : Pos} (lf : lk "f" σ.loc = some (.v f.sv)) (lp : lk "packet" σ.loc = some (.v (.str p.long))) (hm : jF f p = false) : JSR X (.Expr (.Call (.Name "check_place" p3) [.Name "f" p4, .Name "packet" p5, .Constant (.int 0) 0 p6] [] p7) p8) σ := by
 obtain ⟨O, rfl, hD, hU, hn⟩ := L
 have L : Lp X X.w := ⟨O, rfl, hD, hU, hn⟩
 refine jy (aY O) rfl (jl O (BI X.w) hD hU rfl (by kernel_rfl) (L.kind "check_place" _ (by kernel_rfl)) (by decide) (by kernel_rfl) ?_)
 exact JL3 O (L.kind "f" _ (by kernel_rfl)) (L.kind "packet" _ (by kernel_rfl)) (by decide) (by decide) lf lp ⟨rfl, f, p, rfl, hm⟩
theorem raS {w : World} (L : Lp X w) {f : Fm} {c : Bool} {p3 p4 p5 p6 p7 p8 : Pos} (lf : lk "f" σ.loc = some (.v f.sv)) (lp : lk "sender" σ.loc = some (.v (.str (b0 c)))) (hm : gf f c = false) : JSR X (.Expr (.Call (.Name "check_sender" p3) [.Name "f" p4, .Name "sender" p5, .Constant (.int 0) 0 p6] [] p7) p8) σ := by
 obtain ⟨O, rfl, hD, hU, hn⟩ := L
 have L : Lp X X.w := ⟨O, rfl, hD, hU, hn⟩
 refine jy (aY O) rfl (jl O (BD X.w) hD hU rfl (by kernel_rfl) (L.kind "check_sender" _ (by kernel_rfl)) (by decide) (by kernel_rfl) ?_)
 exact JL3 O (L.kind "f" _ (by kernel_rfl)) (L.kind "sender" _ (by kernel_rfl)) (by decide) (by decide) lf lp ⟨rfl, f, c, rfl, hm⟩
theorem Lo.st {p : Pk} {c : Bool} (H : Lo p c σ) (v : AV) : Lo p c ⟨("f", v) :: σ.loc, σ.cel⟩ := ⟨H.p, H.s, H.c⟩
theorem zk {w : World} (L : Lp X w) {p : Pk} {c : Bool} {p1 p3 p4 p5 p6 p7 p8 p9 p10 p11 p12 p13 p14 : Pos} {K : SF → SS → Prop} (k : ∀ σ', σ'.cel = [] → K .next σ') : ∀ (fs : List Fm) (σ : SS), Lo p c σ → fs.all (okF p c) = true →
  jB X (.Name "f" p1) [.Expr (.Call (.Name "check_place" p3) [.Name "f" p4, .Name "packet" p5, .Constant (.int 0) 0 p6] [] p7) p8, .Expr (.Call (.Name "check_sender" p9) [.Name "f" p10, .Name "sender" p11, .Constant (.int 0) 0 p12] [] p13) p14] (fs.map Fm.sv) σ K := by
 intro its0
 induction its0 with
 | nil =>
  intro σ H _
  exact k σ H.c
 | cons f fs ih =>
  intro σ H ha
  rw [List.all_cons] at ha
  obtain ⟨h1, h2⟩ := Bool.and_eq_true_iff.mp ha
  obtain ⟨m1, m2⟩ := Bool.and_eq_true_iff.mp h1
  refine dU (bS L.O (L.kind "f" _ (by kernel_rfl)) ?_)
  refine fq (zb L (f := f) (p := p) rfl (H.st _).p m1 ?_)
  refine fq (Cj L (f := f) (c := c) rfl (H.st _).s m2 ?_)
  exact i7 (ih _ (H.st _) h2)
theorem wM {w : World} (L : Lp X w) {p : Pk} {c : Bool} {p1 p3 p4 p5 p6 p7 p8 p9 p10 p11 p12 p13 p14 : Pos} : ∀ (fs : List Fm) (σ : SS), Lo p c σ → fs.all (okF p c) = false →
  pW X (.Name "f" p1) [.Expr (.Call (.Name "check_place" p3) [.Name "f" p4, .Name "packet" p5, .Constant (.int 0) 0 p6] [] p7) p8, .Expr (.Call (.Name "check_sender" p9) [.Name "f" p10, .Name "sender" p11, .Constant (.int 0) 0 p12] [] p13) p14] (fs.map Fm.sv) σ := by
 intro its0
 induction its0 with
 | nil =>
  intro σ H ha
  cases ha
 | cons f fs ih =>
  intro σ H ha
  rw [List.all_cons] at ha
  cases m1 : jF f p with
  | false => exact .inl (dU (bS L.O (L.kind "f" _ (by kernel_rfl)) (cv (raP L (f := f) (p := p) rfl (H.st _).p m1))))
  | true =>
   cases m2 : gf f c with
   | false => exact .inl (dU (bS L.O (L.kind "f" _ (by kernel_rfl)) (tW (zb L (f := f) (p := p) rfl (H.st _).p m1 ⟨rfl, cv (raS L (f := f) (c := c) rfl (H.st _).s m2)⟩))))
   | true =>
    have h2 : fs.all (okF p c) = false := by
     have : okF p c f = true := by unfold okF; rw [m1, m2]; rfl
     rw [this, Bool.true_and] at ha; exact ha
    refine .inr (dU (bS L.O (L.kind "f" _ (by kernel_rfl)) ?_))
    refine fq (zb L (f := f) (p := p) rfl (H.st _).p m1 ?_)
    refine fq (Cj L (f := f) (c := c) rfl (H.st _).s m2 ?_)
    exact i7 ⟨rfl, ih _ (H.st _) h2⟩
end
inductive eH : List AV → List aa → (SV → List aa → Prop) → Prop
 | mk {l : List SV} {y : Str} {z : Str} {cel : List aa} {K : SV → List aa → Prop} (fs : List Fm) (p : Pk) (c : Bool) (_ : l = fs.map Fm.sv) (_ : y = p.long) (_ : z = b0 c) (_ : cel = []) (_ : fs.all (okF p c) = true) (_ : K .none []) : eH [.v (.lst l), .v (.str y), .v (.str z)] cel K
noncomputable def zw : List AV → Prop := fun as => ∃ (fs : List Fm) (p : Pk) (c : Bool), as = [.v (.lst (fs.map Fm.sv)), .v (.str p.long), .v (.str (b0 c))] ∧ fs.all (okF p c) = false
theorem yC (w : World) : aD 332 w := ⟨_, _, _, _, _, _, _, _, _, rfl, by kernel_rfl⟩
theorem qw (w : World) : Bnd (prm 332) ["row", "packet", "sender"] := rq fun _ _ _ _ => by kernel_rfl
theorem sL (w : World) : dq (scp 332) ["row", "packet", "sender"] := by kernel_rfl
theorem yg (w : World) : aj w 332 4 20 eH := by
 refine aj.of_body (D := 3) (U := 17) (ns := ["row", "packet", "sender"]) (yC w) (qw w) (sL w) (fun as cel K h => by
  induction h using eH.casesOn; rfl) fun X as cel K O hw hD hU ag h => ?_
 refine hide fun Gz0 bk0 => ?_
 obtain ⟨fs, p, c, rfl, rfl, rfl, rfl, ha, k⟩ := h
 obtain ⟨p1, p2, p3, p4, p5, p6, p7, p8, p9, p10, p11, p12, p13, p14, p15, hb⟩ := Aw w
 refine bk0 ?_; clear bk0 Gz0
 have L : Lp X w := ⟨O, hw, by lia, by lia, ag.names⟩
 rw [hb]
 refine fq (uQ O (fun _ => rfl) (cm O (L.kind "row" _ (by kernel_rfl)) (by decide) (by kernel_rfl) ⟨fs.map Fm.sv, gO O, zk L (fun σ' hc => ?_) fs _ ⟨by kernel_rfl, by kernel_rfl, by kernel_rfl⟩ ha⟩))
 refine i7 ?_
 obtain ⟨loc, cel⟩ := σ'
 obtain rfl : cel = [] := hc
 exact k
theorem Ab (w : World) : cI w 332 4 20 zw := by
 refine cI.of_body (D := 3) (U := 17) (ns := ["row", "packet", "sender"]) (yC w) (qw w) (sL w) (fun as h => by obtain ⟨fs, p, c, rfl, _⟩ := h; rfl) fun X as O hw hD hU ag hme h => ?_
 refine hide fun Gz0 bk0 => ?_
 obtain ⟨fs, p, c, rfl, ha⟩ := h
 obtain ⟨p1, p2, p3, p4, p5, p6, p7, p8, p9, p10, p11, p12, p13, p14, p15, hb⟩ := Aw w
 refine bk0 ?_; clear bk0 Gz0
 have L : Lp X w := ⟨O, hw, by lia, by lia, ag.names⟩
 rw [hb]
 exact cv (vQ O hme (fun _ => rfl) (cm O (L.kind "row" _ (by kernel_rfl)) (by decide) (by kernel_rfl) ⟨fs.map Fm.sv, gO O, wM L fs _ ⟨by kernel_rfl, by kernel_rfl, by kernel_rfl⟩ ha⟩))
end
section
theorem Kp.ns {g h : Heap} {fr : List Addr} {a : Addr} {m : Str → Option Value} (k : Kp g fr h) (n : g.Ns a m) : h.Ns a m := by
 refine hide fun Gz0 bk0 => ?_
 obtain ⟨o, es, ep, ho, hd, r⟩ := n
 refine bk0 ?_; clear bk0 Gz0
 by_cases hm : a ∈ fr
 ·obtain ⟨sl, z⟩ := k.slot a o ho hm; exact ⟨_, es, ep, z, hd, r⟩
 ·exact ⟨o, es, ep, k.keep a o ho hm, hd, r⟩
theorem lX {h h' : Heap} {L a : Addr} {m : Str → Option Value} (hs : Heap.SameBut L h h') (na : a ≠ L) (n : h.Ns a m) : h'.Ns a m := by
 obtain ⟨o, es, ep, ho, r⟩ := n; exact ⟨o, es, ep, (hs.2 a na).trans ho, r⟩
theorem zM {X : Fx} (O : X.Ok) (hme : X.env = X.me) (hc : X.comp = none) (hL0 : X.hz0.get? X.L = none) (hK : ∀ a o, (tp.heap_1 X.w.params).lookup a = some o → a ∉ frs (X.me :: X.outer))
  (kq : X.env.kindOf "QuicError" = some .globalImplicit) (kp_ : X.env.kindOf "PROTOCOL_VIOLATION" = some .globalImplicit) (ke : X.env.kindOf "e" = some .local)
  {p7 p8 p9 p10 p11 p12 p13 p14 p15 p16 : Pos} {e : Addr} {s : Shared} {Q : Flow → Shared → Prop} {E : Value → Shared → Prop} (R : cM X e s.heap)
  (q : ∀ h' tk' tk'', Kp X.hz0 (frs X.outer) h' → Q (.ret (.str "refused" tk'')) { s with heap := h', toks := tk' }) :
  wpAny (model af X.w) X.A (noteFrame (.ref e) X.env) (fun _ sz2 => wpAny (model af X.w) X.A (setFlight (.ref e) none) (fun _ sz3 => wpAny (model af X.w) X.A (handleBy (.ref e) X.env
   [.ExceptHandler (some (.Name "QuicError" p7)) (some "e") [.Return (some (.IfExp (.Compare (.Attribute (.Name "e" p8) "code" p9) [.Eq] [.Name "PROTOCOL_VIOLATION" p10] p11) (.Constant (.str "refused") 0 p12) (.Constant (.str "refused otherwise") 0 p13) p14)) p15] p16]) Q E sz3) E sz2) E s := by
 refine hide fun Gz0 bk0 => ?_
 obtain ⟨g, dx, fl, hfl, hg, ⟨m, gN⟩, F⟩ := R
 obtain ⟨mean, mg, mb, T⟩ := O.T
 have loc : X.env.locals = X.L := O.here hc
 have hp : (X.env.scope.kind == .class || (X.env.scope.kind == .module && X.env.locals != X.env.globals)) = false := by rw [O.kind]; rfl
 obtain ⟨gg, dr, oo, hh, tt, hs⟩ : ∃ gg dr oo hh tt, s = ⟨hh, gg, dr, tt, oo⟩ := ⟨_, _, _, _, _, rfl⟩
 refine bk0 ?_; clear bk0 Gz0
 subst hs
 have n1 : wpAny (model af X.w) X.A (noteFrame (.ref e) X.env) (fun _ sz2 => ∃ hz1, sz2 = ⟨hz1, gg, dr, tt, oo⟩ ∧ Fly g (X.me :: X.outer) 38 e dx (some (rawInt X.L)) hz1) E ⟨hh, gg, dr, tt, oo⟩ := by
  rw [hme]
  exact d8 (s := ⟨hh, gg, dr, tt, oo⟩) (env := X.me) (outer := X.outer) rfl rfl F hfl fun hz1 F1 => ⟨hz1, rfl, F1⟩
 refine wpAny_mono n1 (fun _ sz2 z => ?_) fun _ _ z => z
 obtain ⟨hz1, rfl, F1⟩ := z
 refine bM (s := ⟨hz1, gg, dr, tt, oo⟩) (fr := none) F1 fun hz2 F2 => ?_
 -- the written part is still there
 have kin : ∀ {h : Heap}, Kp g (frs (X.me :: X.outer)) h → (tp.heap_1 X.w.params).In h := fun k a o z => k.keep a o (hg a o (O.K a o z)) (hK a o z)
 have glob : ∀ {h : Heap}, Kp g (frs (X.me :: X.outer)) h → h.Ns mainGlobals mg := fun k => k.ns (by obtain ⟨o, es, ep, ho, r⟩ := T.g; exact ⟨o, es, ep, hg _ _ ho, r⟩)
 refine hide fun Gz0 bk0 => ?_
 obtain ⟨nm, qn, N, bs, sn, sub, ab, col, dd, k0, k1, k2, k3, k5, mN, hC, hN, hi, hno⟩ := kQ (kin F2.kp)
 obtain ⟨oe, vs, he, hec, hdx, hd, ht⟩ := F2.eo
 refine bk0 ?_; clear bk0 Gz0
 refine wpAny_handleBy_cons (codeAny_handlers_test (Name_function_global O.kind kq (loadGlobal_global (by rw [O.glob]; exact glob F2.kp) (mg_of O.K T.g (v := .ref 38) (by kernel_rfl)) ?_) (by decide))) (by intro q; cases q)
 refine wpAny_excMatches_sub_self hC he hec (by decide +kernel) ?_
 refine codeAny_handlers_suite_as ?_
 refine bM (s := ⟨hz2, gg, dr, tt, oo⟩) (fr := none) F2 fun hz3 F3 => ?_
 have nL : hz3.Ns X.env.locals m := by rw [loc]; exact F3.kp.ns gN
 refine wpAny_storeName_local (s := ⟨hz3, gg, dr, tt, oo⟩) ke nL (fun hz4 hn4 hs4 => ?_) hp
 rw [loc] at hs4
 refine hide fun Gz0 bk0 => ?_
 obtain ⟨nm, qn, N, bs, sn, sub, ab, col, dd, k0, k1, k2, k3, k5, mN, hC0, hN0, hi, hno⟩ := kQ O.K
 have c38 : 38 ∉ frs (X.me :: X.outer) := hK 38 _ (Classical.choose_spec (show ∃ o, (tp.heap_1 X.w.params).lookup 38 = some o from ⟨_, rfl⟩))
 have up : ∀ {a : Addr} {m : Str → Option Value}, X.hz0.Ns a m → g.Ns a m := fun n => by obtain ⟨o, es, ep, ho, r⟩ := n; exact ⟨o, es, ep, hg _ _ ho, r⟩
 have hC := F3.kp.keep 38 _ (hg _ _ hC0) c38
 have hN := F3.kp.ns (up hN0)
 have nL' : ∀ {a : Addr} {m : Str → Option Value}, X.hz0.Ns a m → a ≠ X.L := fun n z => by obtain ⟨o, es, ep, ho, r⟩ := n; rw [z, hL0] at ho; cases ho
 obtain ⟨oe, vs, he, hec, hdx, hd, ht⟩ := F3.eo
 obtain ⟨ff, hff⟩ := F3.ff
 refine bk0 ?_; clear bk0 Gz0
 have eL : e ≠ X.L := fun z => u5 hff he hd (by rw [z]; exact .head _)
 have dL : dx ≠ X.L := fun z => F3.dl (by rw [z]; exact .head _)
 have cL : 38 ≠ X.L := fun z => c38 (by rw [z]; exact .head _)
 refine wpAny_execs_cons (wpAny_Return_some (IfExp_ (wpAny_isTrue_Compare1 (Attribute_any_ (wpAny_Name (wpAny_loadName_local O.kind ke hn4 (if_pos rfl) ?_) (by decide)) (by rfl)) rfl)))
 obtain ⟨m', tk, cN, hcode⟩ := F3.cd
 refine D5 PySem.F.attrBase_Exception ((hs4.2 38 cL).trans hC) (lX hs4 (nL' hN0) hN) (hno _ (by decide)) (hno _ (by decide)) (hno _ (by decide)) qr ((hs4.2 e eL).trans he) hec hd hdx (lX hs4 dL cN) hcode rfl ?_
 obtain ⟨pv, epv, kpv⟩ : ∃ v, nsIn (tp.heap_1 X.w.params) mainGlobals "PROTOCOL_VIOLATION" = some (some v) ∧ KV X.w v (.int 10) := ⟨.int 10 200, CF _ 12 201 (by kernel_rfl), fun P hP => .int _ _⟩
 obtain ⟨tpv, rfl⟩ := (kpv (fun a o => (tp.heap_1 X.w.params).lookup a = some o) (fun a o z => z)).int_inv
 refine Name_function_global O.kind kp_ (loadGlobal_global (by rw [O.glob]; exact lX hs4 (nL' T.g) (glob F3.kp)) (mg_of O.K T.g epv) ?_) (by decide)
 refine PyProof.Rows.eq_int (wpAny_truthy_bool ?_)
 refine wpAny_Constant_str ?_
 refine wpAny_nameGoes ke hn4 hp fun hz5 mz5 hn5 hs5 => ?_
 rw [loc] at hs5
 refine q hz5 _ _ ⟨fun b o z nb => ?_, fun b o z mb => ?_⟩
 ·have nb1 : b ≠ X.L := fun y => by rw [y, hL0] at z; cases z
  have nb2 : b ∉ frs (X.me :: X.outer) := fun y => (List.mem_cons.mp y).elim nb1 nb
  exact (hs5.2 b nb1).trans ((hs4.2 b nb1).trans (F3.kp.keep b o (hg b o z) nb2))
 ·have nb1 : b ≠ X.L := fun y => by rw [y, hL0] at z; cases z
  obtain ⟨sl, y⟩ := F3.kp.slot b o (hg b o z) (.tail _ mb)
  exact ⟨sl, (hs5.2 b nb1).trans ((hs4.2 b nb1).trans y)⟩
end
section
noncomputable def noE : Expr := .Constant .none 0 default
noncomputable def z7 (w : World) : Expr := smC noE (s := (jW (bd 487) 0)) (try_ := fun b _ _ _ => smC noE (s := (jW b 0)) (exp := fun e => exC noE (e := e) (call := fun _ args _ _ => args.getD 1 noE)))
inductive qm (w : World) : Prop
 | mk (p1 p2 p4 p5 p6 p7 p8 p9 p10 p11 p12 p13 p14 p15 p16 p17 p18 p19 : Pos) (_ : bd 487 = [.Try [.Expr (.Call (.Name "check_frames" p1) [.Name "row" p2, z7 w, .Name "sender" p4] [] p5) p6] [.ExceptHandler (some (.Name "QuicError" p7)) (some "e") [.Return (some (.IfExp (.Compare (.Attribute (.Name "e" p8) "code" p9) [.Eq] [.Name "PROTOCOL_VIOLATION" p10] p11) (.Constant (.str "refused") 0 p12) (.Constant (.str "refused otherwise") 0 p13) p14)) p15] p16] [] [] p17, .Return (some (.Constant (.str "let") 0 p18)) p19]) : qm w
theorem Fb (w : World) : qm w := ⟨_, _, _, _, _, _, _, _, _, _, _, _, _, _, _, _, _, _, rfl⟩
inductive vJ : List AV → List aa → (SV → List aa → Prop) → Prop
 | mk {l : List SV} {y : Str} {z : Str} {cel : List aa} {K : SV → List aa → Prop} (fs : List Fm) (p : Pk) (c : Bool) (_ : l = fs.map Fm.sv) (_ : y = p.short) (_ : z = b0 c) (_ : cel = []) (_ : fs.all (okF p c) = true) (_ : K (.str "let") []) : vJ [.v (.lst l), .v (.str y), .v (.str z)] cel K
noncomputable def qX : Tb := { glob := [("check_frames", .ref 332), ("PROTOCOL_VIOLATION", .int 10), ("QuicError", .ref 38)], fn := [(332, eH)], fnG := [], cls := [], field := [], meth := [] }
theorem o4 (w : World) : Rn vJ qX 200 487 [] ["row", "packet", "sender"] w := fun as cel K h => by
 refine hide fun Gz0 bk0 => ?_
 obtain ⟨fs, p, c, rfl, rfl, rfl, rfl, ha, k⟩ := h
 refine bk0 ?_; clear bk0 Gz0
 induction p using Pk.casesOn
 case z =>
  refine eH.mk fs .z c rfl rfl rfl rfl ha ?_
  exact k
 case i =>
  refine eH.mk fs .i c rfl rfl rfl rfl ha ?_
  exact k
 case s =>
  refine eH.mk fs .s c rfl rfl rfl rfl ha ?_
  exact k
 case h =>
  refine eH.mk fs .h c rfl rfl rfl rfl ha ?_
  exact k
theorem yA (w : World) : aD 487 w := ⟨_, _, _, _, _, _, _, _, _, rfl, by kernel_rfl⟩
theorem pY (w : World) : Bnd (prm 487) ["row", "packet", "sender"] := rq fun _ _ _ _ => by kernel_rfl
theorem Bg (w : World) : aj w 487 5 23 vJ :=
 aj.at (ns := ["row", "packet", "sender"]) (T := qX) (U := 20) (D := 4) 487 [] 200 (yA w) (pY w) (by kernel_rfl) (fun as cel K h => by
  induction h using vJ.casesOn; rfl) (aJ (.cons (CG w) (.cons (sq w) (.cons (Ch w) .nil))) (.cons (yg w) rfl rfl (by kernel_rfl) .nil) .nil .nil .nil) (by decide) (o4 w)
theorem y4 (w : World) : dq (scp 487) ["row", "packet", "sender"] := by kernel_rfl
noncomputable def kE (w : World) (f : Addr) (D U : Nat) (sp : Spec) : Prop :=
 ∀ (X : Fx), X.Ok → X.w = w → X.dp + D < recursionLimit → X.un + U < cLine → (∃ mean mg mb, Top lq ll mean mg mb X.base) → ∀ (ow : Addr → Prop) (ρ : List Addr) (σ : SS) (s : Shared), SR X ow ρ s.heap σ → (∀ a ∈ frs X.outer, ow a) →
 ∀ (vs : List Value) (as : List AV) (K : SV → List aa → Prop), ARs (Pz s.heap ow) w [] vs as → sp as [] K →
 ∀ (Q : Value → Shared → Prop), (∀ v r h' tk', Kp s.heap (frs (X.me :: X.outer)) h' → VR (Pz h' ow) w v r → K r [] → Q v { s with heap := h', toks := tk' }) →
 wpG (model af w) X.A (call (.ref f) vs) Q F0 s
theorem Kp.of_keep {g h : Heap} {fr : List Addr} (k : ∀ b o, g.get? b = some o → h.get? b = some o) : Kp g fr h := ⟨fun b o z _ => k b o z, fun b o z _ => ⟨o.slots, k b o z⟩⟩
inductive mi : List AV → List aa → (SV → List aa → Prop) → Prop
 | mk {l : List SV} {y : Str} {z : Str} {cel : List aa} {K : SV → List aa → Prop} (fs : List Fm) (p : Pk) (c : Bool) (_ : l = fs.map Fm.sv) (_ : y = p.short) (_ : z = b0 c) (_ : cel = []) (_ : (fs.all (okF p c) = true → K (.str "let") [])) (_ : (fs.all (okF p c) = false → K (.str "refused") [])) : mi [.v (.lst l), .v (.str y), .v (.str z)] cel K
theorem yR (w : World) : kE w 487 5 23 mi := by
 intro X O hw hdp hun hT ow ρ σ s S hfo vs as K R hsp Q q
 refine hide fun Gz0 bk0 => ?_
 obtain ⟨fs, p, c, rfl, rfl, rfl, _, k1, k2⟩ := hsp
 refine bk0 ?_; clear bk0 Gz0
 cases ha : fs.all (okF p c) with
 | true =>
  refine .of (Bg w X O hw hdp hun ow ρ σ s S [] [] vs _ K List.nodup_nil (fun a m => by cases m) cC.nil R ⟨fs, p, c, rfl, rfl, rfl, rfl, ha, k1 ha⟩ Q F0 fun v r cel' h' tk' kp lv Cc rv k => ?_)
  have : cel' = [] := List.length_eq_zero_iff.mp Cc.len.symm
  subst this
  exact q v r h' tk' (.of_keep fun b o z => kp b o z (fun m => by cases m)) rv k
 | false =>
  refine .of (wpAny_call (nS (D := 4) (U := 20) (ns := ["row", "packet", "sender"]) (yA w) (pY w) (y4 w)
   X O hw hdp hun ow ρ σ s S [] [] vs _ List.nodup_nil (fun a m => by cases m) cC.nil R rfl _ ?_))
  intro X' ca hz1 tk ⟨O', hw', hD, hU, ag, hout, hbase, hh, hL, hcomp, hA, hfr, hme, keep1, caBig, S'⟩
  subst hw'
  have tb : iy X'.w X'.D X'.U qX := by rw [hD, hU]; exact (aJ (.cons (CG X'.w) (.cons (sq X'.w) (.cons (Ch X'.w) .nil))) (.cons (yg X'.w) rfl rfl (by kernel_rfl) .nil) .nil .nil .nil)
  have cx : Ctx qX X' (cy 487 X'.w 0 []) := ⟨O', ⟨ag.names, ag.vid, fun _ => ag.comp, aY O'⟩, tb, by rw [hU]; decide⟩
  have run : ∀ e σ K, run qX 100 (cy 487 X'.w 0 []) (.e e σ K) → JE X' e σ K := fun e σ K => ai qX 100 X' _ (.e e σ K) cx
  have kind : ∀ y k, (scp 487).names.lookup y = k → X'.env.kindOf y = k := fun y k z => by show X'.env.scope.names.lookup y = k; rw [ag.names]; exact z
  obtain ⟨p1, p2, p4, p5, p6, p7, p8, p9, p10, p11, p12, p13, p14, p15, p16, p17, p18, p19, hb⟩ := Fb X'.w
  rw [hb]
  have J1 : ∀ q, JE X' (.Name "row" q) (aR (scp 487) ["row", "packet", "sender"] [.v (.lst (fs.map Fm.sv)), .v (.str p.short), .v (.str (b0 c))] []) (fun a σ1 => a = .v (.lst (fs.map Fm.sv)) ∧ σ1 = aR (scp 487) ["row", "packet", "sender"] [.v (.lst (fs.map Fm.sv)), .v (.str p.short), .v (.str (b0 c))] []) := fun q => @run _ _ _ (by (conv => whnf); exact ⟨rfl, rfl⟩)
  have J2 : JE X' (z7 X'.w) (aR (scp 487) ["row", "packet", "sender"] [.v (.lst (fs.map Fm.sv)), .v (.str p.short), .v (.str (b0 c))] []) (fun a σ1 => a = .v (.str p.long) ∧ σ1 = aR (scp 487) ["row", "packet", "sender"] [.v (.lst (fs.map Fm.sv)), .v (.str p.short), .v (.str (b0 c))] []) := @run _ _ _ (by
   induction p using Pk.casesOn
   all_goals
    (conv => whnf)
    exact ⟨rfl, rfl⟩)
  have J3 : ∀ q, JE X' (.Name "sender" q) (aR (scp 487) ["row", "packet", "sender"] [.v (.lst (fs.map Fm.sv)), .v (.str p.short), .v (.str (b0 c))] []) (fun a σ1 => a = .v (.str (b0 c)) ∧ σ1 = aR (scp 487) ["row", "packet", "sender"] [.v (.lst (fs.map Fm.sv)), .v (.str p.short), .v (.str (b0 c))] []) := fun q => @run _ _ _ (by (conv => whnf); exact ⟨rfl, rfl⟩)
  have JB0 : ∀ js, az [.Name "row" p2, js, .Name "sender" p4] = true → az [js, .Name "sender" p4] = true → JE X' js (aR (scp 487) ["row", "packet", "sender"] [.v (.lst (fs.map Fm.sv)), .v (.str p.short), .v (.str (b0 c))] []) (fun a σ1 => a = .v (.str p.long) ∧ σ1 = aR (scp 487) ["row", "packet", "sender"] [.v (.lst (fs.map Fm.sv)), .v (.str p.short), .v (.str (b0 c))] []) → JBR X' [.Expr (.Call (.Name "check_frames" p1) [.Name "row" p2, js, .Name "sender" p4] [] p5) p6] (aR (scp 487) ["row", "packet", "sender"] [.v (.lst (fs.map Fm.sv)), .v (.str p.short), .v (.str (b0 c))] []) := by
   intro js n1 n2 J2
   refine cv (jy (aY O') (bG rfl) (jl O' (Ab X'.w) (by lia) (by lia) n1 (by kernel_rfl) (kind "check_frames" _ (by kernel_rfl)) (by decide) (by kernel_rfl) ?_))
   refine aH (am n1) ((J1 p2).mono fun a σ1 z => ?_)
   obtain ⟨rfl, rfl⟩ := z
   refine aH (am n2) (J2.mono fun a σ2 z => ?_)
   obtain ⟨rfl, rfl⟩ := z
   refine aH rfl ((J3 p4).mono fun a σ3 z => ?_)
   obtain ⟨rfl, rfl⟩ := z
   exact dB ⟨rfl, fs, p, c, rfl, ha⟩
  have JB' := @JB0 (z7 X'.w) (by kernel_rfl) (by kernel_rfl) @J2
  refine wpAny_execs_cons (wpAny_Try_except (JB' _ _ { s with heap := hz1, toks := tk } S' _ _ fun e h' tk' R => ?_))
  refine zM O' hme hcomp (by rw [hh, hL]; exact aA s.heap) ?_ (kind "QuicError" _ (by kernel_rfl)) (kind "PROTOCOL_VIOLATION" _ (by kernel_rfl)) (kind "e" _ (by kernel_rfl)) (s := { s with heap := h', toks := tk' }) R fun hz2 tk2 tk3 kp => ?_
  rotate_left
  ·rw [hh, hout] at kp
   exact q _ _ hz2 tk2 kp (.str _ _) (k2 ha)
  ·intro a o z m
   rw [hout] at m
   have nz := (S.kf a o (by rw [hw]; exact z)).2
   rcases List.mem_cons.mp m with m | m
   ·have := (S.kf a o (by rw [hw]; exact z)).1
    rw [m, hL] at this
    exact ao this (aA s.heap)
   ·rcases List.mem_cons.mp m with m | m
    ·exact nz (m ▸ S.owL)
    ·exact nz (hfo a m)
end
section
structure Xc (X X2 : Fx) : Prop where
 eq : X2 = { X with hz0 := X2.hz0 }
 ok : X2.Ok
 turn : KtsTurn (frs X.outer) X.hz0 X2.hz0
theorem SR.reset {X : Fx} (O : X.Ok) (hT : ∃ mean mg mb, Top lq ll mean mg mb X.base) {ow : Addr → Prop} {ρ : List Addr} {h h' : Heap} {σ : SS} (S : SR X ow ρ h σ) (hfo : ∀ a ∈ frs X.outer, ow a) (k : Kp h (frs (X.me :: X.outer)) h') :
  ∃ X2, Xc X X2 ∧ SR X2 ow ρ h' σ := by
 obtain ⟨mf, ml, F, n, c1, c2, l⟩ := S.fr
 have nL : X.hz0.get? X.L = none := kts_self F
 have mem : ∀ b ∈ frs X.outer, X.base.get? b = none ∧ ∃ o, X.hz0.get? b = some o := fun b m => by
  obtain ⟨z, o, e, _⟩ := O.below.frames.mem m; exact ⟨z, o, e⟩
 have nb : ∀ b o, X.hz0.get? b = some o → b ∉ frs X.outer → b ∉ frs (X.me :: X.outer) := fun b o e z m => (List.mem_cons.mp m).elim (fun y => by rw [y, nL] at e; cases e) z
 obtain ⟨T, up⟩ := kts_turn_at (h := h') (fs := frs X.outer) (g := X.hz0) (fun b m => (mem b m).2) (fun b o e z => k.keep b o (F.keep b o e) (nb b o e z)) (fun b o e m => k.slot b o (F.keep b o e) (.tail _ m))
 have own : ∀ b ∈ frs (X.me :: X.outer), ow b := fun b m => (List.mem_cons.mp m).elim (fun y => y ▸ S.owL) (hfo b)
 have hp : ∀ b o, Pz h ow b o → Pz h' ow b o := fun b o p => ⟨k.keep b o p.1 fun m => p.2 (own b m), p.2⟩
 have stays : X.base.StaysIn (ktsHeap h' (frs X.outer) X.hz0) := fun b o e => T.other b o (O.below.stays b o e) fun m => by rw [(mem b m).1] at e; cases e
 have lv : ∀ b o, h.get? b = some o → ∃ o', h'.get? b = some o' := fun b o e => by
  by_cases m : b ∈ frs (X.me :: X.outer)
  ·obtain ⟨sl, z⟩ := k.slot b o e m; exact ⟨_, z⟩
  ·exact ⟨o, k.keep b o e m⟩
 obtain ⟨mean, mg, mb, TB⟩ := hT
 have nρ : ∀ a ∈ ρ, a ∉ frs (X.me :: X.outer) := fun a ha m => by
  have q := S.off a ha
  rcases List.mem_cons.mp m with y | m
  ·exact q.2.2.1 y
  ·obtain ⟨o, e⟩ := (mem a m).2; rw [q.2.1] at e; cases e
 generalize hg : ktsHeap h' (frs X.outer) X.hz0 = g' at T up stays
 refine ⟨{ X with hz0 := g' }, ⟨rfl, ?_, T⟩, ?_⟩
 ·exact {
      below := ⟨O.below.stack, stays, O.below.frames.of_keeps fun b o e _ => by obtain ⟨sl, z⟩ := T.up e; exact ⟨_, z, rfl⟩⟩
      K := fun a o z => T.other a o (O.K a o z) fun m => (S.kf a o z).2 (hfo a m)
      T := ⟨mean, mg, mb, TB.keeps stays⟩
      ck := O.ck, kind := O.kind, glob := O.glob, bins := O.bins, here := O.here
      there := fun m e => ⟨(O.there m e).1, T.none_ _ (O.there m e).2⟩
      room := O.room, units := O.units }
 ·exact ⟨⟨mf, ml, ⟨k.ns F.ns, up, by rw [T.size]; exact F.above⟩, k.ns n, c1, c2, fun x sv e => let ⟨v, e1, e2⟩ := l x sv e; ⟨v, e1, e2.mono hp (pfx ρ)⟩⟩, S.len,
   fun i a o e1 e2 => let ⟨ob, e3, e4⟩ := S.cel i a o e1 e2; ⟨ob, k.keep a ob e3 (nρ a (List.mem_of_getElem? e1)), e4.mono hp (pfx ρ)⟩, S.nd,
   fun a ha => ⟨(S.off a ha).1, T.none_ _ (S.off a ha).2.1, (S.off a ha).2.2⟩, S.owL, S.owl, fun a q => let ⟨o, e⟩ := S.low a q; lv a o e, S.var, fun a o z => hp a o (S.kf a o z)⟩
theorem Xc.refl {X : Fx} (O : X.Ok) : Xc X X := ⟨rfl, O, .refl⟩
end
section
structure Bx (X : Fx) (ow : Addr → Prop) : Prop where
 T : ∃ mean mg mb, Top lq ll mean mg mb X.base
 f : ∀ a ∈ frs X.outer, ow a
theorem Bx.up {X : Fx} {ow ow' : Addr → Prop} (B : Bx X ow) (h : ∀ b, ow b → ow' b) : Bx X ow' := ⟨B.T, fun a m => h a (B.f a m)⟩
noncomputable def JBX (X : Fx) (st : List Stmt) (σ : SS) (K : Bool → Prop) : Prop := ∀ ow ρ s, SR X ow ρ s.heap σ → Bx X ow → ∀ (Q : Flow → Shared → Prop), (∀ b h' tk', Kp X.hz0 (frs X.outer) h' → K b → Q (.ret (.bool b)) { s with heap := h', toks := tk' }) → wpG (model af X.w) X.A (execs st X.env) Q F0 s
noncomputable def JTX (X : Fx) (e : Expr) (σ : SS) (K : Bool → Fx → SS → Prop) : Prop := ∀ ow ρ s, SR X ow ρ s.heap σ → Bx X ow → ∀ (Q : Bool → Shared → Prop), (∀ b X2 ow2 ρ2 σ2 hz2 tk2, Xc X X2 → SR X2 ow2 ρ2 hz2 σ2 → Bx X2 ow2 → K b X2 σ2 → Q b { s with heap := hz2, toks := tk2 }) → wpG (model af X.w) X.A (isTrue e X.env (eval e X.env)) Q F0 s
noncomputable def JEX (X : Fx) (e : Expr) (σ : SS) (K : SV → Fx → SS → Prop) : Prop := ∀ ow ρ s, SR X ow ρ s.heap σ → Bx X ow → ∀ (Q : Value → Shared → Prop), (∀ v r X2 ow2 ρ2 σ2 hz2 tk2, Xc X X2 → SR X2 ow2 ρ2 hz2 σ2 → Bx X2 ow2 → VR (Pz hz2 ow2) X.w v r → K r X2 σ2 → Q v { s with heap := hz2, toks := tk2 }) → wpG (model af X.w) X.A (eval e X.env) Q F0 s
section
variable {X : Fx} {σ : SS} {K : Bool → Prop}
theorem Xc.kp {X X2 : Fx} {h' : Heap} (c : Xc X X2) (k : Kp X2.hz0 (frs X2.outer) h') : Kp X.hz0 (frs X.outer) h' := by
 have e : X2.outer = X.outer := by rw [c.eq]
 rw [e] at k
 refine ⟨fun b o z nb => k.keep b o (c.turn.other b o z nb) nb, fun b o z m => ?_⟩
 obtain ⟨sl, y⟩ := c.turn.frame b o z m
 obtain ⟨sl', y'⟩ := k.slot b _ y m
 exact ⟨sl', y'⟩
theorem i6 {st : Stmt} {rest : List Stmt} (h : JSG X st σ fun f σ1 => match f with | .next => JBX X rest σ1 K | .ret v => ∃ b, v = .v (.bool b) ∧ K b | _ => False) : JBX X (st :: rest) σ K := by
 intro ow ρ s S B Q q
 refine cK (h ow ρ s S _ fun a sa σ1 ow1 ρ1 hz1 tk1 ez1 S1 rz1 kz1 => ?_)
 induction rz1 using RF.casesOn with
 | next => exact kz1 ow1 ρ1 { s with heap := hz1, toks := tk1 } S1 (B.up ez1.own) Q q
 | brk => exact kz1.elim
 | cont => exact kz1.elim
 | ret r =>
  obtain ⟨b, rfl, k⟩ := kz1
  cases r.inv
  obtain ⟨mf, ml, F, n, c1, c2, l⟩ := S1.fr
  exact q b hz1 tk1 (.of_keep F.keep) k
theorem qf {t : Expr} {a rest : List Stmt} {pos : Pos} (h : JTX X t σ fun b X2 σ2 => Br b (JBX X2 a σ2 K) (JBX X2 rest σ2 K)) : JBX X (.If t a [] pos :: rest) σ K := by
 intro ow ρ s S B Q q
 refine cK (BF (h ow ρ s S B _ fun b X2 ow2 ρ2 σ2 hz2 tk2 c S2 Bz2 k => ?_))
 have eA : X2.A = X.A := by rw [c.eq]
 have eE : X2.env = X.env := by rw [c.eq]
 have eW : X2.w = X.w := by rw [c.eq]
 induction b using Bool.casesOn with
 | true =>
  have go := k ow2 ρ2 { s with heap := hz2, toks := tk2 } S2 Bz2
  rw [eA, eE, eW] at go
  exact go _ fun b h' tk' kp kb => q b h' tk' (c.kp kp) kb
 | false =>
  have := k ow2 ρ2 { s with heap := hz2, toks := tk2 } S2 Bz2 _ fun b h' tk' kp kb => q b h' tk' (c.kp kp) kb
  rw [eA, eE, eW] at this
  exact nv this
theorem ng (O : X.Ok) {K : SV → Fx → SS → Prop} {f : Addr} {D U : Nat} {sp : Spec} {x : Str} {px pos : Pos} {a : Expr} {args : List Expr} (hf : kE X.w f D U sp) (hD : D ≤ X.D) (hU : U ≤ X.U) (hs : az (a :: args) = true) (hk : keepIn (tp.heap_1 X.w.params) (.ref f) = true)
  (hx : X.env.kindOf x = some .globalImplicit) (hd : (x == ("__debug__" : Str)) = false) (e : nsIn (tp.heap_1 X.w.params) mainGlobals x = some (some (.ref f)))
  (h : JLG X pos (a :: args) σ fun as σ1 => du as = true ∧ sp as [] fun r _ => ∀ X2, Xc X X2 → K r X2 σ1) : JEX X (.Call (.Name x px) (a :: args) [] pos) σ K := by
 intro ow ρ s S B Q q
 have room := O.room
 have units := O.units
 refine sx (.of (g9 O S hx hd e ?_))
 refine gq (aC hs) hk ?_
 have sp' : backTo pos (starEach (a :: args) X.env) = (false, eval a X.env) :: backTo pos (starEach args X.env) := by rw [am hs]; rfl
 rw [sp']
 refine d6 ?_
 rw [← sp']
 refine h ow ρ s S _ fun vs as σ1 ow1 ρ1 hz1 tk1 ez1 S1 rz1 kz1 => ⟨S1.kin, ?_⟩
 have Bz1 := B.up ez1.own
 refine hf X O rfl (by lia) (by lia) B.T ow1 ρ1 σ1 { s with heap := hz1, toks := tk1 } S1 Bz1.f vs as _ (rz1.plain kz1.1) kz1.2 _ fun v r h' tk' kp rv k => ?_
 obtain ⟨X2, c, S2⟩ := S1.reset O B.T Bz1.f kp
 refine q v r X2 ow1 ρ1 σ1 h' tk' c S2 ⟨?_, ?_⟩ rv (k X2 c)
 ·have : X2.base = X.base := by rw [c.eq]
  rw [this]; exact B.T
 ·have : X2.outer = X.outer := by rw [c.eq]
  rw [this]; exact Bz1.f
theorem xC {x : Expr} {pos : Pos} {K : Bool → Fx → SS → Prop} (h : JTX X x σ fun b X2 σ2 => K (!b) X2 σ2) : JTX X (.UnaryOp .Not x pos) σ K := fun ow ρ s S B Q q =>
 gb (h ow ρ s S B _ fun b X2 ow2 ρ2 σ2 hz2 tk2 c S2 Bz2 k => q (!b) X2 ow2 ρ2 σ2 hz2 tk2 c S2 Bz2 k)
theorem u1 {e : Expr} {K : Bool → Fx → SS → Prop} (h : JEX X e σ fun v X2 σ2 => ∃ b, v = .bool b ∧ K b X2 σ2) (hp : isTrue e X.env (eval e X.env) = (do let v ← eval e X.env; standAt (Expr.pos e); holding [v] (truthy v))) : JTX X e σ K := fun ow ρ s S B Q q =>
 eF (h ow ρ s S B _ fun v r X2 ow2 ρ2 σ2 hz2 tk2 c S2 Bz2 rv k => by
  obtain ⟨b, rfl, k⟩ := k
  cases rv
  exact .of (wpAny_truthy_bool (q b X2 ow2 ρ2 σ2 hz2 tk2 c S2 Bz2 k))) hp
theorem mM {l r : Expr} {op : CmpOp} {pos : Pos} {K : Bool → Fx → SS → Prop} (hm : behindInMarks op r = false)
  (h : JEX X l σ fun a X2 σ2 => JE X2 r σ2 fun b σ3 => J2 X2 (compareOp op) (.v a) b σ3 fun c σ4 => JTr X2 c σ4 fun t σ5 => K t X2 σ5) : JTX X (.Compare l [op] [r] pos) σ K := by
 intro ow ρ s S B Q q
 refine dj hm (h ow ρ s S B _ fun v a X2 ow2 ρ2 σ2 hz2 tk2 c S2 Bz2 rv k => ?_)
 have eA : X2.A = X.A := by rw [c.eq]
 have eE : X2.env = X.env := by rw [c.eq]
 have eW : X2.w = X.w := by rw [c.eq]
 rw [← eA, ← eE, ← eW]
 rw [← eW] at rv
 refine .of (k ow2 ρ2 { s with heap := hz2, toks := tk2 } S2 _ _ fun v3 b σ3 ow3 ρ3 hz3 tk3 ez3 S3 rz3 kz3 => ?_)
 refine .of (kz3 ow3 ρ3 { s with heap := hz3, toks := tk3 } v v3 S3 (S2.ar ez3 (.v rv)) rz3 _ _ fun v4 d σ4 ow4 ρ4 hz4 tk4 ez4 S4 rz4 kz4 => ?_)
 refine .of (kz4 ow4 ρ4 { s with heap := hz4, toks := tk4 } v4 S4 rz4 _ _ fun t t' σ5 ow5 ρ5 hz5 tk5 ez5 S5 rz5 kz5 => ?_)
 obtain rfl : t = t' := rz5
 exact q t X2 ow5 ρ5 σ5 hz5 tk5 c S5 (Bz2.up fun b z => ez5.own b (ez4.own b (ez3.own b z))) kz5
theorem u0 {e : Expr} {rest : List Stmt} {pos : Pos} (h : JEX X e σ fun v X2 σ2 => ∃ b, v = .bool b ∧ K b) : JBX X (.Return (some e) pos :: rest) σ K := by
 intro ow ρ s S B Q q
 refine cK (ny (h ow ρ s S B _ fun v r X2 ow2 ρ2 σ2 hz2 tk2 c S2 Bz2 rv k => ?_))
 obtain ⟨b, rfl, k⟩ := k
 cases rv
 obtain ⟨mf, ml, F, n, c1, c2, l⟩ := S2.fr
 exact q b hz2 tk2 (c.kp (.of_keep F.keep)) k
theorem zl {a b : Expr} {pos : Pos} {K : SV → Fx → SS → Prop} (O : X.Ok) (h : JE X a σ fun v σ1 => ∃ t, v = .v (.bool t) ∧ (t = true → ∀ X2, Xc X X2 → K (.bool true) X2 σ1) ∧ (t = false → JEX X b σ1 K))
  (hb : eval (.BoolOp .Or [b] pos) X.env = eval b X.env) : JEX X (.BoolOp .Or [a, b] pos) σ K := by
 intro ow ρ s S B Q q
 refine ij (.of (h ow ρ s S _ _ fun v sv σ1 ow1 ρ1 hz1 tk1 ez1 S1 rz1 kz1 => ?_))
 obtain ⟨t, rfl, k1, k2⟩ := kz1
 cases rz1.inv
 refine .of (wpAny_truthy_bool ?_)
 have Bz1 := B.up ez1.own
 induction t using Bool.casesOn with
 | true => exact q _ _ X ow1 ρ1 σ1 hz1 tk1 (.refl O) S1 Bz1 (.bool _) (k1 rfl X (.refl O))
 | false =>
  show wpG _ _ (eval (.BoolOp .Or [b] pos) X.env) _ _ _
  rw [hb]
  exact k2 rfl ow1 ρ1 { s with heap := hz1, toks := tk1 } S1 Bz1 Q q
end
end
section
theorem kE.of_body {w : World} {f : Addr} {D U : Nat} {sp : Spec} {qual : Str} {params : Arguments} {body : List Stmt} {sc : Scope} {ns : List Str}
  (hf : gZ w f qual params body sc) (hb : Bnd params ns)
  (hc : dq sc ns)
  (hlen : ∀ as K, sp as [] K → as.length = ns.length)
  (h : ∀ (X : Fx) (as : List AV) (K : SV → List aa → Prop), X.Ok → X.w = w → X.D = D → X.U = U → Agr X (gU sc 0) → X.env = X.me → sp as [] K → JBX X body (aR sc ns as []) (fun b => K (.bool b) [])) : kE w f (D + 1) (U + 3) sp := by
 intro X O hw hdp hun hT ow ρ σ s S hfo vs as K R hsp Q q
 refine eX (zY hf hb hc
  X O hw hdp hun ow ρ σ s S [] [] vs as List.nodup_nil (fun a m => by cases m) cC.nil R (hlen _ _ hsp) _ ?_)
 intro X' ca hz1 tk ⟨O', hw', hD, hU, ag, hout, hbase, hh, hL, hcomp, hA, hfr, hme, keep1, caBig, S'⟩
 have J := h X' as K O' hw' hD hU ag hme hsp
 subst hw'
 refine J _ _ { s with heap := hz1, toks := tk } S' ⟨by rw [hbase]; exact hT, fun a m => ?_⟩ _ fun b h' tk' kp kb => ?_
 ·rw [hout] at m
  rcases List.mem_cons.mp m with m | m
  ·exact .inl (m ▸ S.owL)
  ·exact .inl (hfo a m)
 ·rw [hh, hout] at kp
  exact q (.bool b) (.bool b) h' tk' kp (.bool b) kb
end
section
theorem yo (f : Fm) : vb 0 f.told ++ ((tlP f).map wl).flatten = pf f := by
 have hv : vb 0 f.told = vb (lv f.told) f.told := by rw [pS]
 rw [hv]
 induction f using Fm.casesOn with
 | ack d low e => induction e using Bool.casesOn <;> simp [tlP, DW, wl, pf, nb, nT, Fm.told, List.flatten_cons]
 | close c ft l => induction ft using Bool.casesOn <;> simp [tlP, sB, wl, pf, nb, cW, Fm.told, cn]
 | stream n o l fin => induction fin using Bool.casesOn <;> simp [tlP, wl, pf, nb, stN, Fm.told, cn]
 | maxStreams u n => induction u using Bool.casesOn <;> simp [tlP, wl, pf, nb, msN, Fm.told]
 | _ => simp [tlP, wl, pf, nb, Fm.told, cn]
theorem yl {n : Int} (h0 : 0 ≤ n) (h1 : n < 4611686018427387904) : Nm (lv n) n := by
 unfold lv
 split
 ·exact ⟨.inl rfl, h0, by assumption⟩
 ·split
  ·exact ⟨.inr (.inl rfl), h0, by assumption⟩
  ·split
   ·exact ⟨.inr (.inr (.inl rfl)), h0, by assumption⟩
   ·exact ⟨.inr (.inr (.inr rfl)), h0, h1⟩
theorem f5 : ∀ {l : List Pt}, (∀ p ∈ l, p.Ok) → WR l (l.map wl).flatten
 | [], _ => rfl
 | .num n :: r, h => ⟨lv n, _, yl (h _ (.head _)).1 (h _ (.head _)).2, rfl, f5 fun p m => h p (.tail _ m)⟩
 | .cnt l :: r, h => ⟨lv l.length, _, yl (by lia) (by have : l.length ≤ 30 := h _ (.head _); lia), rfl, f5 fun p m => h p (.tail _ m)⟩
 | .raw l :: r, h => ⟨_, rfl, f5 fun p m => h p (.tail _ m)⟩
theorem x9 {wd : Wd} {f : Fm} {b : List UInt8} (hok : cq f) (h : WdR wd (tlP f) b) : WR (tlP f) b := by
 induction wd using Wd.casesOn with
 | least => have : b = _ := h; subst this; exact f5 (gP hok).1
 | wide _ _ _ => exact h
theorem kS {n : Int} (h : n < 4294967296) : n < 1000000000000 := Int.lt_trans h (by decide)
theorem De {f : Fm} {b : List UInt8} (hok : cq f) (h : WR (tlP f) b) (r : List UInt8) : BdR f (b ++ r) r := by
 induction f using Fm.casesOn with
 | ping => have : b = [] := h; subst this; rfl
 | done => have : b = [] := h; subst this; rfl
 | pathResp => obtain ⟨b', rfl, h⟩ := h; have : b' = [] := h; subst this; simp [BdR]
 | pathChal => obtain ⟨b', rfl, h⟩ := h; have : b' = [] := h; subst this; simp [BdR]
 | maxData n => obtain ⟨e, b', he, rfl, h⟩ := h; have : b' = [] := h; subst this; exact ⟨e, he, by simp⟩
 | retire n => obtain ⟨e, b', he, rfl, h⟩ := h; have : b' = [] := h; subst this; exact ⟨e, he, by simp⟩
 | maxStreams u n => obtain ⟨e, b', he, rfl, h⟩ := h; have : b' = [] := h; subst this; exact ⟨e, he, Int.le_of_lt (kS hok.2), by simp⟩
 | crypto o x => obtain ⟨e1, b1, h1, rfl, e2, b2, h2, rfl, h⟩ := h; have : b2 = [] := h; subst this; exact ⟨e1, e2, h1, h2, kS hok.2.1, by simp⟩
 | stream n o x fin => obtain ⟨e1, b1, h1, rfl, e2, b2, h2, rfl, e3, b3, h3, rfl, h⟩ := h; have : b3 = [] := h; subst this; exact ⟨e1, e2, e3, h1, h2, h3, kS hok.2.2.2.1, by simp⟩
 | ncid p c => obtain ⟨e1, b1, h1, rfl, e2, b2, h2, rfl, b3, rfl, h⟩ := h; have : b3 = [] := h; subst this; exact ⟨e1, e2, h1, h2, hok.2.2.1, Nat.le_trans hok.2.2.2 (by decide), by simp⟩
 | newToken x => obtain ⟨e, b', he, rfl, h⟩ := h; have : b' = [] := h; subst this; exact ⟨e, he, hok.1, by simp⟩
 | close c ft x =>
  induction ft using Bool.casesOn with
  | false => obtain ⟨e1, b1, h1, rfl, e3, b3, h3, rfl, h⟩ := h; have : b3 = [] := h; subst this; exact ⟨e1, e3, _, h1, h3, by simp, rfl⟩
  | true => obtain ⟨e1, b1, h1, rfl, e2, b2, h2, rfl, e3, b3, h3, rfl, h⟩ := h; have : b3 = [] := h; subst this; exact ⟨e1, e3, _, h1, h3, by simp, e2, h2, rfl⟩
 | ack d low e =>
  induction e using Bool.casesOn with
  | false =>
   refine hide fun Gz0 bk0 => ?_
   obtain ⟨e1, b1, h1, rfl, e2, b2, h2, rfl, e3, b3, h3, rfl, e4, b4, h4, rfl, e5, b5, h5, rfl, e6, b6, h6, rfl, h⟩ := h
   refine bk0 ?_; clear bk0 Gz0
   have : b6 = [] := h; subst this
   exact ⟨e1, e2, e3, e4, e5, e6, r, h1, h2, h3, h4, h5, h6, Int.le_trans (by decide) hok.2.2.1, by simp, rfl⟩
  | true =>
   refine hide fun Gz0 bk0 => ?_
   obtain ⟨e1, b1, h1, rfl, e2, b2, h2, rfl, e3, b3, h3, rfl, e4, b4, h4, rfl, e5, b5, h5, rfl, e6, b6, h6, rfl, f1, c1, g1, rfl, f2, c2, g2, rfl, f3, c3, g3, rfl, h⟩ := h
   refine bk0 ?_; clear bk0 Gz0
   have : c3 = [] := h; subst this
   exact ⟨e1, e2, e3, e4, e5, e6, _, h1, h2, h3, h4, h5, h6, Int.le_trans (by decide) hok.2.2.1, by simp, f1, f2, f3, g1, g2, g3, rfl⟩
noncomputable def LwR (wd : Wd) (f : Fm) (l : List UInt8) : Prop := ∃ b, l = vb 0 f.told ++ b ∧ WdR wd (tlP f) b
theorem tC {f : Fm} {l : List UInt8} (h : LwR .least f l) : l = pf f := by
 obtain ⟨b, rfl, h⟩ := h
 have : b = _ := h
 rw [this]; exact yo f
theorem Dg (f : Fm) : LwR .least f (pf f) := ⟨_, (yo f).symm, rfl⟩
theorem lA : ∀ {l : List Pt} {b : List UInt8}, (∀ p ∈ l, p.Ok) → WR l b → b.length ≤ 38 * l.length
 | [], b, _, h => by have : b = [] := h; subst this; exact Nat.zero_le _
 | .num n :: r, b, hp, h => by
  obtain ⟨e, b', he, rfl, h⟩ := h
  have := lA (fun p m => hp p (.tail _ m)) h
  have := cH e n
  rw [List.length_append, List.length_cons]; lia
 | .cnt l :: r, b, hp, h => by
  obtain ⟨e, b', he, rfl, h⟩ := h
  have := lA (fun p m => hp p (.tail _ m)) h
  have := cH e l.length
  have : l.length ≤ 30 := hp _ (.head _)
  rw [List.length_append, List.length_append, List.length_cons]; lia
 | .raw l :: r, b, hp, h => by
  obtain ⟨b', rfl, h⟩ := h
  have := lA (fun p m => hp p (.tail _ m)) h
  have : l.length ≤ 30 := hp _ (.head _)
  rw [List.length_append, List.length_cons]; lia
theorem z8 {wd : Wd} {f : Fm} {l : List UInt8} (hok : cq f) (h : LwR wd f l) : l.length ≤ 400 := by
 obtain ⟨b, rfl, h⟩ := h
 have h1 := lA (gP hok).1 (x9 hok h)
 have h2 := (gP hok).2
 have h3 := cH 0 f.told
 rw [List.length_append]; lia
inductive cw (wd : Wd) : List Fm → List (List UInt8) → Prop
 | nil : cw wd [] []
 | cons {f : Fm} {fs : List Fm} {l : List UInt8} {ls : List (List UInt8)} : LwR wd f l → cw wd fs ls → cw wd (f :: fs) (l :: ls)
theorem cw.frs {wd : Wd} {fs : List Fm} {ls : List (List UInt8)} (hok : ∀ f ∈ fs, cq f) (h : cw wd fs ls) : uG fs ls.flatten := by
 induction h with
 | nil => rfl
 | cons h r ih =>
  obtain ⟨b, rfl, h⟩ := h
  have hf := hok _ (.head _)
  exact ⟨_, _, by rw [List.flatten_cons, List.append_assoc], De hf (x9 hf h) _, ih fun g m => hok g (.tail _ m)⟩
theorem cw.len {wd : Wd} {fs : List Fm} {ls : List (List UInt8)} (hok : ∀ f ∈ fs, cq f) (h : cw wd fs ls) : ls.flatten.length ≤ 400 * fs.length ∧ ls.length = fs.length := by
 induction h with
 | nil => exact ⟨Nat.le_refl _, rfl⟩
 | cons h r ih =>
  have h1 := z8 (hok _ (.head _)) h
  obtain ⟨h2, h3⟩ := ih fun g m => hok g (.tail _ m)
  refine ⟨?_, by rw [List.length_cons, List.length_cons, h3]⟩
  rw [List.flatten_cons, List.length_append, List.length_cons]; lia
theorem cw.least {fs : List Fm} {ls : List (List UInt8)} (h : cw .least fs ls) : ls = fs.map pf := by
 induction h with
 | nil => rfl
 | cons h r ih => rw [tC h, ih]; rfl
theorem cw.pf (fs : List Fm) : cw .least fs (fs.map pf) := by
 induction fs with
 | nil => exact .nil
 | cons f fs ih => exact .cons (Dg f) ih
theorem s9 {fs : List Fm} (hok : ∀ f ∈ fs, cq f) : uG fs (fs.map pf).flatten := (cw.pf fs).frs hok
end
section
inductive h7 {α β : Type} (R : α → β → Prop) : List α → List β → Prop
 | nil : h7 R [] []
 | cons {a : α} {as : List α} {b : β} {bs : List β} : R a b → h7 R as bs → h7 R (a :: as) (b :: bs)
theorem nW {α β : Type} {T : Tb} {C : Ct} {x : Str} {elt : Expr} {cel : List aa} {K : List SV → List aa → Prop} (sv : α → SV) (out : β → SV) (R : α → β → Prop) (m : Nat) : ∀ (its : List α) (acc : List SV) (n : Nat), its.length + m + 1 ≤ n →
  (∀ d ∈ its, ∀ (k : Nat) (K' : AV → SS → Prop), (∀ y, R d y → K' (.v (out y)) ⟨[(x, .v (sv d))], cel⟩) → run T (k + m) C (.e elt ⟨[(x, .v (sv d))], cel⟩ K')) → (∀ ys, h7 R its ys → K (acc ++ ys.map out) cel) → run T n C (.c x [] elt (its.map sv) acc cel K) := by
 intro its0
 induction its0 with
 | nil =>
  intro acc n hn _ k
  obtain ⟨n, rfl⟩ := g8 hn
  have k := k [] .nil
  rw [List.map_nil, List.append_nil] at k
  exact k
 | cons d its ih =>
  intro acc n hn te k
  obtain ⟨n, rfl⟩ := fu hn
  rw [List.length_cons] at hn
  refine te d (.head _) n _ fun y hy => ?_
  refine ih (acc ++ [out y]) (n + m) (by lia) (fun d hd => te d (.tail _ hd)) fun ys hys => ?_
  have k := k (y :: ys) (.cons hy hys)
  rw [List.map_cons] at k
  rw [List.append_assoc]
  exact k
theorem h7.lw {wd : Wd} {fs : List Fm} {ls : List (List UInt8)} (h : h7 (LwR wd) fs ls) : cw wd fs ls := by
 induction h with
 | nil => exact .nil
 | cons h _ ih => exact .cons h ih
noncomputable def pk (w : World) (i : Nat) : Stmt := (bd 492).getD i (.Pass default)
theorem Ec (w : World) : bd 492 = [pk w 0, pk w 1, pk w 2, pk w 3, pk w 4, pk w 5, pk w 6, pk w 7, pk w 8, pk w 9, pk w 10] := by kernel_rfl
noncomputable def b8 : Tb := { glob := [("_law_written", .ref 473), ("read_frames", .ref 262), ("put_frames", .ref 404), ("sum", .bi .sum), ("frame_size", .ref 411), ("len", .bi .len), ("_law_may_be", .ref 480), ("_law_judged", .ref 487), ("any_eliciting", .ref 301), ("any_in_flight", .ref 306), ("are_probing", .ref 311)], fn := [(473, ce), (262, bZ), (480, gz), (301, pF), (306, oJ), (311, uj)], fnG := [(404, gn), (411, fe)], cls := [], field := [], meth := [] }
noncomputable def pk0 (w : World) (fs : List Fm) (p : Pk) (c : Bool) (wd : Wd) : SS := aR (scp 492) ["row", "packet", "sender", "wider"] [.v (.lst (fs.map Fm.sv)), .v (.str p.short), .v (.str (b0 c)), .v wd.sv] []
theorem uU {wd : Wd} {fs : List Fm} {ls : List (List UInt8)} (hok : ∀ f ∈ fs, cq f) (hl : fs.length ≤ 4) (h : cw wd fs ls) : Nat.ble (dC ls) 1048576 = true := by
 have := (h.len hok).1
 have e : dC ls = ls.flatten.length := by rw [gF, List.length_flatten]
 rw [e]
 exact ah (by lia)
theorem st0 (w : World) (fs : List Fm) (p : Pk) (c : Bool) (wd : Wd) (hok : ∀ f ∈ fs, cq f) (hl : fs.length ≤ 4) : run b8 200 (cy 492 w 0 []) (.s (pk w 0) (pk0 w fs p c wd) fun f σ1 => f = .next ∧ σ1 = ⟨("least", .v (.bytes (fs.map pf).flatten)) :: (pk0 w fs p c wd).loc, (pk0 w fs p c wd).cel⟩) := by
 apply Gd.mk
 ·exact ah (by rw [List.length_map]; lia)
 refine ⟨?_⟩
 refine nW Fm.sv SV.bytes (LwR .least) 20 _ _ _ (Nat.le_trans (m := 41) (by lia) (by decide)) (fun f hf k K' hk => ?_) fun ys hys => ?_
 ·refine ce.mk f .least rfl rfl (hok f hf) trivial rfl (fun b hb => ?_)
  exact hk _ ⟨b, rfl, hb⟩
 ·have hy := hys.lw
  rw [List.nil_append]
  conv => whnf
  rw [di]
  apply Gd.mk
  ·exact uU hok hl hy
  conv => whnf
  refine ⟨rfl, ?_⟩
  rw [hy.least]
theorem st1 (w : World) (fs : List Fm) (p : Pk) (c : Bool) (wd : Wd) (v : AV) (hok : ∀ f ∈ fs, cq f) (hl : fs.length ≤ 4) (hne : fs ≠ []) (hw : wd.Ok) : run b8 200 (cy 492 w 0 []) (.s (pk w 1) ⟨("least", v) :: (pk0 w fs p c wd).loc, (pk0 w fs p c wd).cel⟩ fun f σ1 => f = .next ∧ σ1 = ⟨("told", .v (.lst (fs.map Fm.sv))) :: ("least", v) :: (pk0 w fs p c wd).loc, (pk0 w fs p c wd).cel⟩) := by
 apply Gd.mk
 ·exact ah (by rw [List.length_map]; lia)
 refine ⟨?_⟩
 refine nW Fm.sv SV.bytes (LwR wd) 20 _ _ _ (Nat.le_trans (m := 41) (by lia) (by decide)) (fun f hf k K' hk => ?_) fun ys hys => ?_
 ·refine ce.mk f wd rfl rfl (hok f hf) hw rfl (fun b hb => ?_)
  exact hk _ ⟨b, rfl, hb⟩
 ·have hy := hys.lw
  rw [List.nil_append]
  conv => whnf
  rw [di]
  apply Gd.mk
  ·exact uU hok hl hy
  refine bZ.mk fs hne (hy.frs hok) (by lia) (by have := (hy.len hok).1; lia) ?_
  conv => whnf
  exact ⟨rfl, rfl⟩
end
section
noncomputable def pk2 (w : World) (fs : List Fm) (p : Pk) (c : Bool) (wd : Wd) : SS := ⟨("told", .v (.lst (fs.map Fm.sv))) :: ("least", .v (.bytes (fs.map pf).flatten)) :: (pk0 w fs p c wd).loc, (pk0 w fs p c wd).cel⟩
theorem st2 (w : World) (fs : List Fm) (p : Pk) (c : Bool) (wd : Wd) (hok : ∀ f ∈ fs, cq f) (hl : fs.length ≤ 4) (hne : fs ≠ []) : jT b8 200 (cy 492 w 0 []) (.s (pk w 2) (pk2 w fs p c wd) fun f σ1 => f = .next ∧ σ1 = pk2 w fs p c wd) := by
 refine .inl ⟨rfl, lQ fs, ?_⟩
 refine gn.mk fs rfl rfl hok (by lia) ?_
 conv => whnf
 rw [show ((fs.map pf).flatten != (fs.map pf).flatten) = false from by simp]
 refine gn.mk fs rfl rfl hok (by lia) ?_
 refine bZ.mk fs hne (s9 hok) (by lia) (by have := ((cw.pf fs).len hok).1; lia) ?_
 refine .inl ⟨rfl, lQ fs, ?_⟩
 exact And.intro rfl rfl
theorem i9 : ∀ fs : List Fm, cU (fs.map fun f => SV.int ((pf f).length : Int)) = some (fs.map fun f => ((pf f).length : Int))
 | [] => rfl
 | f :: fs => by
  rw [List.map_cons, List.map_cons]
  unfold cU
  rw [i9 fs]; rfl
theorem qA : ∀ fs : List Fm, (fs.map fun f => ((pf f).length : Int)).sum = ((fs.map pf).flatten.length : Int)
 | [] => rfl
 | f :: fs => by
  rw [List.map_cons, List.sum_cons, qA fs, List.map_cons, List.flatten_cons, List.length_append]; push_cast; rfl
theorem st3 (w : World) (fs : List Fm) (p : Pk) (c : Bool) (wd : Wd) (hok : ∀ f ∈ fs, cq f) (hl : fs.length ≤ 4) (hne : fs ≠ []) : jT b8 200 (cy 492 w 0 []) (.s (pk w 3) (pk2 w fs p c wd) fun f σ1 => f = .next ∧ σ1 = pk2 w fs p c wd) := by
 apply Gd.mk
 ·exact ah (by rw [List.length_map]; lia)
 refine ⟨?_⟩
 refine iY Fm.sv (fun f => .int ((pf f).length : Int)) 20 _ _ _ (Nat.le_trans (m := 41) (by lia) (by decide)) (fun f hf k K' hk => ?_) ?_
 ·refine fe.mk f rfl rfl (hok f hf) ?_
  exact hk
 ·rw [List.nil_append]
  conv => whnf
  rw [i9]
  apply Gd.mk
  ·exact ah (by have := ((cw.pf fs).len hok).1; lia)
  conv => whnf
  rw [qA]
  apply Br.f
  ·exact by simp
  exact And.intro rfl rfl
theorem st4 (w : World) (fs : List Fm) (p : Pk) (c : Bool) (wd : Wd) (hl : fs.length ≤ 4) : run b8 200 (cy 492 w 0 []) (.s (pk w 4) (pk2 w fs p c wd) fun f σ1 => f = .next ∧ σ1 = ⟨("wrong", .v (.lst ((fs.filter fun f => !okF p c f).map Fm.sv))) :: (pk2 w fs p c wd).loc, (pk2 w fs p c wd).cel⟩) := by
 apply Gd.mk
 ·exact ah (by rw [List.length_map]; lia)
 refine ⟨?_⟩
 refine bv Fm.sv Fm.sv (fun f => !okF p c f) 20 _ _ _ (Nat.le_trans (m := 41) (by lia) (by decide)) (fun f _ n K' hk => ?_) (fun f _ n K' hk => ?_) ?_
 ·refine gz.mk f p c rfl rfl rfl rfl ?_
  exact hk
 ·exact hk
 ·rw [List.nil_append]
  conv => whnf
  exact ⟨rfl, rfl⟩
end
section
noncomputable def pk4 (w : World) (fs : List Fm) (p : Pk) (c : Bool) (wd : Wd) : SS := ⟨("wrong", .v (.lst ((fs.filter fun f => !okF p c f).map Fm.sv))) :: (pk2 w fs p c wd).loc, (pk2 w fs p c wd).cel⟩
noncomputable def knS (f : Fm) : SV := .str (kn f)
theorem st6 (w : World) (fs : List Fm) (p : Pk) (c : Bool) (wd : Wd) (hl : fs.length ≤ 4) : run b8 200 (cy 492 w 0 []) (.s (pk w 6) (pk4 w fs p c wd) fun f σ1 => f = .next ∧ σ1 = ⟨("kinds", .v (.lst (fs.map knS))) :: (pk4 w fs p c wd).loc, (pk4 w fs p c wd).cel⟩) := by
 apply Gd.mk
 ·exact ah (by rw [List.length_map]; lia)
 refine ⟨?_⟩
 refine uD Fm.sv knS 20 _ _ _ (Nat.le_trans (m := 41) (by lia) (by decide)) (fun f _ n K' hk => ?_) ?_
 ·obtain ⟨tl, hsv, hble⟩ := fw f
  rw [hsv]
  rw [hsv] at hk
  apply Gd.mk
  ·exact hble
  exact hk
 ·rw [List.nil_append]
  conv => whnf
  exact ⟨rfl, rfl⟩
theorem st7 (w : World) (fs : List Fm) (p : Pk) (c : Bool) (wd : Wd) (hl : fs.length ≤ 4) : run b8 200 (cy 492 w 0 []) (.s (pk w 7) ⟨("kinds", .v (.lst (fs.map knS))) :: (pk4 w fs p c wd).loc, (pk4 w fs p c wd).cel⟩ fun f σ1 => f = .next ∧ σ1 = ⟨("asking", .v (.lst ((fs.filter eB).map knS))) :: ("kinds", .v (.lst (fs.map knS))) :: (pk4 w fs p c wd).loc, (pk4 w fs p c wd).cel⟩) := by
 apply Gd.mk
 ·exact ah (by rw [List.length_map]; lia)
 refine ⟨?_⟩
 refine bv knS knS eB 20 _ _ _ (Nat.le_trans (m := 41) (by lia) (by decide)) (fun f _ n K' hk => ?_) (fun f _ n K' hk => ?_) ?_
 ·induction f using Fm.casesOn
  all_goals
   exact hk
 ·exact hk
 ·rw [List.nil_append]
  conv => whnf
  exact ⟨rfl, rfl⟩
theorem st8 (w : World) (fs : List Fm) (p : Pk) (c : Bool) (wd : Wd) (hl : fs.length ≤ 4) (v : AV) : run b8 200 (cy 492 w 0 []) (.s (pk w 8) ⟨("asking", v) :: ("kinds", .v (.lst (fs.map knS))) :: (pk4 w fs p c wd).loc, (pk4 w fs p c wd).cel⟩ fun f σ1 => f = .next ∧ σ1 = ⟨("probing", .v (.lst ((fs.filter dI).map knS))) :: ("asking", v) :: ("kinds", .v (.lst (fs.map knS))) :: (pk4 w fs p c wd).loc, (pk4 w fs p c wd).cel⟩) := by
 apply Gd.mk
 ·exact ah (by rw [List.length_map]; lia)
 refine ⟨?_⟩
 refine bv knS knS dI 20 _ _ _ (Nat.le_trans (m := 41) (by lia) (by decide)) (fun f _ n K' hk => ?_) (fun f _ n K' hk => ?_) ?_
 ·induction f using Fm.casesOn
  all_goals
   exact hk
 ·exact hk
 ·rw [List.nil_append]
  conv => whnf
  exact ⟨rfl, rfl⟩
end
section
noncomputable def pk8 (w : World) (fs : List Fm) (p : Pk) (c : Bool) (wd : Wd) (q r : List SV) : SS := ⟨("probing", .v (.lst r)) :: ("asking", .v (.lst q)) :: ("kinds", .v (.lst (fs.map knS))) :: (pk4 w fs p c wd).loc, (pk4 w fs p c wd).cel⟩
theorem st9 (w : World) (fs : List Fm) (p : Pk) (c : Bool) (wd : Wd) (hl : fs.length ≤ 4) (q r : List SV) (hq : (q = [] ∧ (fs.filter eB).isEmpty = true) ∨ (q ≠ [] ∧ (fs.filter eB).isEmpty = false)) : run b8 200 (cy 492 w 0 []) (.s (pk w 9) (pk8 w fs p c wd q r) fun f σ1 => f = .next ∧ σ1 = pk8 w fs p c wd q r) := by
 refine eJ.mk fs rfl rfl (by lia) ?_
 rcases hq with ⟨rfl, he⟩ | ⟨hn, he⟩
 ·refine .inl ⟨rfl, rfl, ?_⟩
  conv => whnf
  rw [he]
  refine eJ.mk fs rfl rfl (by lia) ?_
  refine .inl ⟨rfl, rfl, ?_⟩
  conv => whnf
  rw [he]
  exact And.intro rfl rfl
 ·refine .inr ⟨fun z => hn (List.length_eq_zero_iff.mp z), ?_⟩
  conv => whnf
  rw [he]
  refine eJ.mk fs rfl rfl (by lia) ?_
  refine .inr ⟨fun z => hn (List.length_eq_zero_iff.mp z), ?_⟩
  conv => whnf
  rw [he]
  exact And.intro rfl rfl
theorem oF (p : Fm → Bool) : ∀ fs : List Fm, (fs.filter fun f => !p f).length + (fs.filter p).length = fs.length := by
 intro its0
 induction its0 with
 | nil =>
  exact rfl
 | cons f fs ih =>
  have := ih
  rw [List.filter_cons, List.filter_cons]
  cases p f <;> simp <;> lia
theorem xV (fs : List Fm) : ((fs.filter fun f => !dI f).isEmpty == ((((fs.filter dI).map knS).length : Int) == ((fs.map knS).length : Int))) = true := by
 have h := oF dI fs
 rw [List.length_map, List.length_map]
 cases q : fs.filter fun f => !dI f with
 | nil =>
  rw [q, List.length_nil] at h
  have : ((fs.filter dI).length : Int) = (fs.length : Int) := by lia
  rw [this]; simp
 | cons a l =>
  rw [q, List.length_cons] at h
  have : ¬ ((fs.filter dI).length : Int) = (fs.length : Int) := by lia
  simp [this]
theorem Fy (w : World) (fs : List Fm) (p : Pk) (c : Bool) (wd : Wd) (hl : fs.length ≤ 4) (q : List SV) : run b8 200 (cy 492 w 0 []) (.s (pk w 10) (pk8 w fs p c wd q ((fs.filter dI).map knS)) fun f σ1 => f = .ret (.v (.bool true))) := by
 refine eJ.mk fs rfl rfl (by lia) ?_
 apply Gd.mk
 ·exact ah (by rw [List.length_map]; have := List.length_filter_le dI fs; lia)
 apply Gd.mk
 ·exact ah (by rw [List.length_map]; lia)
 conv => whnf
 rw [xV]
end
section
inductive uI (w : World) : Prop
 | mk (p1 p2 p3 p4 p5 p6 p7 p8 p9 r1 r2 r3 r4 r5 r6 : Pos) (_ : pk w 5 = .If (.Compare (.Call (.Name "_law_judged" p1) [.Name "told" p2, .Name "packet" p3, .Name "sender" p4] [] p5) [.NotEq] [.IfExp (.Compare (.Name "wrong" r1) [.Eq] [.List [] r2] r3) (.Constant (.str "let") 0 r4) (.Constant (.str "refused") 0 r5) r6] p6) [.Return (some (.Constant (.bool false) 0 p7)) p8] [] p9) : uI w
theorem pk5 (w : World) : uI w := ⟨_, _, _, _, _, _, _, _, _, _, _, _, _, _, _, rfl⟩
theorem zQ {T : Tb} {X X2 : Fx} {C : Ct} (c : Ctx T X C) (h : Xc X X2) (hc : X.comp = none) : Ctx T X2 C := by
 have e := h.eq
 have o := h.ok
 obtain ⟨O, ⟨a1, a2, a3, a4⟩, tb, hU⟩ := c
 rw [e]
 rw [e] at o
 exact ⟨o, ⟨a1, a2, a3, a4⟩, tb, hU⟩
theorem kl (p : Pk) (c : Bool) : ∀ fs : List Fm, (fs.all (okF p c) = true → (fs.filter fun f => !okF p c f) = []) ∧ (fs.all (okF p c) = false → (fs.filter fun f => !okF p c f) ≠ [])
 | [] => ⟨fun _ => rfl, fun h => by cases h⟩
 | f :: fs => by
  rw [List.all_cons, List.filter_cons]
  cases okF p c f with
  | true => simp
  | false => simp
theorem jR {w : World} {X : Fx} (c : Ctx b8 X (cy 492 w 0 [])) (fs : List Fm) (p : Pk) (cl : Bool) (wd : Wd) {r1 r2 r3 r4 r5 r6 : Pos} : JE X (.IfExp (.Compare (.Name "wrong" r1) [.Eq] [.List [] r2] r3) (.Constant (.str "let") 0 r4) (.Constant (.str "refused") 0 r5) r6) (pk4 w fs p cl wd) fun a σ1 => (a = .v (.str (match fs.all (okF p cl) with | true => "let" | false => "refused"))) ∧ σ1 = pk4 w fs p cl wd := by
 refine @ai b8 100 X _ (.e _ _ _) c ?_
 cases h : fs.all (okF p cl) with
 | true =>
  have e := (kl p cl fs).1 h
  refine .inl ⟨by rw [e]; rfl, lQ _, ?_⟩
  conv => whnf
  exact ⟨rfl, rfl⟩
 | false =>
  have e := (kl p cl fs).2 h
  refine .inr ⟨fun z => e (by rw [List.length_map] at z; exact List.length_eq_zero_iff.mp z), ?_⟩
  conv => whnf
  exact ⟨rfl, rfl⟩
theorem st5 {w : World} {X : Fx} (c : Ctx b8 X (cy 492 w 0 [])) (hw : X.w = w) (hc : X.comp = none) (hD : 5 ≤ X.D) (hU : 23 ≤ X.U) (ag : Agr X (gU (scp 492) 0)) (fs : List Fm) (p : Pk) (cl : Bool) (wd : Wd) {rest : List Stmt} {K : Bool → Prop}
  (k : ∀ X2, Xc X X2 → JBX X2 rest (pk4 w fs p cl wd) K) : JBX X (pk w 5 :: rest) (pk4 w fs p cl wd) K := by
 subst hw
 obtain ⟨p1, p2, p3, p4, p5, p6, p7, p8, p9, r1, r2, r3, r4, r5, r6, e⟩ := pk5 X.w
 rw [e]
 have kind : ∀ y k, (scp 492).names.lookup y = k → X.env.kindOf y = k := fun y k z => by show X.env.scope.names.lookup y = k; rw [ag.names]; exact z
 have J1 : JE X (.Name "told" p2) (pk4 X.w fs p cl wd) (fun a σ1 => a = .v (.lst (fs.map Fm.sv)) ∧ σ1 = pk4 X.w fs p cl wd) := @ai b8 100 X _ (.e _ _ _) c (by (conv => whnf); exact ⟨rfl, rfl⟩)
 have J2 : JE X (.Name "packet" p3) (pk4 X.w fs p cl wd) (fun a σ1 => a = .v (.str p.short) ∧ σ1 = pk4 X.w fs p cl wd) := @ai b8 100 X _ (.e _ _ _) c (by (conv => whnf); exact ⟨rfl, rfl⟩)
 have J3 : JE X (.Name "sender" p4) (pk4 X.w fs p cl wd) (fun a σ1 => a = .v (.str (b0 cl)) ∧ σ1 = pk4 X.w fs p cl wd) := @ai b8 100 X _ (.e _ _ _) c (by (conv => whnf); exact ⟨rfl, rfl⟩)
 have tail : ∀ (x : Str), x = (match fs.all (okF p cl) with | true => "let" | false => "refused") → ∀ X2, Xc X X2 → JE X2 (.IfExp (.Compare (.Name "wrong" r1) [.Eq] [.List [] r2] r3) (.Constant (.str "let") 0 r4) (.Constant (.str "refused") 0 r5) r6) (pk4 X.w fs p cl wd) fun b σ3 => Mine.J2 X2 (compareOp .NotEq) (.v (.str x)) b σ3 fun c σ4 => JTr X2 c σ4 fun t σ5 => Br t (JBX X2 [.Return (some (.Constant (.bool false) 0 p7)) p8] σ5 K) (JBX X2 rest σ5 K) := by
  intro x hx X2 h2
  have c2 := zQ c h2 hc
  refine (jR c2 fs p cl wd).mono fun a σ3 z => ?_
  obtain ⟨rfl, rfl⟩ := z
  subst hx
  have hU2 : 10 ≤ X2.U := by
   have : X2.U = X.U := by rw [h2.eq]
   lia
  refine dY c2.ok hU2 ?_
  cases fs.all (okF p cl) with
  | true => exact m6 (k X2 h2)
  | false => exact m6 (k X2 h2)
 refine qf (mM rfl (ng c.ok (yR X.w) hD hU rfl (by kernel_rfl) (kind "_law_judged" _ (by kernel_rfl)) (by decide) (by kernel_rfl) (.of ?_)))
 refine aH rfl (J1.mono fun a σ1 z => ?_)
 obtain ⟨rfl, rfl⟩ := z
 refine aH rfl (J2.mono fun a σ1 z => ?_)
 obtain ⟨rfl, rfl⟩ := z
 refine aH rfl (J3.mono fun a σ1 z => ?_)
 obtain ⟨rfl, rfl⟩ := z
 refine dB ⟨rfl, fs, p, cl, rfl, rfl, rfl, rfl, fun h X2 h2 => tail _ ?_ X2 h2, fun h X2 h2 => tail _ ?_ X2 h2⟩
 ·rw [h]
 ·rw [h]
end
section
inductive yk : List AV → List aa → (SV → List aa → Prop) → Prop
 | mk {l : List SV} {y : Str} {z : Str} {d : SV} {cel : List aa} {K : SV → List aa → Prop} (fs : List Fm) (p : Pk) (c : Bool) (wd : Wd) (_ : l = fs.map Fm.sv) (_ : y = p.short) (_ : z = b0 c) (_ : d = wd.sv) (_ : cel = []) (_ : (∀ f ∈ fs, cq f)) (_ : fs.length ≤ 4) (_ : fs ≠ []) (_ : wd.Ok) (_ : K (.bool true) []) : yk [.v (.lst l), .v (.str y), .v (.str z), .v d] cel K
theorem BP (w : World) : aD 492 w := ⟨_, _, _, _, _, _, _, _, _, rfl, by kernel_rfl⟩
theorem xS (w : World) : Bnd (prm 492) ["row", "packet", "sender", "wider"] := AS fun _ _ _ _ _ => by kernel_rfl
theorem yL (w : World) : dq (scp 492) ["row", "packet", "sender", "wider"] := by kernel_rfl
theorem bR {X : Fx} {st : Stmt} {rest : List Stmt} {σ σ' : SS} {K : Bool → Prop} (h : JSG X st σ fun f σ1 => f = .next ∧ σ1 = σ') (k : JBX X rest σ' K) : JBX X (st :: rest) σ K :=
 i6 (h.mono fun f σ1 z => by obtain ⟨rfl, rfl⟩ := z; exact k)
theorem zd (w : World) : kE w 492 10 40 yk := by
 refine kE.of_body (D := 9) (U := 37) (ns := ["row", "packet", "sender", "wider"]) (BP w) (xS w) (yL w) (fun as K h => by
  cases h; rfl) fun X as K O hw hD hU ag hme h => ?_
 obtain ⟨fs, p, c, wd, rfl, rfl, rfl, rfl, _, hok, hl, hne, hwd, k⟩ := h
 subst hw
 have tb : iy X.w X.D X.U b8 := by rw [hD, hU]; exact (aJ (.cons (EH X.w) (.cons (DD X.w) (.cons (DF X.w) (.cons (Ft X.w) (.cons (Ff X.w) (.cons (fz X.w) (.cons (D7 X.w) (.cons (ED X.w) (.cons (Eo X.w) (.cons (EC X.w) (.cons (Fd X.w) .nil))))))))))) (.cons (DT X.w) rfl rfl (by kernel_rfl) (.cons (yf X.w) rfl rfl (by kernel_rfl) (.cons (DN X.w) rfl rfl (by kernel_rfl) (.cons (CM X.w) rfl rfl (by kernel_rfl) (.cons (Ax X.w) rfl rfl (by kernel_rfl) (.cons (BE X.w) rfl rfl (by kernel_rfl) .nil)))))) (.cons (yj X.w) rfl rfl (by kernel_rfl) (.cons (AE X.w) rfl rfl (by kernel_rfl) .nil)) .nil .nil)
 have cx : Ctx b8 X (cy 492 X.w 0 []) := ⟨O, ⟨ag.names, ag.vid, fun _ => ag.comp, aY O⟩, tb, by rw [hU]; decide⟩
 have hc := ag.comp
 rw [Ec]
 refine bR (.of (@ai b8 200 X _ (.s _ _ _) cx (st0 X.w fs p c wd hok hl))) ?_
 refine bR (.of (@ai b8 200 X _ (.s _ _ _) cx (st1 X.w fs p c wd _ hok hl hne hwd))) ?_
 refine bR (@cZ b8 200 X _ (.s _ _ _) cx (st2 X.w fs p c wd hok hl hne)) ?_
 refine bR (@cZ b8 200 X _ (.s _ _ _) cx (st3 X.w fs p c wd hok hl hne)) ?_
 refine bR (.of (@ai b8 200 X _ (.s _ _ _) cx (st4 X.w fs p c wd hl))) ?_
 refine st5 cx rfl hc (by lia) (by lia) ag fs p c wd fun X2 h2 => ?_
 have c2 := zQ cx h2 hc
 have eW : X2.w = X.w := by rw [h2.eq]
 refine bR (.of (@ai b8 200 X2 _ (.s _ _ _) c2 (st6 X.w fs p c wd hl))) ?_
 refine bR (.of (@ai b8 200 X2 _ (.s _ _ _) c2 (st7 X.w fs p c wd hl))) ?_
 refine bR (.of (@ai b8 200 X2 _ (.s _ _ _) c2 (st8 X.w fs p c wd hl _))) ?_
 refine bR (.of (@ai b8 200 X2 _ (.s _ _ _) c2 (st9 X.w fs p c wd hl _ _ ?_))) ?_
 ·cases q : fs.filter eB with
  | nil => exact .inl ⟨rfl, rfl⟩
  | cons a l => exact .inr ⟨(fun z => by cases z), rfl⟩
 refine i6 (JSG.mono (.of (@ai b8 200 X2 _ (.s _ _ _) c2 (Fy X.w fs p c wd hl _))) fun f σ1 z => ?_)
 subst z
 exact ⟨true, rfl, k⟩
end
section
theorem Ce (w : World) : aD 497 w := ⟨_, _, _, _, _, _, _, _, _, rfl, by kernel_rfl⟩
theorem wC (w : World) : Bnd (prm 497) ["script"] := b7 fun _ _ => by kernel_rfl
theorem zi (w : World) : dq (scp 497) ["script"] := by kernel_rfl
noncomputable def lw (w : World) (i : Nat) : Stmt := (bd 497).getD i (.Pass default)
theorem E0 (w : World) : bd 497 = [lw w 0, lw w 1, lw w 2, lw w 3, lw w 4, lw w 5, lw w 6, lw w 7, lw w 8] := by kernel_rfl
end
section
noncomputable def da : Tb := { glob := [("_law_kinds", fV), ("_law_take", .ref 426), ("_law_frame", .ref 447), ("range", .ty .range), ("without_kinds", .ref 337), ("read_frames", .ref 262), ("put_frames", .ref 404)], fn := [(426, aS), (447, dH), (337, cQ), (262, bZ)], fnG := [(404, gn)], cls := [], field := [], meth := [] }
noncomputable abbrev lct (w : World) : Ct := cy 497 w 0 [429010]
noncomputable abbrev lS (loc : List (Str × AV)) (kd : aa) (ms : List Int) (j : Nat) (h : Int) : SS := ⟨loc, kd :: .vcell (.c 2) :: bx ms j h⟩
theorem mW {T : Tb} {C : Ct} {x : Str} {elt : Expr} {β : Type} (out : β → SV) (P : β → Prop) (cel : Nat → Int → List aa) (I : Nat → Int → Prop) (m : Nat) {K : List SV → List aa → Prop} : ∀ (its : List SV) (acc : List SV) (n : Nat) (j : Nat) (h : Int), its.length + m + 1 ≤ n → I j h →
  (∀ d ∈ its, ∀ (k : Nat) (K' : AV → SS → Prop) (j : Nat) (h : Int), I j h → (∀ y j' h', P y → I j' h' → K' (.v (out y)) ⟨[(x, .v d)], cel j' h'⟩) → run T (k + m) C (.e elt ⟨[(x, .v d)], cel j h⟩ K')) →
  (∀ (ys : List β) j' h', ys.length = its.length → (∀ y ∈ ys, P y) → I j' h' → K (acc ++ ys.map out) (cel j' h')) → run T n C (.c x [] elt its acc (cel j h) K) := by
 intro its0
 induction its0 with
 | nil =>
  intro acc n j h hn i _ k
  obtain ⟨n, rfl⟩ := g8 hn
  have k := k [] j h rfl (fun y m => by cases m) i
  rw [List.map_nil, List.append_nil] at k
  exact k
 | cons d its ih =>
  intro acc n j h hn i te k
  obtain ⟨n, rfl⟩ := fu hn
  rw [List.length_cons] at hn
  refine te d (.head _) n _ j h i fun y j' h' hy i' => ?_
  refine ih (acc ++ [out y]) (n + m) j' h' (by lia) i' (fun d hd => te d (.tail _ hd)) fun ys j'' h'' e hys i'' => ?_
  have k := k (y :: ys) j'' h'' (by rw [List.length_cons, List.length_cons, e]) (fun z hz => (List.mem_cons.mp hz).elim (fun q => q ▸ hy) (hys z)) i''
  rw [List.map_cons] at k
  rw [List.append_assoc]
  exact k
theorem E2 (l : List SV) : cV l none (some 40) = l.take 40 := by
 unfold cV
 simp only [Option.elim, List.drop_zero, Nat.sub_zero]
 unfold clipAt
 rw [if_neg (by decide)]
 by_cases h : l.length ≤ 40
 ·rw [List.take_of_length_le (l := l) h, List.take_of_length_le]; lia
 ·congr 1; lia
noncomputable def sl0 (w : World) (ns : List Int) : SS := aR (scp 497) ["script"] [.v (.lst (ns.map SV.int))] []
theorem En (w : World) (ns : List Int) (hl : ns.length ≤ 63) : run da 200 (lct w) (.s (lw w 0) (sl0 w ns) fun f σ1 => f = .next ∧ σ1 = lS [("script", .v (.lst (ns.map SV.int)))] .vnone (ns.take 40) 0 43) := by
 apply Gd.mk
 ·exact ah (by rw [List.length_map]; lia)
 conv => whnf
 have e : cV (ns.map SV.int) none (some 40) = (ns.take 40).map SV.int := by rw [List.map_take, E2]
 rw [e]
 exact ⟨rfl, rfl⟩
theorem EA (w : World) (ms : List Int) (loc : List (Str × AV)) (kd : aa) (hl : ms.length ≤ 63) (K : SS → Prop) (k : ∀ (fs : List Fm) j h, (∀ f ∈ fs, cq f) → fs.length ≤ 4 → fs ≠ [] → j ≤ ms.length → 0 ≤ h → K (lS (("row", .v (.lst (fs.map Fm.sv))) :: loc) kd ms j h)) : run da 200 (lct w) (.s (lw w 1) (lS loc kd ms 0 43) fun f σ1 => f = .next ∧ K σ1) := by
 refine aS.mk ms 0 43 rfl hl (Nat.zero_le _) (by decide) (by decide) (by decide) (fun r j h r0 r1 hj hh => ?_)
 have key : ∀ (n : Nat) (r : Int), r = (n : Int) → n ≤ 3 → ∀ its, its.length = n + 1 → run da 199 (l0 (lct w) ⟨.function, [(".0", .local), ("turn", .local), ("_law_frame", .globalImplicit), ("box", .free)], false, false, []⟩) (.c "turn" [] (.Call (.Name "_law_frame" ⟨430, 11, 430, 21⟩) [.Name "box" ⟨430, 22, 430, 25⟩] [] ⟨430, 11, 430, 26⟩) its [] (kd :: .vcell (.c 2) :: bx ms j h) fun acc cel => SF.next = SF.next ∧ K ⟨("row", .v (.lst acc)) :: loc, cel⟩) := fun n r e hn its hi => by
  refine mW Fm.sv cq (fun j h => kd :: .vcell (.c 2) :: bx ms j h) (fun j h => j ≤ ms.length ∧ 0 ≤ h) 20 its [] 199 j h (by lia) ⟨hj, hh⟩ (fun d hd m K' j h i hk => ?_) fun ys j' h' e hy i => ?_
  ·refine dH.mk ms j h rfl hl i.1 i.2 (fun f j' h' hf hj' hh' => ?_)
   exact hk f j' h' hf ⟨hj', hh'⟩
  ·rw [List.nil_append]
   exact ⟨rfl, k ys j' h' hy (by lia) (fun z => by rw [z] at e; rw [List.length_nil] at e; lia) i.1 i.2⟩
 have hr := cs4 r0 r1
 rcases hr with rfl | rfl | rfl | rfl
 all_goals
  apply bh.mk
 ·exact key 0 0 rfl (by lia) _ rfl
 ·exact key 1 1 rfl (by lia) _ rfl
 ·exact key 2 2 rfl (by lia) _ rfl
 ·exact key 3 3 rfl (by lia) _ rfl
theorem EM (w : World) (ms : List Int) (j : Nat) (h : Int) (loc : List (Str × AV)) (kd : aa) (hl : ms.length ≤ 63) (hj : j ≤ ms.length) (hh : 0 ≤ h) (K : SS → Prop) (k : ∀ (wd : Wd) j h, wd.Ok → j ≤ ms.length → 0 ≤ h → K (lS (("wider", .v wd.sv) :: loc) kd ms j h)) : run da 200 (lct w) (.s (lw w 2) (lS loc kd ms j h) fun f σ1 => f = .next ∧ K σ1) := by
 apply bh.mk
 refine mW SV.int (fun r => 0 ≤ r ∧ r < 3) (fun j h => kd :: .vcell (.c 2) :: bx ms j h) (fun j h => j ≤ ms.length ∧ 0 ≤ h) 20 _ [] _ j h (Nat.le_of_ble_eq_true rfl) ⟨hj, hh⟩ (fun d hd m K' j h i hk => ?_) fun ys j' h' e hy i => ?_
 ·refine aS.mk ms j h rfl hl i.1 i.2 (by decide) (by decide) (fun r j' h' r0 r1 hj' hh' => ?_)
  exact hk r j' h' ⟨r0, r1⟩ ⟨hj', hh'⟩
 ·rw [List.nil_append]
  have e : ys.length = 3 := e
  match ys, e, hy with
  | [a, b, c], _, hy =>
   have h1 := hy a (by simp)
   have h2 := hy b (by simp)
   have h3 := hy c (by simp)
   exact ⟨rfl, k (.wide a b c) j' h' ⟨by unfold b2; lia, by unfold b2; lia, by unfold b2; lia⟩ i.1 i.2⟩
end
section
theorem Fg (w : World) (ms : List Int) (j : Nat) (h : Int) (loc : List (Str × AV)) (kd : aa) (hl : ms.length ≤ 63) (hj : j ≤ ms.length) (hh : 0 ≤ h) (K : SS → Prop) (k : ∀ (p : Pk) (c : Bool) j h, j ≤ ms.length → 0 ≤ h → K (lS (("packet", .v (.str p.short)) :: ("sender", .v (.str (b0 c))) :: loc) kd ms j h)) : run da 200 (lct w) (.s (lw w 3) (lS loc kd ms j h) fun f σ1 => f = .next ∧ K σ1) := by
 refine aS.mk ms j h rfl hl hj hh (by decide) (by decide) (fun r j h r0 r1 hj hh => ?_)
 have hr := cs4 r0 r1
 rcases hr with rfl | rfl | rfl | rfl
 all_goals
  refine aS.mk ms j h rfl hl hj hh (by decide) (by decide) (fun r j' h' r0 r1 hj' hh' => ?_)
  have hr := cs2 r0 r1
  rcases hr with rfl | rfl
  all_goals
   conv => whnf
 ·exact ⟨rfl, k .z false j' h' hj' hh'⟩
 ·exact ⟨rfl, k .z true j' h' hj' hh'⟩
 ·exact ⟨rfl, k .i false j' h' hj' hh'⟩
 ·exact ⟨rfl, k .i true j' h' hj' hh'⟩
 ·exact ⟨rfl, k .s false j' h' hj' hh'⟩
 ·exact ⟨rfl, k .s true j' h' hj' hh'⟩
 ·exact ⟨rfl, k .h false j' h' hj' hh'⟩
 ·exact ⟨rfl, k .h true j' h' hj' hh'⟩
theorem Fu (w : World) (ms : List Int) (j : Nat) (h : Int) (fs : List Fm) (a b c : AV) (loc : List (Str × AV)) (kd : aa) (hl : ms.length ≤ 63) (hj : j ≤ ms.length) (hh : 0 ≤ h) (hne : fs ≠ []) (hf : fs.length ≤ 4) (K : SS → Prop)
  (k : ∀ (x y : Str) j h, K (lS (("packet", a) :: ("sender", b) :: ("wider", c) :: ("row", .v (.lst (fs.map Fm.sv))) :: loc) (.vcell (.v (.tup [.str x, .str y]))) ms j h)) :
  run da 200 (lct w) (.s (lw w 5) (lS (("packet", a) :: ("sender", b) :: ("wider", c) :: ("row", .v (.lst (fs.map Fm.sv))) :: loc) .vnone ms j h) fun f σ1 => f = .next ∧ K σ1) := by
 obtain ⟨f, fs, rfl⟩ := List.exists_cons_of_ne_nil hne
 obtain ⟨tl, e, hb⟩ := fw f
 rw [List.length_cons] at hf
 rw [List.map_cons, e] at k
 refine aS.mk ms j h rfl hl hj hh (by decide) (by decide) (fun r j h r0 r1 hj hh => ?_)
 have hr := Dn r0 r1
 rw [List.map_cons, e]
 rcases hr with rfl | rfl | rfl | rfl | rfl | rfl | rfl | rfl | rfl | rfl | rfl | rfl | rfl
 all_goals
  apply Gd.mk
  ·exact ah (by rw [List.length_cons, List.length_map]; lia)
  apply Gd.mk
  ·exact hb
  conv => whnf
  exact ⟨rfl, k _ _ _ _⟩
theorem EQ (w : World) (ms : List Int) (j : Nat) (h : Int) (fs : List Fm) (x y : Str) (a b c : AV) (loc : List (Str × AV)) (hok : ∀ f ∈ fs, cq f) (hne : fs ≠ []) (hf : fs.length ≤ 4) :
  jT da 200 (lct w) (.s (lw w 6) (lS (("packet", a) :: ("sender", b) :: ("wider", c) :: ("row", .v (.lst (fs.map Fm.sv))) :: loc) (.vcell (.v (.tup [.str x, .str y]))) ms j h) fun f σ1 => f = .next ∧ σ1 = lS (("less", .v (.lst ((fs.filter (wB x y)).map Fm.sv))) :: ("packet", a) :: ("sender", b) :: ("wider", c) :: ("row", .v (.lst (fs.map Fm.sv))) :: loc) (.vcell (.v (.tup [.str x, .str y]))) ms j h) := by
 refine gn.mk fs rfl rfl hok (by lia) ?_
 refine bZ.mk fs hne (s9 hok) (by lia) (by have := ((cw.pf fs).len hok).1; lia) ?_
 refine cQ.mk fs rfl rfl (by lia) ?_
 conv => whnf
 exact ⟨rfl, rfl⟩
theorem Ei (w : World) (ms : List Int) (j : Nat) (h : Int) (fs : List Fm) (x y : Str) (a b c : AV) (loc : List (Str × AV)) (hf : fs.length ≤ 4) :
  run da 200 (lct w) (.s (lw w 7) (lS (("less", .v (.lst ((fs.filter (wB x y)).map Fm.sv))) :: ("packet", a) :: ("sender", b) :: ("wider", c) :: ("row", .v (.lst (fs.map Fm.sv))) :: loc) (.vcell (.v (.tup [.str x, .str y]))) ms j h) fun f σ1 => f = .next ∧ σ1 = lS (("less", .v (.lst ((fs.filter (wB x y)).map Fm.sv))) :: ("packet", a) :: ("sender", b) :: ("wider", c) :: ("row", .v (.lst (fs.map Fm.sv))) :: loc) (.vcell (.v (.tup [.str x, .str y]))) ms j h) := by
 apply Gd.mk
 ·exact ah (by rw [List.length_map]; lia)
 refine ⟨?_⟩
 refine bv Fm.sv Fm.sv (wB x y) 20 _ _ _ (Nat.le_trans (m := 41) (by lia) (by decide)) (fun f _ n K' hk => ?_) (fun f _ n K' hk => ?_) ?_
 ·obtain ⟨tl, e, hb⟩ := fw f
  rw [e] at hk ⊢
  apply Gd.mk
  ·exact hb
  conv => whnf
  rw [jg]
  exact hk
 ·exact hk
 ·rw [List.nil_append]
  refine .inl ⟨rfl, lQ _, ?_⟩
  conv => whnf
  exact ⟨rfl, rfl⟩
inductive l8 (w : World) : Prop
 | mk (p1 p2 p3 p4 q1 q2 q3 q4 q5 q6 q7 : Pos) (_ : lw w 8 = .Return (some (.BoolOp .Or [.Compare (.Name "less" p1) [.Eq] [.List [] p2] p3, .Call (.Name "_law_packet_right" q1) [.Name "less" q2, .Name "packet" q3, .Name "sender" q4, .Name "wider" q5] [] q6] p4)) q7) (_ : r9 p2 [429010] = false) : l8 w
theorem Ae (w : World) : l8 w := ⟨_, _, _, _, _, _, _, _, _, _, _, rfl, rfl⟩
inductive nF (w : World) : Prop
 | mk (q0 q1 q2 q3 q4 q5 q6 q7 q8 q9 : Pos) (_ : lw w 4 = .If (.UnaryOp .Not (.Call (.Name "_law_packet_right" q1) [.Name "row" q2, .Name "packet" q3, .Name "sender" q4, .Name "wider" q5] [] q6) q0) [.Return (some (.Constant (.bool false) 0 q7)) q8] [] q9) : nF w
theorem Ap (w : World) : nF w := ⟨_, _, _, _, _, _, _, _, _, _, rfl⟩
end
section
theorem qv {X : Fx} {ms : List Int} {j : Nat} {h : Int} {loc : List (Str × AV)} {kd : aa} (c : Ctx da X (lct X.w)) (hD : 10 ≤ X.D) (hU : 40 ≤ X.U) (ag : Agr X (gU (scp 497) 0)) (n : Str) (fs : List Fm) (p : Pk) (cl : Bool) (wd : Wd)
  (hok : ∀ f ∈ fs, cq f) (hl : fs.length ≤ 4) (hne : fs ≠ []) (hw : wd.Ok) {q1 q2 q3 q4 q5 q6 : Pos} {K : SV → Fx → SS → Prop}
  (J : ∀ q, JE X (.Name n q) (lS loc kd ms j h) fun a σ1 => a = .v (.lst (fs.map Fm.sv)) ∧ σ1 = lS loc kd ms j h) (Jp : ∀ q, JE X (.Name "packet" q) (lS loc kd ms j h) fun a σ1 => a = .v (.str p.short) ∧ σ1 = lS loc kd ms j h)
  (Js : ∀ q, JE X (.Name "sender" q) (lS loc kd ms j h) fun a σ1 => a = .v (.str (b0 cl)) ∧ σ1 = lS loc kd ms j h) (Jw : ∀ q, JE X (.Name "wider" q) (lS loc kd ms j h) fun a σ1 => a = .v wd.sv ∧ σ1 = lS loc kd ms j h)
  (k : ∀ X2, Xc X X2 → K (.bool true) X2 (lS loc kd ms j h)) : JEX X (.Call (.Name "_law_packet_right" q1) [.Name n q2, .Name "packet" q3, .Name "sender" q4, .Name "wider" q5] [] q6) (lS loc kd ms j h) K := by
 have kind : ∀ y k, (scp 497).names.lookup y = k → X.env.kindOf y = k := fun y k z => by show X.env.scope.names.lookup y = k; rw [ag.names]; exact z
 refine ng c.ok (zd X.w) hD hU rfl (by kernel_rfl) (kind "_law_packet_right" _ (by kernel_rfl)) (by decide) (by kernel_rfl) (.of ?_)
 refine aH rfl ((J _).mono fun a σ1 z => ?_)
 obtain ⟨rfl, rfl⟩ := z
 refine aH rfl ((Jp _).mono fun a σ1 z => ?_)
 obtain ⟨rfl, rfl⟩ := z
 refine aH rfl ((Js _).mono fun a σ1 z => ?_)
 obtain ⟨rfl, rfl⟩ := z
 refine aH rfl ((Jw _).mono fun a σ1 z => ?_)
 obtain ⟨rfl, rfl⟩ := z
 exact dB ⟨rfl, fs, p, cl, wd, rfl, rfl, rfl, rfl, rfl, hok, hl, hne, hw, k⟩
theorem lM {X : Fx} {st : Stmt} {rest : List Stmt} {σ : SS} {K : Bool → Prop} (h : JSG X st σ fun f σ1 => f = .next ∧ JBX X rest σ1 K) : JBX X (st :: rest) σ K :=
 i6 (h.mono fun f σ1 z => by obtain ⟨rfl, z⟩ := z; exact z)
theorem v5 (X : Fx) (ns : List Int) (O : X.Ok) (hD : X.D = 10) (hU : X.U = 40) (ag : Agr X (gU (scp 497) 0)) (hme : X.env = X.me) (hn : ns.length ≤ 63) :
  JBX X (bd 497) (aR (scp 497) ["script"] [.v (.lst (ns.map SV.int))] []) fun b => b = true := by
 have tb : iy X.w X.D X.U da := by rw [hD, hU]; exact (aJ (.cons (g_9 X.w) (.cons (vt X.w) (.cons (EN X.w) (.cons (oz X.w) (.cons (Ep X.w) (.cons (DD X.w) (.cons (DF X.w) .nil))))))) (.cons (qt X.w) rfl rfl (by kernel_rfl) (.cons (B6 X.w) rfl rfl (by kernel_rfl) (.cons (C2 X.w) rfl rfl (by kernel_rfl) (.cons (yf X.w) rfl rfl (by kernel_rfl) .nil)))) (.cons (yj X.w) rfl rfl (by kernel_rfl) .nil) .nil .nil)
 have cx : Ctx da X (lct X.w) := ⟨O, ⟨ag.names, ag.vid, fun _ => ag.comp, aY O⟩, tb, by rw [hU]; decide⟩
 have hc := ag.comp
 have hms : (ns.take 40).length ≤ 63 := Nat.le_trans (List.length_take_le' _ _) hn
 rw [E0]
 refine bR (.of (@ai da 200 X _ (.s _ _ _) cx (En X.w ns hn))) ?_
 refine lM (.of (@ai da 200 X _ (.s _ _ _) cx (EA X.w _ _ _ hms _ fun fs j h hok hl hne hj hh => ?_)))
 refine lM (.of (@ai da 200 X _ (.s _ _ _) cx (EM X.w _ _ _ _ _ hms hj hh _ fun wd j h hwd hj hh => ?_)))
 refine lM (.of (@ai da 200 X _ (.s _ _ _) cx (Fg X.w _ _ _ _ _ hms hj hh _ fun p cl j h hj hh => ?_)))
 obtain ⟨q0, q1, q2, q3, q4, q5, q6, q7, q8, q9, e⟩ := Ap X.w
 rw [e]
 have nm : ∀ (X : Fx) (n : Str) (q : Pos) (σ : SS) (K : AV → SS → Prop), Ctx da X (lct X.w) → run da 100 (lct X.w) (.e (.Name n q) σ K) → JE X (.Name n q) σ K := fun X n q σ K c r => @ai da 100 X _ (.e _ _ _) c r
 refine qf (xC (u1 (qv cx (by lia) (by lia) ag "row" fs p cl wd hok hl hne hwd (fun q => nm X _ _ _ _ cx (by (conv => whnf); exact ⟨rfl, rfl⟩)) (fun q => nm X _ _ _ _ cx (by (conv => whnf); exact ⟨rfl, rfl⟩)) (fun q => nm X _ _ _ _ cx (by (conv => whnf); exact ⟨rfl, rfl⟩)) (fun q => nm X _ _ _ _ cx (by (conv => whnf); exact ⟨rfl, rfl⟩)) fun X2 h2 => ⟨true, rfl, ?_⟩) rfl))
 have cx2 := zQ cx h2 hc
 have eW : X2.w = X.w := by rw [h2.eq]
 have hD2 : X2.D = X.D := by rw [h2.eq]
 have hU2 : X2.U = X.U := by rw [h2.eq]
 have ag2 : Agr X2 (gU (scp 497) 0) := by
  obtain ⟨a1, a2, a3⟩ := ag
  rw [h2.eq]; exact ⟨a1, a2, a3⟩
 rw [← eW] at cx2
 refine lM (.of (@ai da 200 X2 _ (.s _ _ _) cx2 (eW ▸ Fu X.w _ _ _ fs _ _ _ _ .vnone hms hj hh hne hl _ fun x y j h => ?_)))
 refine bR (@cZ da 200 X2 _ (.s _ _ _) cx2 (eW ▸ EQ X.w _ _ _ fs x y _ _ _ _ hok hne hl)) ?_
 refine bR (.of (@ai da 200 X2 _ (.s _ _ _) cx2 (eW ▸ Ei X.w _ _ _ fs x y _ _ _ _ hl))) ?_
 obtain ⟨p1, p2, p3, p4, q1, q2, q3, q4, q5, q6, q7, e8, hm⟩ := Ae X2.w
 rw [e8]
 refine u0 (zl cx2.ok (@ai da 100 X2 _ (.e _ _ _) cx2 ?_) rfl)
 conv => whnf
 rw [show r9 p2 (lct X2.w).mu = false from hm]
 conv => whnf
 cases z : fs.filter (wB x y) with
 | nil =>
  refine .inl ⟨rfl, rfl, ?_⟩
  exact Exists.intro true ⟨rfl, fun _ X3 _ => ⟨true, rfl, rfl⟩, fun q => by cases q⟩
 | cons f fs' =>
  refine .inr ⟨(fun q => by cases q), ?_⟩
  refine Exists.intro false ⟨rfl, (fun q => by cases q), fun _ => ?_⟩
  have hm2 : ∀ g ∈ f :: fs', g ∈ fs := fun g m => by rw [← z] at m; exact (List.mem_filter.mp m).1
  have hl2 : (f :: fs').length ≤ 4 := by rw [← z]; exact Nat.le_trans (List.length_filter_le _ _) hl
  exact qv cx2 (by lia) (by lia) ag2 "less" (f :: fs') p cl wd (fun g m => hok g (hm2 g m)) hl2 (fun q => by cases q) hwd (fun q => nm X2 _ _ _ _ cx2 (by (conv => whnf); exact ⟨rfl, rfl⟩)) (fun q => nm X2 _ _ _ _ cx2 (by (conv => whnf); exact ⟨rfl, rfl⟩)) (fun q => nm X2 _ _ _ _ cx2 (by (conv => whnf); exact ⟨rfl, rfl⟩)) (fun q => nm X2 _ _ _ _ cx2 (by (conv => whnf); exact ⟨rfl, rfl⟩)) fun X3 h3 => ⟨true, rfl, rfl⟩
end
section
theorem tN {w : World} {f : Addr} {D U : Nat} {qual : Str} {params : Arguments} {body : List Stmt} {sc : Scope} {ns : List Str}
  (hf : gZ w f qual params body sc) (hb : Bnd params ns)
  (hc : dq sc ns) (hdp : 1 + claimMargin + (D + 1) < recursionLimit) (hun : 4 + (U + 3) < cLine)
  {s : Shared} (hT : ∃ mean mg mb, Top lq ll mean mg mb s.heap) (kf : (tp.heap_1 w.params).In s.heap) {vs : List Value} {as : List AV} (R : ARs (Pz s.heap fun _ => False) w [] vs as) (hlen : as.length = ns.length) {Q : Value → Shared → Prop}
  (h : ∀ (X : Fx) (ow : Addr → Prop) (ρ : List Addr) (hz1 : Heap) (tk : Nat), X.Ok → X.w = w → X.D = D → X.U = U → Agr X (gU sc 0) → X.outer = [] → X.base = s.heap → X.hz0 = s.heap → X.comp = none → X.env = envX X.cn X.cs X.L X.fa X.ccd X.cl → SR X ow ρ hz1 (aR sc ns as []) →
   wpG (model af w) X.A (execs body X.env) (fun fl s' => Q (match fl with | .ret v => v | _ => .none) s') F0 { s with heap := hz1, toks := tk }) :
  wpG (model af w) callerA (PySem.call (.ref f) vs) Q F0 s := by
 obtain ⟨o, fd, ⟨ho, hd, hco, hgen, hbody, hcd⟩, go⟩ := kJ (D := D) (U := U) hf hb hc (A := callerA) (dp := 1 + claimMargin) (un := 4) (gd := some []) (outer := []) (base := s.heap) (fun _ _ _ => rfl) hdp hun (fun _ => False) s [] [] [] vs as (below_caller s.heap) hT (fun a o e => ⟨kf a o e, fun z => z⟩)
  (fun a m => by cases m) (fun a m => by cases m) (fun a z => z.elim) List.nodup_nil cC.nil R hlen
 refine eX (bO (by decide) ho hd hco hgen hbody hcd (go (fun env sz2 => bw (model af w) callerA (.func body env) _ sz2) _ fun X ca hz1 tk T => fQ ?_))
 have J := h X _ _ hz1 tk T.ok T.w T.D T.U T.ag T.outer T.base T.hz0 T.comp T.me T.S
 rw [T.A] at J
 exact J
end
section
theorem CB : looseW lq ll = ll := by kernel_rfl
theorem qe : ∀ {xs : List WData}, WShape.hasItems [] xs .int = true → ∃ ns : List Int, xs = ns.map WData.int
 | [], _ => ⟨[], rfl⟩
 | x :: xs, h => by
  obtain ⟨h1, h2⟩ := Bool.and_eq_true_iff.mp h
  obtain ⟨i, rfl⟩ := hasW_int h1
  obtain ⟨ns, rfl⟩ := qe h2
  exact ⟨i :: ns, rfl⟩
theorem tU {args : List WData} (h : bP.claim.pre args = true) : ∃ ns : List Int, args = [.list (ns.map WData.int)] ∧ ns.length ≤ 63 := by
 refine hide fun Gz0 bk0 => ?_
 obtain ⟨h1, h2⟩ := pre_splitW h
 obtain ⟨d, r, rfl, h3, h4⟩ := hasAllW_cons (e := .list .int) (es := []) h1
 obtain rfl := hasAllW_nil h4
 obtain ⟨xs, rfl, h5⟩ := hasW_list h3
 obtain ⟨ns, rfl⟩ := qe h5
 refine bk0 ?_; clear bk0 Gz0
 refine ⟨ns, rfl, ?_⟩
 obtain ⟨h6, _⟩ := holds_andW (a := .not (.lt (.lit (.int 63)) (.len (.arg 0)))) (b := .lit (.bool true)) h2
 w_cond h6
 rename_i hc
 rw [List.length_map] at hc
 lia
theorem wo {P : Addr → Obj → Prop} {Pm : Params} {w : World} {h : Heap} : ∀ {ns : List Int} {vs : List Value}, WellAll Pm h vs (ns.map WData.int) → VRs P w vs (ns.map SV.int) := by
 intro its0
 induction its0 with
 | nil =>
  intro vs h
  cases h; exact .nil
 | cons n ns ih =>
  intro vs h
  cases h with
  | cons a b => cases a; exact .cons (.int _ _) (ih b)
theorem wF {w : World} {sz0 s₁ : Shared} {args : List WData} {h' : Heap} {tk' : Nat} (hg : s₁.gens = #[]) (k : ∀ b o, s₁.heap.get? b = some o → h'.get? b = some o) :
  GoodWG bP.claim (classAt sz0.heap) (ExcName.means sz0.heap) args s₁ (.ok (.ret (.bool true))) { s₁ with heap := h', toks := tk' } := by
 refine ⟨.inl ⟨_, _, [], rfl, fun cls => rfl, .bool true, ?_, fun _ => ⟨List.nodup_nil, fun a m => by cases m⟩⟩, .of_keep k, rfl, .of_eq hg⟩
 exact postW_of (by wrow_shape) (by wtm_val) (by w_fin)
end
section
theorem w5 {D U : Nat} (hdp : 1 + claimMargin + (D + 1) < recursionLimit) (hun : 4 + (U + 3) < cLine) (jb : ∀ (X : Fx) (ns : List Int), X.Ok → X.D = D → X.U = U → Agr X (gU (scp 497) 0) → X.env = X.me → ns.length ≤ 63 →
   JBX X (bd 497) (aR (scp 497) ["script"] [.v (.lst (ns.map SV.int))] []) fun b => b = true)
  {d : DefRec} {kwd : List (Str × Expr)} (hdef : d.name = "law") : pU (fun w h => (tp.heap_1 w.params).In h) d kwd := by
 intro w sz0 s₁ mg mb G K a o pm cd doc dV kV ho hd hcd hD hmg hg args vals as hpre hlay hrd hwl hlo
 obtain ⟨ns, rfl, hl⟩ := tU hpre
 have ha : mg "law" = some (.ref 497) := iO K G.T.g (by kernel_rfl)
 rw [hdef, ha] at hmg
 obtain rfl : 497 = a := by injection hmg with e; injection e
 obtain ⟨v, rfl, hv⟩ : ∃ v, vals = [v] ∧ VR (Pz s₁.heap fun _ => False) w v (.lst (ns.map SV.int)) := by
  cases hwl with
  | cons h1 h2 =>
   cases h2
   cases h1 with
   | list h3 h4 => exact ⟨_, rfl, .lst ⟨h3, fun z => z⟩ (wo h4)⟩
 have hT : ∃ mean mg mb, Top lq ll mean mg mb s₁.heap := ⟨_, _, _, CB ▸ G.T⟩
 refine (tN (ns := ["script"]) (Ce w) (wC w) (zi w) hdp hun hT K (as := [.v (.lst (ns.map SV.int))]) (.cons (.v hv) .nil) rfl (Q := fun v s' => GoodWG bP.claim (classAt sz0.heap) (ExcName.means sz0.heap) _ s₁ (.ok (.ret v)) s') ?_).mono (fun _ _ z => z) fun _ _ z => z.elim
 intro X ow ρ hz1 tk O hw hD hU ag hout hbase hh hcomp hme S
 subst hw
 refine jb X ns O hD hU ag hme hl ow ρ { s₁ with heap := hz1, toks := tk } S ⟨by rw [hbase]; exact hT, fun a m => ?_⟩ _ fun b h' tk' kp kb => ?_
 ·rw [hout] at m; cases m
 ·subst kb
  rw [hh, hout] at kp
  exact wF (w := X.w) (s₁ := s₁) hg fun b o e => kp.keep b o e fun m => by cases m
end
theorem law_holds : Challenge.rw_nz0355_01.Holds := hd (w5 (D := 10) (U := 40) (by decide) (by decide) v5 (by kernel_rfl))
end Mine
theorem PySem.Challenge.cw_nz0355_01_holds : PySem.Challenge.rw_nz0355_01.Holds :=
  Mine.law_holds
