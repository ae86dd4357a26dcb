import PyProof.Rows.All
import Wide.All
import OpenK.AllK
import Wide.FinOn
import PySem.Challenge.RW_pq1220_01
open PySem PySem.W PyProof.Rows PySem.Spec PySem.Calls
set_option Elab.async false
set_option maxRecDepth 100000
set_option maxHeartbeats 8000000
namespace Mine
theorem fresh_R0 : True := by
  k_with_none
  w_top off
  trivial
/-- the goal put away while a fact is taken apart -/
theorem hideG {P : Prop} (h : ∀ G : Prop, (P → G) → G) : P := h P id
/-- a code that, while it stands on the stack, may hold a bytearray -/
noncomputable def holdsB (c : Code) : Bool := match c with
  | .builtin id _ => (id == "bytearray.__contains__" || id == "bytearray.__mod__" || id == "bytearray.__rmod__" || id == "_struct.pack_into.held" || id == "bytearray.find.held") || Builtin.Bytes.decodersThatHold.contains id
  | _ => false
noncomputable def Clear (l : List (Code × Pos)) : Prop := ∀ x ∈ l, holdsB x.1 = false
/-- the logic over the stacks on which no such code stands, nothing raised -/
noncomputable def wpR {α : Type} (M : Model) (A : Around) (t : Sem α) (Q : α → Shared → Prop) (s : Shared) : Prop :=
  ∀ Γ p, Γ.In A → holdsB Γ.code = false → Clear Γ.below → Sem.wp M Γ t (fun a _ s' => Q a s') (fun _ _ _ => False) p s
noncomputable def codeR (M : Model) (A : Around) (c : Code) (R : Flow → Shared → Prop) (s : Shared) : Prop :=
  ∀ Γ p, Γ.code = c → Γ.Below A → Clear Γ.below → wpCode M Γ (fun r s' => match r with | .ok f => R f s' | .error _ => False) p s

section
variable {α β : Type} {M : Model} {A : Around} {s : Shared}
theorem wpR_of {t : Sem α} {Q : α → Shared → Prop} (h : wpAny M A t Q (fun _ _ => False) s) : wpR M A t Q s := fun Γ p hΓ _ _ => h Γ p hΓ
theorem codeR_of {c : Code} {R : Flow → Shared → Prop} {R' : Result → Shared → Prop} (h : codeAny M A c R' s) (hR : ∀ r s', R' r s' → match r with | .ok f => R f s' | .error _ => False) : codeR M A c R s :=
  fun Γ p hc hΓ _ => wpCode_mono hR (h Γ p hc hΓ)
theorem wpR_mono {t : Sem α} {Q Q' : α → Shared → Prop} (h : wpR M A t Q s) (hQ : ∀ a s, Q a s → Q' a s) : wpR M A t Q' s :=
  fun Γ p hΓ hb hc => Sem.wp_mono M Γ t (fun a _ s => hQ a s) (fun _ _ _ e => e) p s (h Γ p hΓ hb hc)
theorem wpR_bind {m : Sem α} {f : α → Sem β} {Q : β → Shared → Prop} (h : wpR M A m (fun a s' => wpR M A (f a) Q s') s) : wpR M A (m >>= f) Q s := fun Γ p hΓ hb hc => by
  rw [Sem.wp_bind']
  exact Sem.wp_mono M Γ m (fun a p' s' h' => h' Γ p' hΓ hb hc) (fun _ _ _ h' => h') p s (h Γ p hΓ hb hc)
theorem wpR_pure {a : α} {Q : α → Shared → Prop} (h : Q a s) : wpR M A (pure a) Q s := fun _ _ _ _ _ => h
theorem wpR_standAt {pos : Pos} {Q : Unit → Shared → Prop} (h : Q () s) : wpR M A (standAt pos) Q s := fun _ _ _ _ _ => h
theorem wpR_point {Q : Unit → Shared → Prop} (h : Q () s) : wpR M A point Q s := fun _ _ _ _ _ => h
theorem wpR_holding {vs : List Value} {m : Sem α} {Q : α → Shared → Prop} (h : wpR M A m Q s) : wpR M A (holding vs m) Q s := fun Γ p hΓ hb hc => by rw [Sem.wp_holding]; exact h Γ p hΓ hb hc
theorem wpR_onRaise {m : Sem α} {k : Value → Sem Unit} {Q : α → Shared → Prop} (h : wpR M A m Q s) : wpR M A (m.onRaise k) Q s := fun Γ p hΓ hb hc => by
  rw [Sem.wp_onRaise]
  exact Sem.wp_mono M Γ m (fun _ _ _ h' => h') (fun _ _ _ h' => h'.elim) p s (h Γ p hΓ hb hc)
theorem wpR_if {c : Bool} {a b : Sem α} {Q : α → Shared → Prop} (h : if c = true then wpR M A a Q s else wpR M A b Q s) : wpR M A (if c = true then a else b) Q s := by split <;> simp_all

theorem clear_enter {Γ : PySem.Ctx} {c : Code} {h : Option Value} {p : Pos} (hb : holdsB Γ.code = false) (hc : Clear Γ.below) : Clear (Γ.enter c h p).below := by
  intro x hx
  rcases List.mem_cons.mp hx with rfl | hx
  · exact hb
  · exact hc x hx
theorem wpR_run {c : Code} {Q : Flow → Shared → Prop} (hc : codeR M (A.mark none) c Q s) : wpR M A (run c none) Q s := fun Γ p hΓ hb hcl => by
  rw [Sem.wp_run]
  exact wpCode_mono (fun r s' h => by cases r <;> exact h) (hc _ p rfl (hΓ.enter c none p (by intro x; cases x)) (clear_enter hb hcl))
theorem wpR_runValue {c : Code} {Q : Value → Shared → Prop} (hc : codeR M A c (fun f s' => match f with | .ret v => Q v s' | _ => False) s) : wpR M A (runValue c) Q s := fun Γ p hΓ hb hcl => by
  rw [Sem.wp_runValue]
  exact wpCode_mono (fun r s' h => by rcases r with _ | (_ | _ | _ | _) <;> exact h) (hc _ p rfl (hΓ.enter c none p (by intro x; cases x)) (clear_enter hb hcl))
theorem wpR_call {f : Value} {pos : List Value} {kw : List (Str × Value)} {Q : Value → Shared → Prop} (hc : codeR M A (.call f ⟨pos, kw⟩) (fun f s' => match f with | .ret v => Q v s' | _ => False) s) : wpR M A (call f pos kw) Q s := wpR_runValue hc
theorem codeR_mono {c : Code} {R R' : Flow → Shared → Prop} (h : codeR M A c R s) (hR : ∀ f s, R f s → R' f s) : codeR M A c R' s := fun Γ p hc hΓ hcl => wpCode_mono (fun r s' h => match r, h with | .ok f, h => hR f s' h) (h Γ p hc hΓ hcl)
theorem codeR_of_tree {c : Code} {R : Flow → Shared → Prop} (hb : holdsB c = false)
    (h : wpR M (A.under c) (M.den c) (fun fin s' => match fin with | .done f => R f s' | .again c' => c'.quiet = true ∧ codeR M A c' R s') s) : codeR M A c R s := fun Γ p hc hΓ hcl => by
  rw [wpCode_iff_wp, hc]
  refine Sem.wp_mono M Γ _ (fun fin p' s' h' => ?_) (fun _ _ _ h' => h'.elim) p s (h Γ p (hc ▸ hΓ.in) (hc ▸ hb) hcl)
  cases fin with
  | done f => exact h'
  | again c' => exact ⟨h'.1, h'.2 (Γ.goto c') p' rfl (hΓ.goto c') hcl⟩
theorem codeR_loop {c : Code} {R : Flow → Shared → Prop} (hb : holdsB c = false) (hq : c.quiet = true) (I : Nat → Shared → Prop)
    (turn : ∀ n s, I n s → wpR M (A.under c) (M.den c) (fun fin s' => match fin with | .done f => R f s' | .again c' => c' = c ∧ ∃ m, m < n ∧ I m s') s)
    (n : Nat) (h : I n s) : codeR M A c R s := by
  induction n using Nat.strongRecOn generalizing s with
  | ind n ih =>
    refine codeR_of_tree hb (wpR_mono (turn n s h) (fun fin s' hf => ?_))
    cases fin with
    | done f => exact hf
    | again c' => obtain ⟨rfl, m, hm, hI⟩ := hf; exact ⟨hq, ih m hm hI⟩
end

theorem fresh_H0 : True := by
  k_with_none
  w_top off
  trivial
/-- the head for a law whose run is shown over clear stacks alone: the caller's own stack is clear -/
theorem callerR {prog : Program} {w : World} {t : Sem Fin} {s : Shared} {R : Result → Shared → Prop} (hreg : s.asleep)
    (h : wpR (model prog w) callerA t (fun fin s' => ∃ f, fin = .done f ∧ (R (.ok f) s' ∧ leftWithCleanup s'.gens = false)) s) :
    ∃ n r s' s'', runN (denote table) prog w n s ⟨t, .builtin "claim.caller" {}, default, []⟩ = .halted (outcomeOf r) s' ∧
      schedN (denote table) prog w n (.single s ⟨t, .builtin "claim.caller" {}, default, []⟩) = .halted (outcomeOf r) s' ∧ s'.forget = s''.forget ∧ R r s'' := by
  have hb : holdsB (.builtin "claim.caller" {}) = false := by dsimp only [holdsB]; decide +kernel
  have z := h ⟨.builtin "claim.caller" {}, none, none, [], none⟩ default caller_in hb (fun _ x => nomatch x)
  obtain ⟨n, r, s₁, s₂, hs, hn, hfo, hR⟩ := wp_halts_full (M := model prog w) (R := R) hreg
    (Sem.wp_mono _ _ _ (fun fin p' s' ⟨f, e, x⟩ => by subst e; exact x) (fun _ _ _ x => x.elim) _ _ z)
  exact ⟨n, r, s₂, s₁, hn, hs, hfo, hR⟩

theorem callFromR {c : ClaimW} {tree : List Value → Sem Fin} {w : World} {s : Shared} {free : Addr → Prop} {gens : Prop} {kept : Heap → Prop} (hz : s.asleep) (hgens : s.gens = #[])
    (hspec : ∀ args, c.pre args = true → WData.layableAll args = true → ∀ ord : List DictEntry → List DictEntry, (∀ l, (ord l).Perm l) →
      ∃ vs s₁, layAllW c.records (classAt s.heap) w.params ord args s = some (vs, s₁) ∧
        wpR (model c.prog w) callerA (tree vs) (fun fin s' => ∃ f, fin = .done f ∧ (c.Ends s args vs s₁ (.ok f) s' ∧ s'.os = s.os ∧ AllBare s'.gens ∧ kept s'.heap)) s₁) :
    c.CallFrom (fun vs => ⟨tree vs, .builtin "claim.caller" {}, default, []⟩) w free gens kept s := by
  intro args hpre hlay ord hord
  obtain ⟨vs, s₁, hlaid, hcode⟩ := hspec args hpre hlay ord hord
  have hal := layAllW_rest _ _ _ hlaid
  refine hideG fun G9 k9 => ?_
  obtain ⟨k, r, s', s'', hrun, hsched, hfo, hcase, hos, hkp⟩ := callerR (prog := c.prog) (w := w) (t := tree vs) (s := s₁)
    (R := fun r s' => c.Ends s args vs s₁ r s' ∧ s'.os = s.os ∧ kept s'.heap) (Shared.asleep_of_life hal.2.2.2 hz)
    (wpR_mono hcode fun fin s' ⟨f, e, h1, h2, h3, h4⟩ => ⟨f, e, ⟨h1, h2, h4⟩, leftWithCleanup_false_of_bare h3⟩)
  refine k9 ?_
  clear k9 G9
  obtain ⟨eh, _, _, eo, _⟩ := Shared.forget_eq hfo
  have hcase := hcase.congr eh
  rw [← eh] at hkp
  rw [← eo] at hos
  have hlife : s'.heap.life = s.heap.life := (runN_life _ _ _ hrun).trans hal.2.2.2
  refine ⟨vs, s₁, hlaid, k, _, s', hsched, ?_, (fun _ i x hx => by rw [hgens] at hx; simp at hx), hkp, by rw [hlife], Shared.rest_eq hos⟩
  rcases hcase with ⟨v, rfl, d1, d2, d3, d4, d5⟩ | ⟨e, ob, cls, rfl, d1, d2, d3, d4, d5⟩
  · exact .inl ⟨v, rfl, d1, d2, d3, fun b o y _ => d4 b o y, d5⟩
  · exact .inr ⟨e, ob, cls, rfl, d1, d2, d3, d4, fun b o y _ => d5 b o y⟩

/-- what is to be shown of the def, over clear stacks -/
noncomputable abbrev WalkR (q : Program) (loose : List Str) (XP : (Str → Option Value) → Heap → Prop) (YP : World → Heap → Prop) (r : RowW) (d : DefRec) (kwd : List (Str × PySem.Expr)) : Prop :=
  ∀ (w : World) (s₀ s₁ : Shared) (mg mb : Str → Option Value), Ground q loose r.records XP w s₀ mg mb s₁.heap → YP w s₁.heap → ∀ (a : Addr) (o : Obj) (pm cd doc dV kV : Value), s₁.heap.get? a = some o →
    o.data = .func { docDef d.name d.params d.body d.scope pm cd doc with defaults := dV, kwdefaults := kV } → s₁.heap.CodeRec cd d.name → Dflts mg s₁.heap d.params kwd dV kV → mg d.name = some (.ref a) → s₁.gens = #[] →
    ∀ (args : List WData) (vals : List Value) (as : List Addr), r.claim.pre args = true → WData.layableAll args = true → ReadsAllW r.records (classAt s₀.heap) s₁.heap vals args as → WellAll w.params s₁.heap vals args → (∀ a ∈ as, (a == sysModules) = false) →
      wpR (model r.prog w) callerA (call (.ref a) vals) (fun v s' => GoodWG r.claim (classAt s₀.heap) (ExcName.means s₀.heap) args s₁ (.ok (.ret v)) s') s₁

theorem PySem.W.holds_open {r : OpenRow} {q : Program} {loose : List Str} {Xt : Shared → Bool} {XP : (Str → Option Value) → Heap → Prop} {α : Type} {Yf : Shared → α} {Ya : World → α} {YP : World → Heap → Prop} {d : DefRec} {kwd : List (Str × PySem.Expr)} {N : Nat}
    (_left : Unit) (hY : ∀ w s, Yf s = Ya w → YP w s.heap) (hYk : ∀ w h h', YP w h → (∀ b o, h.get? b = some o → h'.get? b = some o) → YP w h')
    (hX : ∀ s, Xt s = true → XP (s.heap.nsMap mainGlobals) s.heap) (hXk : ∀ mg h h', XP mg h → (∀ b o, h.get? b = some o → h'.get? b = some o) → XP mg h')
    (hdef : defOf q r.name = some (d, kwd)) (hp : r.prog.theDef r.name = some (d.params, d.body, d.scope)) (hk : kwWritten? d.params.kwonlyargs d.params.kw_defaults = some kwd) (hRf : ∀ s, Xt s = true → RecFacts r.records s.heap) (hwr : (!r.writes || r.records.isEmpty) = true)
    (k1 : r.wellSaid = true) (ok : (chainsOk q && opensWell r.prog && (frees r.toRowW && r.within.isEmpty)) = true) (hb : r.prog.bare) (hw : r.toRowW.promised)
    (call : LeftO r.prog q loose Xt Yf Ya N ∧ WalkR q loose XP YP r.toRowW d kwd) : r.Holds := by
  obtain ⟨left, call⟩ := call
  refine ⟨k1, hw, ?_⟩
  obtain ⟨ok, k5⟩ := Bool.and_eq_true_iff.mp ok
  obtain ⟨hch, o1⟩ := Bool.and_eq_true_iff.mp ok
  obtain ⟨k5, k6⟩ := Bool.and_eq_true_iff.mp k5
  obtain ⟨hsame, hu, ha, hap, hm⟩ := frees_parts k5
  refine ⟨⟨hb, o1, by show r.makers.map _ = []; rw [hm]; rfl⟩, hw.witness, fun w => ⟨(left.behind hX hch w).1, fun s' hs' => ?_⟩⟩
  refine hideG fun G9 k9 => ?_
  obtain ⟨s₀, hf, hg0, s, hT, hz, hgens, hg, G00, y⟩ := (left.behind (XP := fun mg h => XP mg h ∧ RecFacts r.records h) (fun s hs => ⟨hX s hs, hRf s hs⟩) hch w).2 s' hs'
  refine k9 ?_
  clear k9 G9
  have G0 : Ground q loose [] XP w s (s.heap.nsMap mainGlobals) (s.heap.nsMap builtinsNs) s.heap := ⟨G00.T, G00.B, G00.D, G00.TE, G00.TD, G00.W, G00.X.1, G00.cls, G00.has, G00.apart, G00.once, G00.K⟩
  have RF := G00.X.2
  refine ⟨s₀, hf, hg0, s, hT, fun n hn => ?_, RF.1, RF.2.1, ?_⟩
  · obtain rfl : n = r.name := by split at hn <;> simp_all
    exact pinned_of_view hg G0 hdef hp hk
  have hgens : s.gens = #[] := Array.eq_empty_of_size_eq_zero (beq_iff_eq.mp hgens)
  have G : Ground q loose r.records XP w s _ _ s.heap := RF.ground G0
  refine callFromR (c := r.toRowW.claim) hz hgens fun args hpre hlay ord hord => ?_
  obtain ⟨⟨vs, s₁⟩, hlaid⟩ := Option.isSome_iff_exists.mp (layAllW_isSome (P := w.params) (ord := ord) G.has args r.args s (pre_splitW hpre).1)
  have keeps := layAllW_keeps _ _ _ hlaid
  have hal := layAllW_rest _ _ _ hlaid
  obtain ⟨as, hrd, hin, hold⟩ := reads_layAllW hord _ _ _ hlaid hlay s₁.heap (fun _ _ e => e)
  have L : Laid r.records w s s₁ args vs as := ⟨⟨ord, hord, hlaid⟩, hrd, hin, hold, keeps, hal.1.trans hgens, hal.2.2.1⟩
  have G₁ := G.keeps hXk keeps
  obtain ⟨a, o, pm, cd, doc, dV, kV, h1, h2, h3, h4, h5⟩ := G₁.fn hdef
  have z := call w s s₁ _ _ G₁ (hYk _ _ _ (hY w s y) keeps) a o pm cd doc dV kV h2 h3 h4 h5 (defOf_name hdef ▸ h1) L.gens args vs as hpre hlay L.reads L.well (L.low G.low)
  have hi := ident_freeW hu ha hap
  have hwi : r.toRowW.claim.within = [] := List.isEmpty_iff.mp k6
  refine ⟨vs, s₁, hlaid, ?_⟩
  refine wpR_bind (wpR_of (wpAny_nsGet G₁.T.g ?_))
  rw [h1]
  exact wpR_bind (wpR_mono z fun v s' g => wpR_pure ⟨_, rfl, have z := g.laid (c := r.toRowW.claim) hsame hwi hi L; ⟨z.1, z.2.1, z.2.2, fun q => ⟨namesKept_of hT hg _ keeps g.2.1.old, noTable hwr q⟩⟩⟩)

section
theorem fresh_L0 : True := by
  k_with_none
  w_top off
  trivial
/-- the run of the top over a tree, its step and its test of a step given from outside (so that quicker twins can stand for them) -/
noncomputable def topRunG (f : SharedT → Thread → Option (SharedT × Thread)) (ok : Thread → Bool) : Nat → SharedT → Thread → Option SharedT
  | 0, _, _ => none
  | n + 1, s, t => match through t with
    | true => some s
    | false => match ok t with
      | false => none
      | true => match f s t with
        | some (s', t') => topRunG f ok n s' t'
        | none => none
theorem topRunG_spec {tb : String → Option Builtin} {p : Program} {w : World} {n₀ : Nat} {ann : Option Value} : ∀ (n : Nat) (s s' : SharedT) (t : Thread),
    topRunG (stepT (denote tb) p w) (stepOk n₀ ann) n s t = some s' → topRun tb p w n₀ ann n s.abs t = some s'.abs
  | 0, _, _, _, h => by cases h
  | n + 1, s, s', t, h => by
    unfold topRunG at h
    unfold topRun
    cases ht : through t with
    | true => rw [ht] at h; cases h; rfl
    | false =>
      rw [ht] at h
      cases hk : stepOk n₀ ann t with
      | false => rw [hk] at h; cases h
      | true =>
        rw [hk] at h
        cases hs : stepT (denote tb) p w s t with
        | none => rw [hs] at h; cases h
        | some r => obtain ⟨s₂, t₂⟩ := r; rw [hs] at h; rw [stepT_spec hs]; exact topRunG_spec n s₂ s' t₂ h

/-- the heap that stands when the top begins, as a tree -/
noncomputable def bootTree (P : Params) : BT :=
  .node (boot_o_0 P) (.node (boot_o_1 P) (.node (boot_o_3 P) (.node (boot_o_7 P) .nil .nil) .nil) (.node (boot_o_5 P) (.node (boot_o_9 P) .nil .nil) .nil))
    (.node (boot_o_2 P) (.node (boot_o_4 P) (.node (boot_o_8 P) .nil .nil) .nil) (.node (boot_o_6 P) (.node (boot_o_10 P) .nil .nil) .nil))
theorem boot_abs (P : Params) : absHeap (bootTree P) 11 {} = boot_heap P := rfl

section
variable {p q : Program} {loose : List Str} {Xt : Shared → Bool} {α : Type} {Yf : Shared → α} {Ya : World → α} {N M : Nat}
theorem left_of {st : ((Code → Sem Fin) → Program → World → SharedT → Thread → Option (SharedT × Thread))} {dn : (String → Option Builtin) → Code → Sem Fin} {tb : String → Option Builtin} {ok : Nat → Option Value → Thread → Bool} {sn : type_of% @openSeen}
    (e1 : @stepT = st) (e2 : @denote = dn) (e3 : @treeTable = tb) (e4 : @stepOk = ok) (e5 : @openSeen = @sn)
    (e : opening p = plainProg p.main.scope.names) (hN : Nat.ble 600 N = true) (f : ∀ s, fenceModules? p s = some s) (le : Nat.ble M N = true)
    (run : ∀ w : World, (fun os => (topRunG (st (dn tb) p w) (ok 11 (some (.ref 6))) M ⟨bootTree w.params, 11, {}, Array.mk [], boot_drawn, boot_toks, os⟩ (topStub p)).map fun s =>
        ((staticsOk (importedModules p.main.body) (boot_heap w.params) s.abs.heap && namesBound p s.abs.heap && gensDone s.abs && laidKept (boot_heap w.params) s.abs.heap), Yf s.abs)) = fun _ => some (true, Ya w))
    (look : ∀ w : World, (fun os => (topRunG (st (dn tb) p w) (ok 11 (some (.ref 6))) M ⟨bootTree w.params, 11, {}, Array.mk [], boot_drawn, boot_toks, os⟩ (topStub p)).map fun s => sn q loose (importedModules p.main.body) Xt true s.abs) = fun _ => some (openGood q loose)) : LeftO p q loose Xt Yf Ya N := fun w => by
  subst e1 e2 e3 e4 e5
  obtain ⟨⟨h, gs, d, k, os⟩, e, e'⟩ := Option.map_eq_some_iff.mp (boot_open e hN f w)
  obtain ⟨rfl, rfl, rfl, rfl⟩ : h = boot_heap w.params ∧ gs = Array.mk [] ∧ d = boot_drawn ∧ k = boot_toks := by simpa using e'
  obtain ⟨s, r, l⟩ := Option.map_eq_some_iff.mp (congrFun (run w) os)
  obtain ⟨l1, l3⟩ : _ ∧ _ := by simpa only [Prod.mk.injEq] using l
  obtain ⟨s', r', l2⟩ := Option.map_eq_some_iff.mp (congrFun (look w) os)
  obtain rfl : s = s' := Option.some.inj (r.symm.trans r')
  have r := topRun_mono (N - M) _ _ _ _ (topRunG_spec _ _ _ _ r)
  rw [show M + (N - M) = N by have := Nat.le_of_ble_eq_true le; omega] at r
  have z1 : ((boot_heap w.params).isNs mainGlobals && (Array.mk [] : Array GenState).size == 0) = true := by kernel_rfl
  have z2 : (boot_heap w.params).objs.size = 11 := rfl
  have z3 : (boot_heap w.params).nsMap mainGlobals "__annotations__" = some (.ref 6) := rfl
  have t : topFrom treeTable p w N ⟨boot_heap w.params, Array.mk [], boot_drawn, boot_toks, os⟩ = some s.abs := by
    unfold topFrom
    dsimp only
    rw [z1, z2, z3]
    have r' : topRun treeTable p w 11 (some (.ref 6)) N ⟨boot_heap w.params, Array.mk [], boot_drawn, boot_toks, os⟩ (topStub p) = some s.abs := r
    rw [r']
    show (match staticsOk (importedModules p.main.body) (boot_heap w.params) s.abs.heap && namesBound p s.abs.heap && gensDone s.abs && laidKept (boot_heap w.params) s.abs.heap with | true => _ | false => _) = _
    rw [l1]
  unfold openEnds
  rw [e]
  show (topFrom treeTable p w N _).map _ = _
  rw [t]
  exact congrArg some (Prod.ext l2 l3)
end
/-- the look at the law, each of its tests a step of its own -/
theorem said1 : PySem.Challenge.rw_pq1220_01.wellSaid = true := by
  rw [PySem.W.Fast.te9446332074065402090]
  delta PySem.W.Fast.tw9446332074065402090
  with_reducible repeat' (refine look_both ?_ ?_)
  all_goals try delta PySem.W.Fast.tw17960256430627541270
  with_reducible repeat' (refine look_both ?_ ?_)
  all_goals try delta PySem.W.Fast.tw2436336058641802641
  with_reducible repeat' (refine look_both ?_ ?_)
  all_goals try delta PySem.W.Fast.tw12908688711261696721
  with_reducible repeat' (refine look_both ?_ ?_)
  all_goals (as_aux_lemma => kernel_rfl)

theorem fresh_TH : True := by
  k_with_none
  w_top off
  trivial
local macro_rules | `(tactic| o_law) => `(tactic| refine holds_law said1 fun said => ?_)
local macro_rules | `(tactic| refine $f:ident (q := $q) $as*) => `(tactic| (refine ($f (q := $q) $as*); focus (exact ())))
open_top hd for PySem.Challenge.rw_pq1220_01

end
theorem fresh_TL : True := by
  k_with_none
  w_top off
  trivial
/-- the addresses of the written part -/
noncomputable abbrev asK : List Addr := [2, 3, 15, 17, 18, 20, 21, 22, 29, 30, 32, 33, 35, 36, 37, 38, 39, 40, 43, 50, 51, 52, 55, 62, 63, 64, 67, 74, 75, 76, 79, 81, 82, 84, 85, 86, 88, 89, 91, 92, 93, 95, 96, 98, 99, 107, 109, 110, 112, 113, 114, 116, 117, 119, 120, 121, 123, 124, 126, 127, 128, 130, 131, 133, 134, 135, 137, 138, 140, 141, 142, 144, 145, 147, 148, 149, 151, 152, 154, 155, 156, 158, 159, 161, 162, 163, 164, 165, 166, 167, 177, 178, 180, 181, 183, 184, 185, 187, 188, 190, 191, 192, 194, 195, 197, 198, 199, 201, 202, 204, 205, 206, 208, 209, 211, 212, 213, 215, 216, 218, 219, 220, 222, 223, 225, 226, 227, 229, 230, 232, 233, 234, 236, 237, 239, 240, 241, 242, 243, 244, 245, 248, 250, 251, 253, 254, 255, 258, 259, 267, 270, 271, 272, 274, 275, 277, 278, 279, 281, 282, 284, 285, 286, 288, 289, 291, 292, 293, 295, 296, 298, 299, 300, 302, 303, 305, 306, 307, 308, 309, 310, 311, 314, 317, 318, 326, 328, 329, 331, 332, 333, 335, 336, 338, 339, 340, 342, 343, 345, 346, 347, 349, 350, 352, 353, 354, 355, 356, 357, 358, 361, 364, 365, 366, 368, 369, 371, 372, 373, 375, 376, 378, 379, 380, 382, 383, 385, 386, 387, 389, 390, 392, 393, 394, 397, 398, 399, 402, 403, 404, 407, 408, 409, 412, 413, 414, 417, 418, 419, 422, 423]
theorem asK_ok : ∀ P, asK = (hd.heap_1 P).map (·.1) := fun _ => by kernel_rfl
/-- the top runs through, keeps what it must keep, and leaves the written part -/
theorem top_runs : ∀ w : World, (fun os => (topRunG (PySem.W.Fast.tw10156331382660048174 (PySem.W.Fast.tw11892475500146522536 PySem.W.Fast.tw14364793385576792824) PySem.Challenge.rw_pq1220_01.row.prog w) (PySem.W.Fast.tw6613529449190102663 11 (some (.ref 6))) 3400 ⟨bootTree w.params, 11, {}, Array.mk [], boot_drawn, boot_toks, os⟩ (topStub PySem.Challenge.rw_pq1220_01.row.prog)).map fun s =>
    ((staticsOk (importedModules PySem.Challenge.rw_pq1220_01.row.prog.main.body) (boot_heap w.params) s.abs.heap && namesBound PySem.Challenge.rw_pq1220_01.row.prog s.abs.heap && gensDone s.abs && laidKept (boot_heap w.params) s.abs.heap), Hook.obs (kHook hd.heap_1 asK asK_ok) s.abs)) = fun _ => some (true, Hook.val (kHook hd.heap_1 asK asK_ok) w) := fun w => by kernel_rfl
/-- what the looks at the heap behind it see -/
theorem top_looks : ∀ w : World, (fun os => (topRunG (PySem.W.Fast.tw10156331382660048174 (PySem.W.Fast.tw11892475500146522536 PySem.W.Fast.tw14364793385576792824) PySem.Challenge.rw_pq1220_01.row.prog w) (PySem.W.Fast.tw6613529449190102663 11 (some (.ref 6))) 3400 ⟨bootTree w.params, 11, {}, Array.mk [], boot_drawn, boot_toks, os⟩ (topStub PySem.Challenge.rw_pq1220_01.row.prog)).map fun s => PySem.W.Fast.tw4187177175401517315 hd.view_1 [Str.ofString "PressError"] (importedModules PySem.Challenge.rw_pq1220_01.row.prog.main.body) (fun s => xlAt hd.view_1 [] s && recOk (RowW.records PySem.Challenge.rw_pq1220_01.row.toRowW) s) true s.abs) = fun _ => some (openGood hd.view_1 [Str.ofString "PressError"]) := fun w => by kernel_rfl
theorem top_plain : opening PySem.Challenge.rw_pq1220_01.row.prog = plainProg PySem.Challenge.rw_pq1220_01.row.prog.main.scope.names := by kernel_rfl
theorem top_fence : ∀ s, fenceModules? PySem.Challenge.rw_pq1220_01.row.prog s = some s := fun s => by kernel_rfl
theorem top_left : LeftO PySem.Challenge.rw_pq1220_01.row.prog hd.view_1 [Str.ofString "PressError"] (fun s => xlAt hd.view_1 [] s && recOk (RowW.records PySem.Challenge.rw_pq1220_01.row.toRowW) s) (Hook.obs (kHook hd.heap_1 asK asK_ok)) (Hook.val (kHook hd.heap_1 asK asK_ok)) 6256 :=
  left_of (M := 3400) PySem.W.Fast.te10156331382660048174 PySem.W.Fast.te11892475500146522536 PySem.W.Fast.te14364793385576792824 PySem.W.Fast.te6613529449190102663 PySem.W.Fast.te4187177175401517315 top_plain rfl top_fence rfl top_runs top_looks

theorem fresh_C0 : True := by
  k_with_none
  w_top off
  trivial

section
variable {prog : Program} {w : World} {A₀ A : Around} {s : Shared} {base h₀ : Heap} {outer : List Env} {L : Addr} {m mg mb : Str → Option Value} {env : Env} {muts : List (Addr × Obj)} {K : Frag} {p : Program} {loose : List Str} {mean : ExcName → Option Value}
  {R : Result → Shared → Prop} {name qual : Str} {params : Arguments} {body : List Stmt} {scope : Scope} {dV kV doc pm cdv ct oc : Value} {an od : Option Addr} {osl : Array (Option Value)} {f : Addr} {args : Args} {binds : List (Str × Value)}

/-- a def is entered: what `muts` names goes into its ledger, all else lies in its ground -/
theorem enterR (B : Below A₀ base outer h₀) (F : Fr h₀ L s.heap m) (X₀ : K.In h₀) (N : News h₀ L s.heap muts) (T : Top p loose mean mg mb h₀) (hA : A.frames = some (env :: outer)) (hf : env.frame = some L) (hke : env.scope.kind = .function)
    (ho : K.lookup f = some ⟨oc, od, .func (fnOf name qual params body scope dV kV doc pm an cdv ct), osl⟩) (hcd : codeIn K cdv qual = true) (hroom : A.depth < recursionLimit)
    (hbind : BindsTo s (fnOf name qual params body scope dV kV doc pm an cdv ct) args binds) (hloc : ∀ y ∈ binds, scope.names.lookup y.1 = some .local)
    (h : ∀ g L' h₁, Fr h₀ L g m → Fr g L' h₁ (fun y => binds.reverse.lookup y) → News g L' h₁ muts → Below A base (env :: outer) g → K.In g → Top p loose mean mg mb g → (∀ b o, b ∉ muts.map (·.1) → s.heap.get? b = some o → g.get? b = some o) → (∀ q ∈ muts, q.1 < L') →
      wpAny (model prog w) (A.deeper (envOf qual scope L' f cdv)) (execs body (envOf qual scope L' f cdv))
        (fun fl s' => LeaveK h₀ L m g R (match fl with | .ret v => v | _ => .none) s')
        (fun e s' => wpAny (model prog w) (A.deeper (envOf qual scope L' f cdv)) (leaving (envOf qual scope L' f cdv) e) (fun _ s'' => R (.error e) s'') (fun e' s'' => R (.error e') s'') s')
        { s with heap := h₁, toks := s.toks + binds.length })
    (hco : scope.isCoroutine = false) (hgen : scope.isGenerator = false) (hk : scope.kind = .function)
    (hcell : ∀ x ∈ scope.names, x.2 ≠ .cell) : codeAny (model prog w) A (.call (.ref f) args) R s := by
  obtain ⟨FG, BG, st, lv⟩ := groundX (R := R) B F N hA hf hke
  refine codeAny_call_def (fd := fnOf name qual params body scope dV kV doc pm an cdv ct) (body := body) (binds := binds) hroom ((X₀.keeps F.keep) _ _ ho) rfl (T.nolimit.keeps F.keep) (codeRec_of (X₀.keeps F.keep) hcd) rfl hbind hcell hloc (fun h₁ hns hk₁ => ?_) hco hgen hk
  exact wpAny_mono (h _ s.heap.objs.size h₁ FG ⟨hns, fun b o e => hk₁ b o (of_hideAll _ e), Nat.le_of_eq (hideAll_size _ _)⟩
    (fun q hq => ⟨hk₁ _ _ (N q hq).1, Nat.ne_of_lt (Heap.lt_size (N q hq).1), hideAll_none _ (List.mem_map_of_mem hq)⟩) BG (X₀.keeps st) (T.keeps st) (fun b o hb e => hideAll_get _ e hb) (fun q hq => Heap.lt_size (N q hq).1)) (fun fl s' hl => lv _ _ hl) fun _ _ y => y

/-- the same for a def whose names are partly cells -/
theorem enterRC (B : Below A₀ base outer h₀) (F : Fr h₀ L s.heap m) (X₀ : K.In h₀) (N : News h₀ L s.heap muts) (T : Top p loose mean mg mb h₀) (hA : A.frames = some (env :: outer)) (hf : env.frame = some L) (hke : env.scope.kind = .function)
    (ho : K.lookup f = some ⟨oc, od, .func (fnOf name qual params body scope dV kV doc pm an cdv ct), osl⟩) (hcd : codeIn K cdv qual = true) (hroom : A.depth < recursionLimit)
    (hbind : BindsTo s (fnOf name qual params body scope dV kV doc pm an cdv ct) args binds) (hkind : (binds.all fun y => scope.names.lookup y.1 == some .local || scope.names.lookup y.1 == some .cell) = true)
    (hnd : ((cellsFrom 0 scope.names []).map (·.1)).Nodup)
    (h : ∀ g L' h₁ tk cells, Fr h₀ L g m → Fr g L' h₁ (bindL (envOfC qual scope L' f cdv).kindOf binds fun _ => none) → News g L' h₁ (cells ++ muts) →
      CellsAre (bindC (envOfC qual scope L' f cdv).kindOf binds fun _ => none) (cellsFrom (L' + 1) scope.names []) cells → Below A base (env :: outer) g → K.In g → Top p loose mean mg mb g → (∀ b o, b ∉ muts.map (·.1) → s.heap.get? b = some o → g.get? b = some o) → (∀ q ∈ muts, q.1 < L') →
      wpAny (model prog w) (A.deeper (envOfC qual scope L' f cdv)) (execs body (envOfC qual scope L' f cdv))
        (fun fl s' => LeaveK h₀ L m g R (match fl with | .ret v => v | _ => .none) s')
        (fun e s' => wpAny (model prog w) (A.deeper (envOfC qual scope L' f cdv)) (leaving (envOfC qual scope L' f cdv) e) (fun _ s'' => R (.error e) s'') (fun e' s'' => R (.error e') s'') s')
        { s with heap := h₁, toks := tk })
    (hco : scope.isCoroutine = false) (hgen : scope.isGenerator = false) (hk : scope.kind = .function) : codeAny (model prog w) A (.call (.ref f) args) R s := by
  obtain ⟨FG, BG, st, lv⟩ := groundX (R := R) B F N hA hf hke
  refine codeAny_call_function hroom ((X₀.keeps F.keep) _ _ ho) rfl hco hgen rfl (codeRec_of (X₀.keeps F.keep) hcd) (hbind _ _ _ _ ?_)
  refine wpAny_newFunctionEnv_cells hk (kindsX hkind _) fun env' he s' x => ?_
  subst he
  refine ⟨(T.nolimit.keeps F.keep).keeps x.toInCall.keep, codeAny_func ?_⟩
  obtain ⟨h₁, tk, rfl, _⟩ := x.done
  have hk₁ := x.toInCall.keep
  obtain ⟨cells, NC, Y⟩ := Cl.news (h₀ := s.heap) (Nat.le_refl _) fun n c hm => ⟨x.cell n c (lookup_of_mem_nodup (cellsFrom_names scope.names 0 (s.heap.objs.size + 1) [] [] rfl ▸ hnd) hm), x.above n c hm⟩
  refine wpAny_mono (h _ s.heap.objs.size h₁ tk cells FG ⟨x.toInCall.ns, fun b o e => hk₁ b o (of_hideAll _ e), Nat.le_of_eq (hideAll_size _ _)⟩ (fun q hq => ?_) Y BG (X₀.keeps st) (T.keeps st) (fun b o hb e => hideAll_get _ e hb) (fun q hq => Heap.lt_size (N q hq).1)) (fun fl s' hl => lv _ _ hl) fun _ _ y => y
  rcases List.mem_append.mp hq with hq | hq
  · refine ⟨(NC q hq).1, (NC q hq).2.1, ?_⟩
    cases e : (hideAll s.heap (muts.map (·.1))).get? q.1 with
    | none => rfl
    | some o => have := of_hideAll _ e; rw [(NC q hq).2.2] at this; cases this
  · exact ⟨hk₁ _ _ (N q hq).1, Nat.ne_of_lt (Heap.lt_size (N q hq).1), hideAll_none _ (List.mem_map_of_mem hq)⟩
end

noncomputable abbrev PRG : Program := PySem.Challenge.rw_pq1220_01.row.prog

/-- what a call of the def at f does: it reads `reads`, changes `muts` (their addresses stay), makes `ex`, leaves all else -/
noncomputable def Call (w : World) (f : Addr) (args : List Value) (c1 c2 : Nat) (reads muts : List (Addr × Obj)) (post : Value → List (Addr × Obj) → List (Addr × Obj) → Prop) : Prop :=
  ∀ (dp un : Nat) (gd : Option (List Code)) (cn : Str) (cs : Scope) (a : Addr) (ccd : Value) (cl : List (Str × Addr)) (outer : List Env) (A₀ : Around) (base h₀ : Heap) (L : Addr) (m : Str → Option Value) (s : Shared)
    (loose : List Str) (mean : ExcName → Option Value) (mg mb : Str → Option Value) (Q : Result → Shared → Prop),
    Below A₀ base outer h₀ → Fr h₀ L s.heap m → (hd.heap_1 w.params).In h₀ → News h₀ L s.heap muts → Top hd.view_1 loose mean mg mb h₀ → cs.kind = .function →
    (∀ x ∈ reads, s.heap.get? x.1 = some x.2 ∧ x.1 ∉ muts.map (·.1)) → dp + c1 < recursionLimit → un + c2 < cLine →
    (∀ (r : Value) (muts' ex : List (Addr × Obj)) (h' : Heap) (tk' : Nat), post r muts' ex → Fr h₀ L h' m → News h₀ L h' (ex ++ muts') → (∀ b o, b ∉ muts.map (·.1) → s.heap.get? b = some o → h'.get? b = some o) → (∀ x ∈ ex, ∀ b o, s.heap.get? b = some o → b ≠ x.1) → Q (.ok (.ret r)) { s with heap := h', toks := tk' }) →
    codeAny (model PySem.Challenge.rw_pq1220_01.row.prog w) (ktrTop dp un gd cn cs L a ccd cl outer) (.call (.ref f) ⟨args, []⟩) Q s

theorem keepInst {g h : Heap} {x C : Addr} {ox : Obj} {od : Obj} (I : InstAt g x ox C (some od)) (k : ∀ b o, g.get? b = some o → h.get? b = some o) : InstAt h x ox C (some od) := by
  refine ⟨k _ _ I.at_, I.cls, I.no, ?_⟩
  have := I.dict
  revert this
  cases ox.dict with
  | none => exact id
  | some d => exact k _ _

theorem mixInst {g h : Heap} {L x C dx : Addr} {m : Str → Option Value} {news : List (Addr × Obj)} {od : Obj} (r : g.get? x = some (instObj C dx)) (F : Fr g L h m) (N : News g L h news) (hm : (dx, od) ∈ news) : InstAt h x (instObj C dx) C (some od) :=
  ⟨F.keep _ _ r, rfl, rfl, (N _ hm).1⟩

theorem groundNe {g h : Heap} {L a : Addr} {m : Str → Option Value} {o : Obj} (r : g.get? a = some o) (F : Fr g L h m) : a ≠ L := fun q => by
  have h1 : a < g.objs.size := Heap.lt_size r
  have h2 := F.above
  rw [q] at h1
  exact Nat.lt_irrefl _ (Nat.lt_of_lt_of_le h1 h2)

/-- the end of a body -/
theorem fin {h₀ g : Heap} {L L' : Addr} {m m' : Str → Option Value} {muts muts' ex news news' : List (Addr × Obj)} {hp : Heap} {gn : Array GenState} {dr : Drawn} {os0 : OsState} {r : Value} {post : Value → List (Addr × Obj) → List (Addr × Obj) → Prop} {Q : Result → Shared → Prop} {h' : Heap} {tk' : Nat}
    (ret : ∀ (r : Value) (muts' ex : List (Addr × Obj)) (h' : Heap) (tk' : Nat), post r muts' ex → Fr h₀ L h' m → News h₀ L h' (ex ++ muts') → (∀ b o, b ∉ muts.map (·.1) → hp.get? b = some o → h'.get? b = some o) → (∀ x ∈ ex, ∀ b o, hp.get? b = some o → b ≠ x.1) → Q (.ok (.ret r)) ⟨h', gn, dr, tk', os0⟩)
    (keep : ∀ b o, b ∉ muts.map (·.1) → hp.get? b = some o → g.get? b = some o)
    (F' : Fr g L' h' m') (N' : News g L' h' news) (kF : Fr h₀ L h' m) (kN : News h₀ L h' news') (sub : ∀ x ∈ ex ++ muts', x ∈ news') (sub2 : ∀ x ∈ ex, x ∈ news) (off : ∀ x ∈ ex, x.1 ∉ muts.map (·.1)) (hpo : post r muts' ex) : Q (.ok (.ret r)) ⟨h', gn, dr, tk', os0⟩ := by
  refine ret r muts' ex h' tk' hpo kF (fun x hx => kN x (sub x hx)) (fun b o hb e => F'.keep b o (keep b o hb e)) fun x hx b o e q => ?_
  subst q
  have z := (N' x (sub2 x hx)).2.2
  rw [keep _ _ (off x hx) e] at z
  cases z

inductive UpdF2 (d : Addr) (o : Obj) (e : Addr) (u : Obj) : List (Addr × Obj) → (Obj → Obj → List (Addr × Obj)) → Prop
  | head1 {r g} : (d ≠ e) → (∀ p ∈ r, p.1 ≠ d) → UpdF e u r g → UpdF2 d o e u ((d, o) :: r) (fun o' u' => (d, o') :: g u')
  | head2 {r g} : (d ≠ e) → (∀ p ∈ r, p.1 ≠ e) → UpdF d o r g → UpdF2 d o e u ((e, u) :: r) (fun o' u' => (e, u') :: g o')
  | tail {p r g} : p.1 ≠ d → p.1 ≠ e → UpdF2 d o e u r g → UpdF2 d o e u (p :: r) (fun o' u' => p :: g o' u')

theorem updF_in {d : Addr} {o : Obj} {l : List (Addr × Obj)} {g : Obj → List (Addr × Obj)} (U : UpdF d o l g) : (d, o) ∈ l ∧ ∀ o' x, x ∈ g o' → x = (d, o') ∨ (x ∈ l ∧ x.1 ≠ d) := by
  refine hideG fun G9 k9 => ?_
  obtain ⟨pre, post, rfl, hg, h1, h2⟩ := U.split
  refine k9 ?_
  clear k9 G9
  refine ⟨List.mem_append_right _ (.head _), fun o' x hx => ?_⟩
  rw [hg] at hx
  rcases List.mem_append.mp hx with hx | hx
  · exact .inr ⟨List.mem_append_left _ hx, h1 x hx⟩
  · rcases List.mem_cons.mp hx with rfl | hx
    · exact .inl rfl
    · exact .inr ⟨List.mem_append_right _ (.tail _ hx), h2 x hx⟩
theorem updF2_in {d e : Addr} {o u : Obj} {l : List (Addr × Obj)} {g : Obj → Obj → List (Addr × Obj)} (U : UpdF2 d o e u l g) : (d, o) ∈ l ∧ (e, u) ∈ l ∧ d ≠ e ∧ ∀ o' u' x, x ∈ g o' u' → x = (d, o') ∨ x = (e, u') ∨ (x ∈ l ∧ x.1 ≠ d ∧ x.1 ≠ e) := by
  induction U with
  | head1 hne hr U =>
    obtain ⟨h1, h2⟩ := updF_in U
    refine ⟨.head _, .tail _ h1, hne, fun o' u' x hx => ?_⟩
    rcases List.mem_cons.mp hx with rfl | hx
    · exact .inl rfl
    · rcases h2 u' x hx with e | ⟨a, b⟩
      · exact .inr (.inl e)
      · exact .inr (.inr ⟨.tail _ a, hr x a, b⟩)
  | head2 hne hr U =>
    obtain ⟨h1, h2⟩ := updF_in U
    refine ⟨.tail _ h1, .head _, hne, fun o' u' x hx => ?_⟩
    rcases List.mem_cons.mp hx with rfl | hx
    · exact .inr (.inl rfl)
    · rcases h2 o' x hx with e | ⟨a, b⟩
      · exact .inl e
      · exact .inr (.inr ⟨.tail _ a, b, hr x a⟩)
  | tail h1 h2 U ih =>
    obtain ⟨a, b, c, k⟩ := ih
    refine ⟨.tail _ a, .tail _ b, c, fun o' u' x hx => ?_⟩
    rcases List.mem_cons.mp hx with rfl | hx
    · exact .inr (.inr ⟨.head _, h1, h2⟩)
    · rcases k o' u' x hx with e | e | ⟨e, f⟩
      · exact .inl e
      · exact .inr (.inl e)
      · exact .inr (.inr ⟨.tail _ e, f⟩)

section
variable {w : World} {f : Addr} {args : List Value} {c1 c2 : Nat} {reads : List (Addr × Obj)} {post : Value → List (Addr × Obj) → List (Addr × Obj) → Prop}
  {dp un : Nat} {gd : Option (List Code)} {cn : Str} {cs : Scope} {a : Addr} {ccd : Value} {cl : List (Str × Addr)} {outer : List Env} {A₀ : Around} {base h₀ : Heap} {L : Addr} {m : Str → Option Value} {s : Shared}
  {loose : List Str} {mean : ExcName → Option Value} {mg mb : Str → Option Value} {Q E : Value → Shared → Prop} {news : List (Addr × Obj)}
theorem off_of {x : Addr} : ∀ {l : List (Addr × Obj)}, (∀ q ∈ l, q.1 ≠ x) → LCg.Off1 x l
  | [], _ => trivial
  | q :: _, h => ⟨h q (.head _), off_of fun y hy => h y (.tail _ hy)⟩
noncomputable def Offs (news : List (Addr × Obj)) : List (Addr × Obj) → Prop
  | [] => True
  | x :: r => LCg.Off1 x.1 news ∧ Offs news r
theorem offs_of {news : List (Addr × Obj)} : ∀ {ex : List (Addr × Obj)}, (∀ x ∈ ex, LCg.Off1 x.1 news) → Offs news ex
  | [], _ => trivial
  | x :: _, h => ⟨h x (.head _), offs_of fun y hy => h y (.tail _ hy)⟩
noncomputable abbrev P0 (P : Value → List (Addr × Obj) → Prop) : Value → List (Addr × Obj) → List (Addr × Obj) → Prop := fun r mu ex => mu = [] ∧ P r ex
noncomputable abbrev P1 (p : Addr) (P : Value → Obj → List (Addr × Obj) → Prop) : Value → List (Addr × Obj) → List (Addr × Obj) → Prop := fun r mu ex => ∃ o', mu = [(p, o')] ∧ P r o' ex
noncomputable abbrev P2 (p q : Addr) (P : Value → Obj → Obj → List (Addr × Obj) → Prop) : Value → List (Addr × Obj) → List (Addr × Obj) → Prop := fun r mu ex => ∃ o' u', mu = [(p, o'), (q, u')] ∧ P r o' u' ex

section
/- what a call gives back, taken apart at one stroke (the goal stands once in the term, not once for each part) -/
variable {A1 A2 A3 A4 A5 A6 A7 : Type} {v : Value} {L : Type}
theorem rA {f : A1 → Value} {R : Value → List L → Prop} (k : ∀ t, R (f t) []) : ∀ r ex, (ex = [] ∧ ∃ t, r = f t) → R r ex := by rintro _ _ ⟨rfl, t, rfl⟩; exact k t
theorem rB {R : Value → List L → Prop} (k : R v []) : ∀ r ex, (ex = [] ∧ r = v) → R r ex := by rintro _ _ ⟨rfl, rfl⟩; exact k
theorem rC {f : A1 → A2 → A3 → Value} {e : A1 → A2 → A3 → List L} {W : A1 → A2 → A3 → Prop} {R : Value → List L → Prop} (k : ∀ a b c, W a b c → R (f a b c) (e a b c)) : ∀ r ex, (∃ a b c, ex = e a b c ∧ r = f a b c ∧ W a b c) → R r ex := by
  rintro _ _ ⟨a, b, c, rfl, rfl, h⟩; exact k a b c h
theorem rY {f : A1 → A2 → Value} {W1 W2 : A1 → A2 → Prop} {R : Value → List L → Prop} (k : ∀ a b, W1 a b → W2 a b → R (f a b) []) : ∀ r ex, (ex = [] ∧ ∃ a b, r = f a b ∧ W1 a b ∧ W2 a b) → R r ex := by
  rintro _ _ ⟨rfl, a, b, rfl, h, h'⟩; exact k a b h h'
theorem rD {f : A1 → A2 → A3 → Value} {g : A1 → A2 → A3 → Obj} {R : Value → Obj → List L → Prop} (k : ∀ a b c, R (f a b c) (g a b c) []) : ∀ r o ex, (∃ a b c, ex = [] ∧ o = g a b c ∧ r = f a b c) → R r o ex := by
  rintro _ _ _ ⟨a, b, c, rfl, rfl, rfl⟩; exact k a b c
theorem rG {f : A1 → A2 → A3 → A4 → A5 → A6 → A7 → Value} {g : A1 → A2 → A3 → A4 → A5 → A6 → A7 → Obj} {e : A1 → A2 → A3 → A4 → A5 → A6 → A7 → List L} {W1 W2 W3 : A1 → A2 → A3 → A4 → A5 → A6 → A7 → Prop} {R : Value → Obj → List L → Prop}
    (k : ∀ a b c d x y z, W1 a b c d x y z → W2 a b c d x y z → W3 a b c d x y z → R (f a b c d x y z) (g a b c d x y z) (e a b c d x y z)) :
    ∀ r o ex, (∃ a b c d x y z, W1 a b c d x y z ∧ o = g a b c d x y z ∧ r = f a b c d x y z ∧ ex = e a b c d x y z ∧ W2 a b c d x y z ∧ W3 a b c d x y z) → R r o ex := by
  rintro _ _ _ ⟨a, b, c, d, x, y, z, h1, rfl, rfl, rfl, h2, h3⟩; exact k a b c d x y z h1 h2 h3
theorem rM {g : A1 → A2 → Obj} {W : A1 → A2 → Prop} {R : Value → Obj → List L → Prop} (k : ∀ a b, W a b → R v (g a b) []) : ∀ r o ex, (ex = [] ∧ r = v ∧ ∃ a b, o = g a b ∧ W a b) → R r o ex := by
  rintro _ _ _ ⟨rfl, rfl, a, b, rfl, h⟩; exact k a b h
theorem rX {f : A1 → A2 → A3 → A4 → A5 → A6 → A7 → Value} {g : A1 → A2 → A3 → A4 → A5 → A6 → A7 → Obj} {e : A1 → A2 → A3 → A4 → A5 → A6 → A7 → List L} {W : A1 → A2 → A3 → A4 → A5 → A6 → A7 → Prop} {R : Value → Obj → List L → Prop}
    (k : ∀ a b c d x y z, W a b c d x y z → R (f a b c d x y z) (g a b c d x y z) (e a b c d x y z)) :
    ∀ r o ex, (∃ a b c d x y z, o = g a b c d x y z ∧ ex = e a b c d x y z ∧ r = f a b c d x y z ∧ W a b c d x y z) → R r o ex := by
  rintro _ _ _ ⟨a, b, c, d, x, y, z, rfl, rfl, rfl, h⟩; exact k a b c d x y z h
theorem rT {f : A1 → A2 → Value} {g : A1 → A2 → Obj} {R : Value → Obj → List L → Prop} (k : ∀ a b, R (f a b) (g a b) []) : ∀ r o ex, (ex = [] ∧ ∃ a b, o = g a b ∧ r = f a b) → R r o ex := by
  rintro _ _ _ ⟨rfl, a, b, rfl, rfl⟩; exact k a b
theorem rW {g u : A1 → A2 → A3 → A4 → A5 → Obj} {W : A1 → A2 → A3 → A4 → A5 → Prop} {R : Value → Obj → Obj → List L → Prop} (k : ∀ r a b c d x, W a b c d x → R r (g a b c d x) (u a b c d x) []) :
    ∀ r o w ex, (ex = [] ∧ ∃ a b c d x, o = g a b c d x ∧ w = u a b c d x ∧ W a b c d x) → R r o w ex := by
  rintro r _ _ _ ⟨rfl, a, b, c, d, x, rfl, rfl, h⟩; exact k r a b c d x h
theorem rS {f : A1 → A2 → A3 → A4 → A5 → A6 → A7 → Value} {g u : A1 → A2 → A3 → A4 → A5 → A6 → A7 → Obj} {W : A1 → A2 → A3 → A4 → A5 → A6 → A7 → Prop} {R : Value → Obj → Obj → List L → Prop}
    (k : ∀ a b c d x y z, W a b c d x y z → R (f a b c d x y z) (g a b c d x y z) (u a b c d x y z) []) :
    ∀ r o w ex, (ex = [] ∧ ∃ a b c d x y z, o = g a b c d x y z ∧ w = u a b c d x y z ∧ W a b c d x y z ∧ r = f a b c d x y z) → R r o w ex := by
  rintro _ _ _ _ ⟨rfl, a, b, c, d, x, y, z, rfl, rfl, h, rfl⟩; exact k a b c d x y z h
theorem room1 {x n l : Nat} (h : x + n < l) : x < l := Nat.lt_of_le_of_lt (Nat.le_add_right x n) h
theorem room2 {x a n l : Nat} (h : x + n < l) (e : Nat.ble a n = true) : x + a < l := Nat.lt_of_le_of_lt (Nat.add_le_add_left (Nat.le_of_ble_eq_true e) x) h
theorem room3 {x a b n l : Nat} (h : x + n < l) (e : Nat.ble (a + b) n = true) : x + a + b < l := Nat.add_assoc x a b ▸ room2 h e
theorem room4 {x a b c n l : Nat} (h : x + n < l) (e : Nat.ble (a + b + c) n = true) : x + a + b + c < l := by
  rw [Nat.add_assoc, Nat.add_assoc]
  exact room2 h (Nat.add_assoc a b c ▸ e)
theorem ps5 {P : Shared → Prop} (k : ∀ a b c d e, P ⟨a, b, c, d, e⟩) : ∀ s, P s := fun s => k _ _ _ _ _
theorem rE {p : A1 → Prop} {b : A1} {R : A1 → Prop} (k : p b → R b) : ∀ x, (p x ∧ x = b) → R x := by rintro _ ⟨h, rfl⟩; exact k h
end
section
variable {A1 A2 A3 : Type} {L : Type}
theorem rU {f : A1 → A2 → A3 → Value} {g : A1 → A2 → A3 → Obj} {W : A1 → A2 → A3 → Prop} {R : Value → Obj → List L → Prop} (k : ∀ a b c, W a b c → R (f a b c) (g a b c) []) : ∀ r o ex, (ex = [] ∧ ∃ a b c, o = g a b c ∧ r = f a b c ∧ W a b c) → R r o ex := by
  rintro _ _ _ ⟨rfl, a, b, c, rfl, rfl, h⟩; exact k a b c h
end
theorem pz1 {a1 a2 a3 a4 a5 : Type} {P : ((a1 × a2 × a3) × (a4 × a5)) → Prop} (k : ∀ x1 x2 x3 x4 x5, P ((x1, x2, x3), (x4, x5))) : ∀ x, P x := fun x => k _ _ _ _ _
theorem pz2 {a1 a2 a3 a4 : Type} {P : ((a1 × a2 × a3) × a4) → Prop} (k : ∀ x1 x2 x3 x4, P ((x1, x2, x3), x4)) : ∀ x, P x := fun x => k _ _ _ _
theorem pz3 {a1 a2 a3 a4 a5 a6 : Type} {P : ((a1 × a2 × a3) × (a4 × a5 × a6)) → Prop} (k : ∀ x1 x2 x3 x4 x5 x6, P ((x1, x2, x3), (x4, x5, x6))) : ∀ x, P x := fun x => k _ _ _ _ _ _
theorem pz4 {a1 a2 : Type} {P : (a1 × a2) → Prop} (k : ∀ x1 x2, P (x1, x2)) : ∀ x, P x := fun x => k _ _
theorem pz5 {a1 a2 a3 a4 a5 : Type} {P : ((a1 × a2) × (a3 × a4 × a5)) → Prop} (k : ∀ x1 x2 x3 x4 x5, P ((x1, x2), (x3, x4, x5))) : ∀ x, P x := fun x => k _ _ _ _ _
theorem pz6 {a1 a2 a3 a4 a5 a6 a7 a8 a9 a10 a11 a12 a13 : Type} {P : ((a1 × a2) × (a3 × a4 × a5) × (a6 × a7 × a8) × (a9 × a10 × a11) × (a12 × a13)) → Prop} (k : ∀ x1 x2 x3 x4 x5 x6 x7 x8 x9 x10 x11 x12 x13, P ((x1, x2), (x3, x4, x5), (x6, x7, x8), (x9, x10, x11), (x12, x13))) : ∀ x, P x := fun x => k _ _ _ _ _ _ _ _ _ _ _ _ _
theorem pz7 {a1 a2 a3 a4 a5 a6 a7 a8 a9 a10 a11 a12 : Type} {P : ((a1 × a2 × a3 × a4) × (a5 × a6 × a7) × (a8 × a9 × a10) × (a11 × a12)) → Prop} (k : ∀ x1 x2 x3 x4 x5 x6 x7 x8 x9 x10 x11 x12, P ((x1, x2, x3, x4), (x5, x6, x7), (x8, x9, x10), (x11, x12))) : ∀ x, P x := fun x => k _ _ _ _ _ _ _ _ _ _ _ _
theorem pz8 {a1 a2 a3 a4 : Type} {P : ((a1 × a2) × a3 × a4) → Prop} (k : ∀ x1 x2 x3 x4, P ((x1, x2), x3, x4)) : ∀ x, P x := fun x => k _ _ _ _
theorem pz9 {a1 a2 a3 a4 a5 a6 a7 a8 a9 a10 a11 : Type} {P : ((a1 × a2) × (a3 × a4) × (a5 × a6 × a7) × (a8 × a9) × (a10 × a11)) → Prop} (k : ∀ x1 x2 x3 x4 x5 x6 x7 x8 x9 x10 x11, P ((x1, x2), (x3, x4), (x5, x6, x7), (x8, x9), (x10, x11))) : ∀ x, P x := fun x => k _ _ _ _ _ _ _ _ _ _ _
theorem pz10 {a1 a2 a3 a4 a5 a6 a7 a8 a9 : Type} {P : ((a1 × a2) × (a3 × a4 × a5) × (a6 × a7) × (a8 × a9)) → Prop} (k : ∀ x1 x2 x3 x4 x5 x6 x7 x8 x9, P ((x1, x2), (x3, x4, x5), (x6, x7), (x8, x9))) : ∀ x, P x := fun x => k _ _ _ _ _ _ _ _ _
theorem an_ppppppp {p1 p2 p3 p4 p5 p6 p7 G : Prop} (k : p1 → p2 → p3 → p4 → p5 → p6 → p7 → G) : (p1 ∧ p2 ∧ p3 ∧ p4 ∧ p5 ∧ p6 ∧ p7) → G := fun h => k h.1 h.2.1 h.2.2.1 h.2.2.2.1 h.2.2.2.2.1 h.2.2.2.2.2.1 h.2.2.2.2.2.2
theorem an_pppp {p1 p2 p3 p4 G : Prop} (k : p1 → p2 → p3 → p4 → G) : (p1 ∧ p2 ∧ p3 ∧ p4) → G := fun h => k h.1 h.2.1 h.2.2.1 h.2.2.2
theorem an_ppp {p1 p2 p3 G : Prop} (k : p1 → p2 → p3 → G) : (p1 ∧ p2 ∧ p3) → G := fun h => k h.1 h.2.1 h.2.2
theorem an_pp {p1 p2 G : Prop} (k : p1 → p2 → G) : (p1 ∧ p2) → G := fun h => k h.1 h.2
theorem an_ppppppppp {p1 p2 p3 p4 p5 p6 p7 p8 p9 G : Prop} (k : p1 → p2 → p3 → p4 → p5 → p6 → p7 → p8 → p9 → G) : (p1 ∧ p2 ∧ p3 ∧ p4 ∧ p5 ∧ p6 ∧ p7 ∧ p8 ∧ p9) → G := fun h => k h.1 h.2.1 h.2.2.1 h.2.2.2.1 h.2.2.2.2.1 h.2.2.2.2.2.1 h.2.2.2.2.2.2.1 h.2.2.2.2.2.2.2.1 h.2.2.2.2.2.2.2.2
theorem an_pppppp {p1 p2 p3 p4 p5 p6 G : Prop} (k : p1 → p2 → p3 → p4 → p5 → p6 → G) : (p1 ∧ p2 ∧ p3 ∧ p4 ∧ p5 ∧ p6) → G := fun h => k h.1 h.2.1 h.2.2.1 h.2.2.2.1 h.2.2.2.2.1 h.2.2.2.2.2
theorem an_ppppeeppp {A4 A5 : Type} {p0 : Prop} {p1 : Prop} {p2 : Prop} {p3 : Prop} {p6 : A4 → A5 → Prop} {p7 : A4 → A5 → Prop} {p8 : A4 → A5 → Prop} {G : Prop} (k : p0 → p1 → p2 → p3 → ∀ x4 : A4, ∀ x5 : A5, p6 x4 x5 → p7 x4 x5 → p8 x4 x5 → G) : (p0 ∧ p1 ∧ p2 ∧ p3 ∧ ∃ x4 : A4, ∃ x5 : A5, p6 x4 x5 ∧ p7 x4 x5 ∧ p8 x4 x5) → G := by
  rintro ⟨y0, y1, y2, y3, y4, y5, y6, y7, y8⟩
  exact k y0 y1 y2 y3 y4 y5 y6 y7 y8
theorem an_ppppp {p1 p2 p3 p4 p5 G : Prop} (k : p1 → p2 → p3 → p4 → p5 → G) : (p1 ∧ p2 ∧ p3 ∧ p4 ∧ p5) → G := fun h => k h.1 h.2.1 h.2.2.1 h.2.2.2.1 h.2.2.2.2
theorem use0 {P : Value → List (Addr × Obj) → Prop} (C : Call w f args c1 c2 reads [] (P0 P))
    (B : Below A₀ base outer h₀) (F : Fr h₀ L s.heap m) (X : (hd.heap_1 w.params).In h₀) (N : News h₀ L s.heap news) (T : Top hd.view_1 loose mean mg mb h₀) (hk : cs.kind = .function)
    (hr : ∀ x ∈ reads, s.heap.get? x.1 = some x.2) (hd1 : dp + c1 < recursionLimit) (hu : un + c2 < cLine)
    (ret : ∀ (r : Value) (ex : List (Addr × Obj)), P r ex → ∀ (h' : Heap) (tk' : Nat), Offs news ex → Fr h₀ L h' m → News h₀ L h' (ex ++ news) → Q r { s with heap := h', toks := tk' }) :
    wpAny (model PySem.Challenge.rw_pq1220_01.row.prog w) (ktrTop dp un gd cn cs L a ccd cl outer) (call (.ref f) args) Q E s := by
  refine wpAny_call (C dp un gd cn cs a ccd cl outer A₀ base h₀ L m s loose mean mg mb _ B F X News.nil T hk (fun x hx => ⟨hr x hx, List.not_mem_nil⟩) hd1 hu fun r mu ex h' tk' hp F' N' k hne => ?_)
  refine ret r ex hp.2 h' tk' (offs_of fun x hx => off_of fun q hq => hne x hx _ _ (N q hq).1) F' fun x hx => ?_
  rcases List.mem_append.mp hx with hx | hx
  · exact N' x (List.mem_append_left _ hx)
  · exact ⟨k _ _ List.not_mem_nil (N x hx).1, (N x hx).2⟩
theorem use1 {p : Addr} {o : Obj} {P : Value → Obj → List (Addr × Obj) → Prop} {g : Obj → List (Addr × Obj)} (C : Call w f args c1 c2 reads [(p, o)] (P1 p P))
    (B : Below A₀ base outer h₀) (F : Fr h₀ L s.heap m) (X : (hd.heap_1 w.params).In h₀) (N : News h₀ L s.heap news) (U : UpdF p o news g) (T : Top hd.view_1 loose mean mg mb h₀) (hk : cs.kind = .function)
    (hr : ∀ x ∈ reads, s.heap.get? x.1 = some x.2 ∧ x.1 ≠ p) (hd1 : dp + c1 < recursionLimit) (hu : un + c2 < cLine)
    (ret : ∀ (r : Value) (o' : Obj) (ex : List (Addr × Obj)), P r o' ex → ∀ (h' : Heap) (tk' : Nat), Offs news ex → Fr h₀ L h' m → News h₀ L h' (ex ++ g o') → Q r { s with heap := h', toks := tk' }) :
    wpAny (model PySem.Challenge.rw_pq1220_01.row.prog w) (ktrTop dp un gd cn cs L a ccd cl outer) (call (.ref f) args) Q E s := by
  obtain ⟨hm, hg⟩ := updF_in U
  refine wpAny_call (C dp un gd cn cs a ccd cl outer A₀ base h₀ L m s loose mean mg mb _ B F X (fun x hx => N x (by rw [List.mem_singleton.mp hx]; exact hm)) T hk (fun x hx => ⟨(hr x hx).1, fun q => (hr x hx).2 (List.mem_singleton.mp q)⟩) hd1 hu fun r mu ex h' tk' hp F' N' k hne => ?_)
  obtain ⟨o', rfl, hp⟩ := hp
  refine ret r o' ex hp h' tk' (offs_of fun x hx => off_of fun q hq => hne x hx _ _ (N q hq).1) F' fun x hx => ?_
  rcases List.mem_append.mp hx with hx | hx
  · exact N' x (List.mem_append_left _ hx)
  · rcases hg o' x hx with rfl | ⟨h1, h2⟩
    · exact N' _ (List.mem_append_right _ (.head _))
    · exact ⟨k _ _ (fun q => h2 (List.mem_singleton.mp q)) (N x h1).1, (N x h1).2⟩
theorem use2 {p q : Addr} {o u : Obj} {P : Value → Obj → Obj → List (Addr × Obj) → Prop} {g : Obj → Obj → List (Addr × Obj)} (C : Call w f args c1 c2 reads [(p, o), (q, u)] (P2 p q P))
    (B : Below A₀ base outer h₀) (F : Fr h₀ L s.heap m) (X : (hd.heap_1 w.params).In h₀) (N : News h₀ L s.heap news) (U : UpdF2 p o q u news g) (T : Top hd.view_1 loose mean mg mb h₀) (hk : cs.kind = .function)
    (hr : ∀ x ∈ reads, s.heap.get? x.1 = some x.2 ∧ x.1 ≠ p ∧ x.1 ≠ q) (hd1 : dp + c1 < recursionLimit) (hu : un + c2 < cLine)
    (ret : ∀ (r : Value) (o' u' : Obj) (ex : List (Addr × Obj)), P r o' u' ex → ∀ (h' : Heap) (tk' : Nat), Offs news ex → Fr h₀ L h' m → News h₀ L h' (ex ++ g o' u') → Q r { s with heap := h', toks := tk' }) :
    wpAny (model PySem.Challenge.rw_pq1220_01.row.prog w) (ktrTop dp un gd cn cs L a ccd cl outer) (call (.ref f) args) Q E s := by
  obtain ⟨hm1, hm2, hd, hg⟩ := updF2_in U
  refine wpAny_call (C dp un gd cn cs a ccd cl outer A₀ base h₀ L m s loose mean mg mb _ B F X (fun x hx => N x (by
    rcases List.mem_cons.mp hx with rfl | hx
    · exact hm1
    · rw [List.mem_singleton.mp hx]; exact hm2)) T hk (fun x hx => ⟨(hr x hx).1, fun z => by
      rcases List.mem_cons.mp z with z | z
      · exact (hr x hx).2.1 z
      · exact (hr x hx).2.2 (List.mem_singleton.mp z)⟩) hd1 hu fun r mu ex h' tk' hp F' N' k hne => ?_)
  obtain ⟨o', u', rfl, hp⟩ := hp
  refine ret r o' u' ex hp h' tk' (offs_of fun x hx => off_of fun q hq => hne x hx _ _ (N q hq).1) F' fun x hx => ?_
  rcases List.mem_append.mp hx with hx | hx
  · exact N' x (List.mem_append_left _ hx)
  · rcases hg o' u' x hx with rfl | rfl | ⟨h1, h2, h3⟩
    · exact N' _ (List.mem_append_right _ (.head _))
    · exact N' _ (List.mem_append_right _ (.tail _ (.head _)))
    · exact ⟨k _ _ (fun z => by
        rcases List.mem_cons.mp z with z | z
        · exact h2 z
        · exact h3 (List.mem_singleton.mp z)) (N x h1).1, (N x h1).2⟩
end

/-- the walk is to stand still here -/
@[irreducible] noncomputable def Hold (P : Prop) : Prop := P
theorem hold {P : Prop} (h : Hold P) : P := by unfold Hold at h; exact h
theorem go {P : Prop} (h : P) : Hold P := by unfold Hold; exact h
theorem callMono {w : World} {f : Addr} {args : List Value} {c1 c2 : Nat} {reads muts : List (Addr × Obj)} {post post' : Value → List (Addr × Obj) → List (Addr × Obj) → Prop} (C : Call w f args c1 c2 reads muts post) (h : ∀ r mu ex, post r mu ex → post' r mu ex) : Call w f args c1 c2 reads muts post' := by
  intro dp un gd cn cs a ccd cl outer A₀ base h₀ L m s loose mean mg mb Q B F X N T hk hrd hd1 hu hret
  exact C dp un gd cn cs a ccd cl outer A₀ base h₀ L m s loose mean mg mb Q B F X N T hk hrd hd1 hu fun r mu ex h' tk' hp => hret r mu ex h' tk' (h _ _ _ hp)

local macro_rules | `(tactic| k_inst) => `(tactic| exact keepInst (by with_reducible assumption) (Fr.keep (by k_asm)))
local macro_rules | `(tactic| tb_rel) => `(tactic| first | exact List.forall_mem_nil _ | (refine List.forall_mem_cons.mpr ⟨?tr1, ?tr2⟩; (case tr1 => first | exact Fr.keep (by k_asm) _ _ (by with_reducible assumption) | exact News.get (by k_asm) (by k_mem)); (case tr2 => tb_rel)))
local macro_rules | `(tactic| k_inst) => `(tactic| exact mixInst (by with_reducible assumption) (by k_asm) (by k_asm) (by k_mem))
local macro_rules | `(tactic| walk_at "setAttr ref") => `(tactic| (k_here; k_made; walk_at "setAttr ref"))
local macro_rules | `(tactic| omega) => `(tactic| first | decide | lia)
local macro_rules | `(tactic| ktr_room) => `(tactic| first | exact room1 (by with_reducible assumption) | exact room2 (by with_reducible assumption) rfl | exact room3 (by with_reducible assumption) rfl | exact room4 (by with_reducible assumption) rfl)
local macro_rules | `(tactic| ktr_units) => `(tactic| first | exact room1 (by with_reducible assumption) | exact room2 (by with_reducible assumption) rfl | exact room3 (by with_reducible assumption) rfl | exact room4 (by with_reducible assumption) rfl)
local macro_rules | `(tactic| units_room) => `(tactic| first | exact room1 (by with_reducible assumption) | exact room2 (by with_reducible assumption) rfl | exact room3 (by with_reducible assumption) rfl | exact room4 (by with_reducible assumption) rfl)
theorem fresh_Cpair : True := by
  k_with_none
  w_top off
  trivial
/-- an iterator of pairs stands at its start: n pairs, each as P2 says; it was made at `base` and after, over the lists `srcs` -/
noncomputable def PairIt (prog : Program) (w : World) (A : Around) (I : Addr) (n : Nat) (P2 : Nat → Value → Value → Prop) (h : Heap) (base : Nat) (srcs : List Addr) : Prop :=
  ∃ fp wr Pt St Mid, WalksT prog w A I fp wr n Pt St Mid ∧ (∀ i vals, Pt i vals → ∃ v0 v1, vals = #[v0, v1] ∧ P2 i v0 v1) ∧ St 0 h ∧ (∀ b ∈ wr, @LE.le Nat _ base b) ∧ (∀ b ∈ fp, @LT.lt Nat _ b h.objs.size ∧ (@LE.le Nat _ base b ∨ b ∈ srcs))

section
variable {prog : Program} {w : World} {A : Around} {E : Value → Shared → Prop} {s : Shared}
theorem zip_it {l1 l2 : Addr} {xs ys : Array Value} {Q : Value → Shared → Prop} (hh : A.handled = none) (hl1 : s.heap.IsList l1 xs) (hl2 : s.heap.IsList l2 ys)
    (h : ∀ I h', PairIt prog w A I (min xs.size ys.size) (fun i v0 v1 => xs[i]? = some v0 ∧ ys[i]? = some v1) h' s.heap.objs.size [l1, l2] → (∀ c o, s.heap.get? c = some o → h'.get? c = some o) → Q (.ref I) { s with heap := h' }) :
    wpAny (model prog w) A (call (.type "zip") [.ref l1, .ref l2]) Q E s := by
  have a1 : @LT.lt Nat _ l1 s.heap.objs.size := by obtain ⟨_, e, _⟩ := id hl1; exact Heap.lt_size e
  have a2 : @LT.lt Nat _ l2 s.heap.objs.size := by obtain ⟨_, e, _⟩ := id hl2; exact Heap.lt_size e
  refine call_zip_2 hl1 hl2 fun h' hz hTI hTO hi1 hi2 hsz hk => h _ h' ⟨_, _, _, _, _, WalksT.zip2 hh _ _ _ _ _ l1 l2 (zipApart_new a1 a2) xs ys, ?_, ⟨hz, hTI, ⟨_, _, hTO⟩, hi1, hi2, hl1.at fun o e => hk _ o e, hl2.at fun o e => hk _ o e⟩, ?_, ?_⟩ hk
  · rintro i vals ⟨x, y, e1, e2, rfl⟩
    exact ⟨x, y, rfl, e1, e2⟩
  · intro b hb
    simp only [List.mem_cons, List.not_mem_nil, or_false] at hb
    rcases hb with rfl | rfl | rfl | rfl <;> omega
  · intro b hb
    rw [hsz]
    simp only [List.mem_cons, List.not_mem_nil, or_false] at hb ⊢
    rcases hb with rfl | rfl | rfl | rfl | rfl | rfl | rfl
    all_goals (refine ⟨by omega, ?_⟩; first | (left; omega) | (right; left; rfl) | (right; right; rfl))

theorem enum_it {l : Addr} {xs : Array Value} {Q : Value → Shared → Prop} (hh : A.handled = none) (hl : s.heap.IsList l xs)
    (h : ∀ I h', PairIt prog w A I xs.size (fun i v0 v1 => (∃ t, v0 = .int i t) ∧ xs[i]? = some v1) h' s.heap.objs.size [l] → (∀ c o, s.heap.get? c = some o → h'.get? c = some o) → Q (.ref I) { s with heap := h' }) :
    wpAny (model prog w) A (call (.type "enumerate") [.ref l]) Q E s := by
  have a1 : @LT.lt Nat _ l s.heap.objs.size := by obtain ⟨_, e, _⟩ := id hl; exact Heap.lt_size e
  refine call_enumerate_list hl fun h' he hit hsz hk => h _ h' ⟨_, _, _, _, _, WalksT.enumerate hh (s.heap.objs.size + 1) s.heap.objs.size l (Nat.succ_ne_self _) (Nat.ne_of_lt (Nat.lt_succ_of_lt a1)) (Nat.ne_of_lt a1) xs, ?_, ⟨⟨_, he⟩, hit, hl.at fun o e => hk _ o e⟩, ?_, ?_⟩ hk
  · rintro i vals ⟨t, x, e1, rfl⟩
    exact ⟨_, x, rfl, ⟨t, rfl⟩, e1⟩
  · intro b hb
    simp only [List.mem_cons, List.not_mem_nil, or_false] at hb
    rcases hb with rfl | rfl <;> omega
  · intro b hb
    rw [hsz]
    simp only [List.mem_cons, List.not_mem_nil, or_false] at hb ⊢
    rcases hb with rfl | rfl | rfl
    all_goals (refine ⟨by omega, ?_⟩; first | (left; omega) | (right; rfl))
end

/-- what holds of a loop over pairs behind i of them -/
noncomputable def PrS {σ : Type} (Led : σ → List (Addr × Obj)) (ps : σ → List (Str × Value)) (Facts : σ → Prop) (xi xc : Str) (stored : List Str) (m₀ : Str → Option Value) (P : Nat → σ → Prop) (i : Nat) (m : Str → Option Value) (nx : List (Addr × Obj)) : Prop :=
  ∃ c : σ, nx = Led c ∧ Facts c ∧ (∀ p ∈ ps c, m p.1 = some p.2) ∧ (∀ z, z ≠ xi → z ≠ xc → (∀ p ∈ ps c, z ≠ p.1) → stored.contains z = false → m z = m₀ z) ∧ P i c

section
variable {prog : Program} {w : World} {A : Around} {E : Value → Shared → Prop} {s : Shared} {env : Env} {h₀ : Heap} {xi xc : Str} {body : List Stmt} {Q : Flow → Shared → Prop}
theorem pr_eq {ps : List (Str × Value)} {stored : List Str} {m₀ m₁ : Str → Option Value} (h1 : ∀ p ∈ ps, m₁ p.1 = some p.2) (h2 : ∀ z, z ≠ xi → z ≠ xc → (∀ p ∈ ps, z ≠ p.1) → stored.contains z = false → m₁ z = m₀ z) {y : Str} (hy : y ≠ xi) (hy' : y ≠ xc) :
    kstB (fun z => if stored.contains z then m₁ z else m₀ z) ps y = m₁ y := by
  refine kstB_eq h1 fun hn => ?_
  show (if stored.contains y = true then m₁ y else m₀ y) = m₁ y
  cases h3 : stored.contains y with
  | true => simp
  | false => simp only [Bool.false_eq_true, if_false]; exact (h2 y hy hy' hn h3).symm

theorem pairs_loop {σ : Type} {I : Addr} {n : Nat} {P2 : Nat → Value → Value → Prop} {base : Nat} {srcs : List Addr} {m₀ : Str → Option Value} (PI : PairIt prog w A I n P2 s.heap base srcs) (Led : σ → List (Addr × Obj)) (ps : σ → List (Str × Value)) (Facts : σ → Prop) (stored : List Str) (P : Nat → σ → Prop) (c₀ : σ)
    (hsrc : ∀ b ∈ srcs, ∃ o, h₀.get? b = some o) (hL : @LT.lt Nat _ env.locals base) (hb₀ : @LE.le Nat _ h₀.objs.size base) (F : Fr h₀ env.locals s.heap m₀) (N : News h₀ env.locals s.heap (Led c₀)) (hnb : ∀ p ∈ Led c₀, @LT.lt Nat _ p.1 base) (hf : Facts c₀) (hk : ∀ p ∈ ps c₀, m₀ p.1 = some p.2) (hp : P 0 c₀)
    (turn : ∀ (c : σ) i v0 v1 (u : Str → Option Value) h tk own, i < n → P2 i v0 v1 → OwnOff own ((Led c₀).map (·.1)) → Facts c → P i c →
      Fr h₀ env.locals h (fun y => if y = xc then some v1 else if y = xi then some v0 else kstB (fun z => if stored.contains z then u z else m₀ z) (ps c) y) → News h₀ env.locals h (Led c ++ own) →
      wpAny (model prog w) A (execs body env) (InvPostN h₀ env.locals (PrS Led ps Facts xi xc stored m₀ P (i + 1)) own ((Led c₀).map (·.1)) { s with heap := h, toks := tk } Q) E { s with heap := h, toks := tk })
    (done : ∀ (c : σ) (u : Str → Option Value) h tk, Facts c → P n c → Fr h₀ env.locals h (fun y => if y = xc then u y else if y = xi then u y else kstB (fun z => if stored.contains z then u z else m₀ z) (ps c) y) → News h₀ env.locals h (Led c) → Q .next { s with heap := h, toks := tk }) :
    wpAny (model prog w) A (pyIter (.ref I)) (fun it s₂ => PairAt3 prog w A h₀ env xi xc body Q E it s₂) E s := by
  refine hideG fun G9 k9 => ?_
  obtain ⟨fp, wr, Pt, St, Mid, W, h2, hst, hwr, hfp⟩ := PI
  refine k9 ?_
  clear k9 G9
  refine W.self 0 _ _ _ hst ?_
  have srclt : ∀ b ∈ srcs, @LT.lt Nat _ b h₀.objs.size := fun b hb => by obtain ⟨o, e⟩ := hsrc b hb; exact Heap.lt_size e
  have hab : @LE.le Nat _ h₀.objs.size env.locals := F.above
  refine ⟨I, fp, wr, n, Pt, St, Mid, P2, m₀, Led c₀, fun i m nx => nx.map (·.1) = (Led c₀).map (·.1) ∧ PrS Led ps Facts xi xc stored m₀ P i m nx, rfl, W, h2, ?_, ?_, ?_, hst, F, N, ⟨rfl, c₀, rfl, hf, hk, fun _ _ _ _ _ => rfl, hp⟩, ?_, ?_⟩
  · intro hm
    rcases (hfp _ hm).2 with h | h
    · exact Nat.lt_irrefl _ (Nat.lt_of_lt_of_le hL h)
    · exact Nat.lt_irrefl _ (Nat.lt_of_lt_of_le (srclt _ h) hab)
  · intro b hb
    exact Heap.get?_none_of_le (Nat.le_trans hb₀ (hwr b hb))
  · intro p hp hm
    exact Nat.lt_irrefl _ (Nat.lt_of_lt_of_le (hnb p hp) (hwr _ hm))
  · rintro i v0 v1 m₁ news₁ s₁ own ⟨hh', tk', rfl⟩ hin hP2 ⟨hadr, c, rfl, hf', h1, h2', hp'⟩ ha' hown F₁ N₁
    have hoff : OwnOff own ((Led c₀).map (·.1)) := by
      intro p hp b hb e
      obtain ⟨q, hq, rfl⟩ := List.mem_map.mp hb
      rcases (hfp _ (hown p hp)).2 with h | h
      · exact Nat.lt_irrefl _ (Nat.lt_of_lt_of_le (hnb q hq) (e ▸ h))
      · obtain ⟨o, eo⟩ := hsrc _ h
        have := (N₁ p (List.mem_append_left _ hp)).2.2
        rw [eo] at this; cases this
    have em : (fun y => if y = xc then some v1 else if y = xi then some v0 else kstB (fun z => if stored.contains z then m₁ z else m₀ z) (ps c) y) = fun y => if y = xc then some v1 else if y = xi then some v0 else m₁ y := by
      funext y
      by_cases hy : y = xc
      · rw [if_pos hy, if_pos hy]
      · rw [if_neg hy, if_neg hy]
        by_cases hy' : y = xi
        · rw [if_pos hy', if_pos hy']
        · rw [if_neg hy', if_neg hy']
          exact pr_eq h1 h2' hy' hy
    have N₂ : News h₀ env.locals hh' (Led c ++ own) := fun p hp => N₁ p ((List.mem_append.mp hp).elim (fun h => List.mem_append_right _ h) fun h => List.mem_append_left _ h)
    refine wpAny_mono (turn c i v0 v1 m₁ hh' tk' own hin hP2 hoff hf' hp' (by rw [em]; exact F₁) N₂) (fun f s₂ p => ?_) fun _ _ e => e
    have fin : InvEndN h₀ env.locals (PrS Led ps Facts xi xc stored m₀ P (i + 1)) own ((Led c₀).map (·.1)) { s with heap := hh', toks := tk' } s₂ →
        LoopStep2 h₀ env.locals own (Led c) (fun m nx => nx.map (·.1) = (Led c₀).map (·.1) ∧ PrS Led ps Facts xi xc stored m₀ P (i + 1) m nx) { s with heap := hh', toks := tk' } .next s₂ := by
      rintro ⟨h', tk, m', news', nx, e, F', N', hn, ho, ha, hS⟩
      refine ⟨rfl, h', tk, m', nx, e, F', fun p hp => N' p ((List.mem_append.mp hp).elim (ho p) (hn p)), ha.trans hadr.symm, ha, hS⟩
    cases f with
    | ret v => exact p
    | brk => exact p
    | next => exact fin p
    | cont => exact fin p
  · rintro h' tk m' news' F' N' ha' ⟨_, c, rfl, hf', h1, h2', hp'⟩
    refine done c m' h' tk hf' hp' ?_ N'
    have em : (fun y => if y = xc then m' y else if y = xi then m' y else kstB (fun z => if stored.contains z then m' z else m₀ z) (ps c) y) = m' := by
      funext y
      by_cases hy : y = xc
      · rw [if_pos hy]
      · rw [if_neg hy]
        by_cases hy' : y = xi
        · rw [if_pos hy']
        · rw [if_neg hy']
          exact pr_eq h1 h2' hy' hy
    rw [em]; exact F'

theorem pr_end {σ : Type} {Led : σ → List (Addr × Obj)} {ps : σ → List (Str × Value)} {Facts : σ → Prop} {stored : List Str} {m₀ : Str → Option Value} {P : Nat → σ → Prop} {i : Nat} (c : σ) {L : Addr} {m' : Str → Option Value} {own news' : List (Addr × Obj)} {adr : List Addr} {s₁ : Shared} {h' : Heap} {tk : Nat}
    (F : Fr h₀ L h' m') (N : News h₀ L h' news') (hn : ∀ p ∈ Led c, p ∈ news') (ho : ∀ p ∈ own, p ∈ news') (ha : (Led c).map (·.1) = adr) (hf : Facts c) (hk : ∀ p ∈ ps c, m' p.1 = some p.2) (hr : ∀ z, z ≠ xi → z ≠ xc → (∀ p ∈ ps c, z ≠ p.1) → stored.contains z = false → m' z = m₀ z) (hp : P i c) :
    InvEndN h₀ L (PrS Led ps Facts xi xc stored m₀ P i) own adr s₁ { s₁ with heap := h', toks := tk } :=
  InvEndN.intro F N ⟨c, rfl, hf, hk, hr, hp⟩ ha hn ho
end

theorem fresh_Ccomp : True := by
  k_with_none
  w_top off
  trivial
/-- the end of an element of a comprehension that changes nothing -/
noncomputable def PcEnd (h₀ : Heap) (L : Addr) (m : Str → Option Value) (all : List (Addr × Obj)) (s₁ : Shared) (P : Prop) (s₂ : Shared) : Prop :=
  ∃ h' tk, s₂ = { s₁ with heap := h', toks := tk } ∧ Fr h₀ L h' m ∧ News h₀ L h' all ∧ P
theorem pc_end {h₀ : Heap} {L : Addr} {m : Str → Option Value} {all : List (Addr × Obj)} {s₁ : Shared} {P : Prop} {h' : Heap} {tk : Nat} (F : Fr h₀ L h' m) (N : News h₀ L h' all) (p : P) : PcEnd h₀ L m all s₁ P { s₁ with heap := h', toks := tk } := ⟨h', tk, rfl, F, N, p⟩

section
variable {prog : Program} {w : World} {A : Around} {E : Value → Shared → Prop} {s : Shared} {h₀ : Heap} {L : Addr} {m : Str → Option Value} {env : Env}

theorem pairs_block {elt iter c : PySem.Expr} {a b : Str} {pa pb tp : Pos} {kk : Nat} {scope : Scope} {cl : List (Str × Addr)} {pos : Pos} {s₂ : Shared} {I : Addr} {n : Nat} {P2 : Nat → Value → Value → Prop} {base : Nat} {srcs : List Addr} {news : List (Addr × Obj)} {RR : Value → Addr → Result → Shared → Prop}
    (hh : A.handled = none) (PI : PairIt prog w A I n P2 s₂.heap base srcs) (hsz : n ≤ sizeLine)
    (hcell : ∀ y ∈ scope.names, y.2 ≠ .cell) (hkind : scope.kind = .function) (hxa : scope.names.lookup a = some .local) (hxb : scope.names.lookup b = some .local) (hab : ¬ a = b)
    (F : Fr h₀ L s₂.heap m) (N : News h₀ L s₂.heap news) (hL : @LT.lt Nat _ L base) (hb₀ : @LE.le Nat _ h₀.objs.size base) (hnb : ∀ p ∈ news, @LT.lt Nat _ p.1 base) (hsL : ∀ x ∈ srcs, x ≠ L)
    (J : Nat → List Value → Prop) (j0 : J 0 [])
    (turn : ∀ i v0 v1 ys C oC D m₂ h tk own (E' : Value → Shared → Prop), i < n → P2 i v0 v1 → J i ys → LCg.NsObj oC m₂ → m₂ a = some v0 → m₂ b = some v1 → Fr h₀ L h m → News h₀ L h ((C, oC) :: (D, LCg.lst ys) :: (news ++ own)) →
      wpAny (model prog w) A (isTrue c (compEnvC scope cl C env) (eval c (compEnvC scope cl C env))) (fun ok s₃ => if ok = true then
        wpAny (model prog w) A (eval elt (compEnvC scope cl C env)) (fun y s₄ => PcEnd h₀ L m ((C, oC) :: (D, LCg.lst ys) :: (news ++ own)) { s₂ with heap := h, toks := tk } (J (i + 1) (ys ++ [y])) s₄) E' s₃
        else PcEnd h₀ L m ((C, oC) :: (D, LCg.lst ys) :: (news ++ own)) { s₂ with heap := h, toks := tk } (J (i + 1) ys) s₃) E' { s₂ with heap := h, toks := tk })
    (done : ∀ D C h tk m' ys, Fr h₀ L h m → News h₀ L h ((D, LCg.lst ys) :: news) → LCg.Off1 D news → h.Ns C m' → h₀.get? C = none → h₀.get? D = none → C ≠ L → D ≠ L → C ≠ D → (∀ p ∈ news, p.1 ≠ C) → J n ys → RR (.ref D) C (.ok .next) { s₂ with heap := h, toks := tk }) :
    wpAny (model prog w) A (newList []) (fun acc s₃ => wpAny (model prog w) A (newFunctionEnv scope env.globals cl [] env.qual none .none (some env)) (fun cenv s₄ =>
      codeAny (model prog w) A (.compStart (.ListComp elt [⟨.Tuple [.Name a pa, .Name b pb] kk tp, iter, [c], 0⟩] scope pos) 0 (.ref I) acc { cenv with scope := relabel scope env }) (RR acc cenv.locals) s₄) E s₃) E s₂ := by
  refine hideG fun G9 k9 => ?_
  obtain ⟨fp, wr, Pt, St, Mid, W, h2, hst, hwr, hfp⟩ := PI
  refine k9 ?_
  clear k9 G9
  refine wpAny_newObj_type (wpAny_newFunctionEnv hcell (by intro y hy; simp at hy) (fun h₁ hns₁ hsb₁ => ?_) hkind)
  dsimp only at hns₁ hsb₁ ⊢
  generalize hH2 : s₂.heap.push { cls := .type "list", dict := none, data := .seq ([] : List Value).toArray } = H2 at hns₁ hsb₁ ⊢
  have hC : H2.objs.size = s₂.heap.objs.size + 1 := by rw [← hH2, Heap.size_push]
  have hDC : s₂.heap.objs.size ≠ H2.objs.size := by rw [hC]; exact Nat.ne_of_lt (Nat.lt_succ_self _)
  have below : ∀ x, x < s₂.heap.objs.size → x ≠ H2.objs.size ∧ x ≠ s₂.heap.objs.size := fun x hx => ⟨by rw [hC]; exact Nat.ne_of_lt (Nat.lt_succ_of_lt hx), Nat.ne_of_lt hx⟩
  have hCf : H2.objs.size ∉ fp := fun q => (below _ (hfp _ q).1).1 rfl
  have hDf : s₂.heap.objs.size ∉ fp := fun q => (below _ (hfp _ q).1).2 rfl
  have hLf : L ∉ fp := fun q => by
    rcases (hfp _ q).2 with z | z
    · exact Nat.lt_irrefl _ (Nat.lt_of_lt_of_le hL z)
    · exact hsL _ z rfl
  have hLw : L ∉ wr := fun q => Nat.lt_irrefl _ (Nat.lt_of_lt_of_le hL (hwr _ q))
  have hCw : H2.objs.size ∉ wr := fun q => hCf (W.sub _ q)
  have hDw : s₂.heap.objs.size ∉ wr := fun q => hDf (W.sub _ q)
  have hw₀ : ∀ x o, h₀.get? x = some o → x ∉ wr := fun x o e q => by
    rw [Heap.get?_none_of_le (Nat.le_trans hb₀ (hwr x q))] at e; cases e
  have hnw : ∀ p ∈ news, p.1 ∉ wr := fun p hp q => Nat.lt_irrefl _ (Nat.lt_of_lt_of_le (hnb p hp) (hwr _ q))
  have old : ∀ x o, s₂.heap.get? x = some o → h₁.get? x = some o := fun x o e => hsb₁.extBut x o (below x (Heap.lt_size e)).1 (Heap.get?_push_of_some _ (hH2 ▸ Heap.get?_push_of_some _ e))
  have hacc : h₁.get? s₂.heap.objs.size = some (LCg.lst []) := hsb₁.extBut _ _ hDC (Heap.get?_push_of_some _ (hH2 ▸ Heap.get?_push_size _ rfl))
  have hst₁ : St 0 h₁ := W.frame _ _ _ hst fun x _ o e => old x o e
  have fresh₀ : ∀ x, s₂.heap.objs.size ≤ x → h₀.get? x = none := fun x hx => by
    cases e : h₀.get? x with
    | none => rfl
    | some o' => exact absurd (Heap.lt_size (F.keep x o' e)) (Nat.not_lt.mpr hx)
  have hD₀ : h₀.get? s₂.heap.objs.size = none := fresh₀ _ (Nat.le_refl _)
  have hC₀ : h₀.get? H2.objs.size = none := fresh₀ _ (by rw [hC]; exact Nat.le_succ _)
  have hDL : s₂.heap.objs.size ≠ L := Ne.symm (below L F.ns.lt).2
  have hCL : H2.objs.size ≠ L := Ne.symm (below L F.ns.lt).1
  have offC : ∀ p ∈ news, p.1 ≠ H2.objs.size := fun p hp => (below _ (Heap.lt_size (N p hp).1)).1
  have offD : ∀ p ∈ news, p.1 ≠ s₂.heap.objs.size := fun p hp => (below _ (Heap.lt_size (N p hp).1)).2
  have loop : ∀ s₃ : Shared, s₃ = { s₂ with heap := h₁, toks := s₂.toks + ([] : List (Str × Value)).length } →
      codeAny (model prog w) A (.compLoop (.ListComp elt [⟨.Tuple [.Name a pa, .Name b pb] kk tp, iter, [c], 0⟩] scope pos) 0 (.ref I) (.ref s₂.heap.objs.size) (compEnvC scope cl H2.objs.size env))
        (RR (.ref s₂.heap.objs.size) H2.objs.size) s₃ := by
    rintro s₃ rfl
    refine kct_loop
      (fun k s' => ∃ h' tk i ys m', s' = { s₂ with heap := h', toks := tk } ∧ i ≤ n ∧ k = n + 1 - i ∧ ys.length ≤ i ∧ St i h' ∧ Fr h₀ L h' m ∧ h'.Ns H2.objs.size m' ∧ News h₀ L h' ((s₂.heap.objs.size, LCg.lst ys) :: news) ∧ J i ys) ?_ (n + 1)
      ⟨h₁, _, 0, [], _, rfl, Nat.zero_le _, rfl, Nat.le_refl _, hst₁, F.keeps old, hns₁, fun p hp => ?_, j0⟩
    · rintro k s' ⟨h', tk, i, ys, m', rfl, hi, rfl, hyl, hst', F', hn', N', hj⟩
      have next : ∀ h'' : Heap, (∀ x o, x ∉ wr → h'.get? x = some o → h''.get? x = some o) → Fr h₀ L h'' m ∧ h''.Ns H2.objs.size m' ∧ News h₀ L h'' ((s₂.heap.objs.size, LCg.lst ys) :: news) := fun h'' k =>
        ⟨⟨F'.ns.at' fun o e => k _ o hLw e, fun x o e => k x o (hw₀ x o e) (F'.keep x o e), F'.above⟩, hn'.at' fun o e => k _ o hCw e, fun p hp => ⟨k _ _ (by
          rcases List.mem_cons.mp hp with rfl | hp
          · exact hDw
          · exact hnw p hp) (N' p hp).1, (N' p hp).2⟩⟩
      by_cases hlt : i < n
      · refine W.item i _ _ _ hlt hst' fun T vals h₂ tk₂ hPt _ hT hMid hk₂ => ?_
        obtain ⟨v0, v1, rfl, hP2⟩ := h2 i vals hPt
        refine W.go _ kk tp i T _ _ _ hMid fun h₃ hst₃ hk₃ => ?_
        have hT₃ : h₃.IsTuple T #[v0, v1] := hT.at fun o e => hk₃ T o (W.apart i T h₂ hMid) e
        obtain ⟨F₃, hn₃, N₃⟩ := next h₃ fun x o hx e => hk₃ x o hx (hk₂ x o hx e)
        refine kcp_assign hh hT₃ (lookup_relabel_local hxa) (lookup_relabel_local hxb) (by simp [compEnvC, relabel, hkind]) hn₃ fun h₄ tk₄ hn₄ hk₄ => ?_
        obtain ⟨oC, heC, hoC⟩ := LCg.ns_obj hn₄
        have hk₄' : ∀ x o, x ≠ H2.objs.size → h₃.get? x = some o → h₄.get? x = some o := hk₄
        have F₄ : Fr h₀ L h₄ m := ⟨F₃.ns.at' fun o e => hk₄' _ o (Ne.symm hCL) e, fun x o e => hk₄' x o (fun q => by rw [q, hC₀] at e; cases e) (F₃.keep x o e), F₃.above⟩
        have hst₄ : St (i + 1) h₄ := W.frame _ _ _ hst₃ fun x hx o e => hk₄' x o (fun q => hCf (q ▸ hx)) e
        have N₄ : News h₀ L h₄ ((H2.objs.size, oC) :: (s₂.heap.objs.size, LCg.lst ys) :: (news ++ ownOf h₀ fp h₄)) := fun p hp => by
          rcases List.mem_cons.mp hp with rfl | hp
          · exact ⟨heC, hCL, hC₀⟩
          · have z : p ∈ (s₂.heap.objs.size, LCg.lst ys) :: news ∨ p ∈ ownOf h₀ fp h₄ := by
              rcases List.mem_cons.mp hp with rfl | hp
              · exact .inl (.head _)
              · rcases List.mem_append.mp hp with hp | hp
                · exact .inl (.tail _ hp)
                · exact .inr hp
            rcases z with z | z
            · refine ⟨hk₄' _ _ ?_ (N₃ p z).1, (N₃ p z).2⟩
              rcases List.mem_cons.mp z with rfl | z
              · exact hDC
              · exact offC p z
            · exact news_ownOf hLf p z
        have fin : ∀ (ys' : List Value) (h₅ : Heap) (tk₅ : Nat), ys'.length ≤ i + 1 → Fr h₀ L h₅ m → News h₀ L h₅ ((H2.objs.size, oC) :: (s₂.heap.objs.size, LCg.lst ys') :: (news ++ ownOf h₀ fp h₄)) → J (i + 1) ys' →
            ∃ q, q < n + 1 - i ∧ ∃ h' tk i ys m', ({ s₂ with heap := h₅, toks := tk₅ } : Shared) = { s₂ with heap := h', toks := tk } ∧ i ≤ n ∧ q = n + 1 - i ∧ ys.length ≤ i ∧ St i h' ∧ Fr h₀ L h' m ∧ h'.Ns H2.objs.size m' ∧ News h₀ L h' ((s₂.heap.objs.size, LCg.lst ys) :: news) ∧ J i ys := by
          intro ys' h₅ tk₅ hl F₅ N₅ hj₅
          refine ⟨n + 1 - (i + 1), by omega, h₅, tk₅, i + 1, ys', _, rfl, hlt, rfl, hl, W.frame _ _ _ hst₄ fun x hx o e => ?_, F₅, hoC.ns (N₅ _ (.head _)).1, fun p hp => N₅ p (.tail _ ?_), hj₅⟩
          · cases hx₀ : h₀.get? x with
            | some o₀ =>
              have z := F₄.keep x o₀ hx₀
              rw [e] at z; cases z
              exact F₅.keep x o hx₀
            | none => exact (N₅ _ (.tail _ (.tail _ (List.mem_append_right _ (mem_ownOf hx hx₀ e))))).1
          · rcases List.mem_cons.mp hp with rfl | hp
            · exact .head _
            · exact .tail _ (List.mem_append_left _ hp)
        refine wpAny_mono (turn i v0 v1 ys H2.objs.size oC s₂.heap.objs.size _ h₄ tk₄ (ownOf h₀ fp h₄) _ hlt hP2 hj hoC (by simp [hab]) (by simp) F₄ N₄) (fun ok s₅ h₅ => ?_) fun _ _ e => e
        cases ok with
        | false =>
          simp only [Bool.false_eq_true, if_false] at h₅ ⊢
          refine hideG fun G9 k9 => ?_
          obtain ⟨h₅, tk₅, rfl, F₅, N₅, j₅⟩ := h₅
          refine k9 ?_
          clear k9 G9
          exact fin ys h₅ tk₅ (Nat.le_succ_of_le hyl) F₅ N₅ j₅
        | true =>
          simp only [if_true] at h₅ ⊢
          refine wpAny_mono h₅ (fun y s₆ h₆ => ?_) fun _ _ e => e
          refine hideG fun G9 k9 => ?_
          obtain ⟨h₅, tk₅, rfl, F₅, N₅, j₅⟩ := h₆
          refine k9 ?_
          clear k9 G9
          refine append_at (hsz := by show ys.toArray.size ≤ sizeLine; rw [List.size_toArray]; exact Nat.le_trans hyl (Nat.le_trans hi hsz)) (N₅ _ (.tail _ (.head _))).1 fun h₆ hs₆ hD₆ => ?_
          refine fin (ys ++ [y]) h₆ _ (by rw [List.length_append, List.length_singleton]; exact Nat.succ_le_succ hyl) (F₅.change hs₆ hDL hD₀) (fun p hp => ?_) j₅
          rcases List.mem_cons.mp hp with rfl | hp
          · exact ⟨hs₆.extBut _ oC (Ne.symm hDC) (N₅ _ (.head _)).1, hCL, hC₀⟩
          · rcases List.mem_cons.mp hp with rfl | hp
            · exact ⟨hD₆.trans (congrArg some (LCg.lst_snoc ys y)), hDL, hD₀⟩
            · refine ⟨hs₆.extBut _ _ ?_ (N₅ p (.tail _ (.tail _ hp))).1, (N₅ p (.tail _ (.tail _ hp))).2⟩
              rcases List.mem_append.mp hp with hp | hp
              · exact offD p hp
              · intro q
                exact hDf (q ▸ ownOf_sub p hp)
      · obtain rfl : i = n := Nat.le_antisymm hi (Nat.not_lt.mp hlt)
        refine W.done _ _ _ hst' fun h₂ tk₂ hk₂ => ?_
        obtain ⟨F₂, hn₂, N₂⟩ := next h₂ hk₂
        exact done _ _ h₂ tk₂ _ ys F₂ N₂ (off_of offD) hn₂ hC₀ hD₀ hCL hDL (Ne.symm hDC) offC hj
    · rcases List.mem_cons.mp hp with rfl | hp
      · exact ⟨hacc, hDL, hD₀⟩
      · exact ⟨old _ _ (N p hp).1, (N p hp).2⟩
  exact codeAny_compStart_list (loop _ rfl) (W.self 0 _ _ _ hst₁ (loop _ rfl))

/-- the source of a comprehension over pairs, and what its turns do -/
noncomputable def PcSrc (prog : Program) (w : World) (A : Around) (h₀ : Heap) (L : Addr) (m : Str → Option Value) (env : Env) (c elt : PySem.Expr) (a b : Str) (scope : Scope) (cl : List (Str × Addr)) (Fin : Shared → List Value → List (Addr × Obj) → Prop) (xv : Value) (s₁ : Shared) : Prop :=
  ∃ (I : Addr) (n : Nat) (P2 : Nat → Value → Value → Prop) (base : Nat) (srcs : List Addr) (news : List (Addr × Obj)) (J : Nat → List Value → Prop), xv = .ref I ∧ A.handled = none ∧ PairIt prog w A I n P2 s₁.heap base srcs ∧ n ≤ sizeLine ∧ Fr h₀ L s₁.heap m ∧ News h₀ L s₁.heap news ∧ (@LT.lt Nat _ L base) ∧ (@LE.le Nat _ h₀.objs.size base) ∧ (∀ p ∈ news, @LT.lt Nat _ p.1 base) ∧ (∀ x ∈ srcs, x ≠ L) ∧ J 0 [] ∧
    (∀ i v0 v1 ys C oC D m₂ h tk own (E' : Value → Shared → Prop), i < n → P2 i v0 v1 → J i ys → LCg.NsObj oC m₂ → m₂ a = some v0 → m₂ b = some v1 → Fr h₀ L h m → News h₀ L h ((C, oC) :: (D, LCg.lst ys) :: (news ++ own)) →
      wpAny (model prog w) A (isTrue c (compEnvC scope cl C env) (eval c (compEnvC scope cl C env))) (fun ok s₃ => if ok = true then
        wpAny (model prog w) A (eval elt (compEnvC scope cl C env)) (fun y s₄ => PcEnd h₀ L m ((C, oC) :: (D, LCg.lst ys) :: (news ++ own)) { s₁ with heap := h, toks := tk } (J (i + 1) (ys ++ [y])) s₄) E' s₃
        else PcEnd h₀ L m ((C, oC) :: (D, LCg.lst ys) :: (news ++ own)) { s₁ with heap := h, toks := tk } (J (i + 1) ys) s₃) E' { s₁ with heap := h, toks := tk }) ∧
    (∀ ys, J n ys → Fin s₁ ys news)

theorem pairs_comp {elt iter c : PySem.Expr} {a b : Str} {pa pb tp : Pos} {kk : Nat} {scope : Scope} {cl : List (Str × Addr)} {pos : Pos} {Q : Value → Shared → Prop} (_F₀ : Fr h₀ L s.heap m)
    (hclos : closureFor scope env = pure cl) (hcell : ∀ y ∈ scope.names, y.2 ≠ .cell) (hkind : scope.kind = .function)
    (hnames : ∀ y ∈ scope.names, y.2 = .local → scope.names.lookup y.1 = some .local) (hxa : scope.names.lookup a = some .local) (hxb : scope.names.lookup b = some .local) (hab : ¬ a = b)
    (h : wpAny (model prog w) A (eval iter env) (PcSrc prog w A h₀ L m env c elt a b scope cl (fun s₂ => LCg.FinE h₀ L m s₂ Q)) E s)
    (hs : ∀ x, foldedSetIterable iter env x = pure x := by intro _; rfl) :
    wpAny (model prog w) A (eval (.ListComp elt [⟨.Tuple [.Name a pa, .Name b pb] kk tp, iter, [c], 0⟩] scope pos) env) Q E s := by
  rw [eval_ListComp]
  refine wpAny_comprehension_free (use := none) rfl hs hclos hkind hnames (wpAny_mono h (fun xv s₁ h₁ => ?_) fun _ _ e => e)
  refine hideG fun G9 k9 => ?_
  obtain ⟨I, n, P2, base, srcs, news, J, rfl, hh, PI, hsz, F, N, hL, hb₀, hnb, hsL, j0, turn, fin⟩ := h₁
  refine k9 ?_
  clear k9 G9
  have PI' := PI
  refine hideG fun G9 k9 => ?_
  obtain ⟨fp, wr, Pt, St, Mid, W, h2, hst, hwr, hfp⟩ := PI
  refine k9 ?_
  clear k9 G9
  refine W.self 0 _ _ _ hst ?_
  refine pairs_block hh PI' hsz hcell hkind hxa hxb hab F N hL hb₀ hnb hsL J j0 turn ?_
  intro D C h tk m' ys F' N' o1 hn hC₀ hD₀ hCL hDL hCD offC hj
  refine ⟨m', hn, fun h'' hs'' => fin ys hj D h'' tk (F'.change hs'' hCL hC₀) (fun p hp => ?_) o1⟩
  refine ⟨hs''.extBut _ _ ?_ (N' p hp).1, (N' p hp).2⟩
  rcases List.mem_cons.mp hp with rfl | hp
  · exact Ne.symm hCD
  · exact offC p hp
end

theorem ints_snoc {vs : List Value} {ns : List Int} (h : IntsAre vs ns) (i : Int) (t : Tok) : IntsAre (vs ++ [.int i t]) (ns ++ [i]) := IntsAre.append h (.cons i t .nil)
theorem take_succ_of {α : Type} {l : List α} {i : Nat} {x : α} (h : l[i]? = some x) : l.take (i + 1) = l.take i ++ [x] := by simp [List.take_add_one, h]
section
variable {prog : Program} {w : World} {A : Around} {E : Value → Shared → Prop} {s : Shared} {h₀ : Heap} {L : Addr} {m : Str → Option Value} {env : Env}
theorem pc_pairs {I : Addr} {n : Nat} {P2 : Nat → Value → Value → Prop} {base : Nat} {srcs : List Addr} {news : List (Addr × Obj)} {c elt : PySem.Expr} {a b : Str} {scope : Scope} {cl : List (Str × Addr)} {Fin : Shared → List Value → List (Addr × Obj) → Prop} {s₁ : Shared}
    (hh : A.handled = none) (PI : PairIt prog w A I n P2 s₁.heap base srcs) (hsz : n ≤ sizeLine) (F : Fr h₀ L s₁.heap m) (N : News h₀ L s₁.heap news) (hL : @LT.lt Nat _ L base) (hb₀ : @LE.le Nat _ h₀.objs.size base) (hnb : ∀ p ∈ news, @LT.lt Nat _ p.1 base) (hsL : ∀ x ∈ srcs, x ≠ L)
    (qs : List (Int × Int)) (hn : qs.length = n) (hP : ∀ i v0 v1, i < n → P2 i v0 v1 → ∃ x y t u, qs[i]? = some (x, y) ∧ v0 = .int x t ∧ v1 = .int y u) (f : Int → Int → Option Int)
    (turn : ∀ x y tx ty ys C oC D m₂ h tk own (E' : Value → Shared → Prop), (x, y) ∈ qs → LCg.NsObj oC m₂ → m₂ a = some (.int x tx) → m₂ b = some (.int y ty) → Fr h₀ L h m → News h₀ L h ((C, oC) :: (D, LCg.lst ys) :: (news ++ own)) →
      wpAny (model prog w) A (isTrue c (compEnvC scope cl C env) (eval c (compEnvC scope cl C env))) (fun ok s₃ => if ok = true then
        wpAny (model prog w) A (eval elt (compEnvC scope cl C env)) (fun v s₄ => PcEnd h₀ L m ((C, oC) :: (D, LCg.lst ys) :: (news ++ own)) { s₁ with heap := h, toks := tk } (∃ z t, f x y = some z ∧ v = .int z t) s₄) E' s₃
        else PcEnd h₀ L m ((C, oC) :: (D, LCg.lst ys) :: (news ++ own)) { s₁ with heap := h, toks := tk } (f x y = none) s₃) E' { s₁ with heap := h, toks := tk })
    (done : ∀ vs, IntsAre vs (qs.filterMap fun p => f p.1 p.2) → Fin s₁ vs news) :
    PcSrc prog w A h₀ L m env c elt a b scope cl Fin (.ref I) s₁ := by
  refine ⟨I, n, P2, base, srcs, news, fun i vs => IntsAre vs ((qs.take i).filterMap fun p => f p.1 p.2), rfl, hh, PI, hsz, F, N, hL, hb₀, hnb, hsL, .nil, ?_, fun vs h => done vs (by rw [← hn, List.take_length] at h; exact h)⟩
  intro i v0 v1 ys C oC D m₂ h tk own E' hi hp hj hC ha hb F' N'
  refine hideG fun G9 k9 => ?_
  obtain ⟨x, y, t, u, hq, rfl, rfl⟩ := hP i v0 v1 hi hp
  refine k9 ?_
  clear k9 G9
  have step : ∀ ys' : List Value, IntsAre ys' ((qs.take i).filterMap (fun p => f p.1 p.2) ++ [(x, y)].filterMap (fun p => f p.1 p.2)) → IntsAre ys' ((qs.take (i + 1)).filterMap fun p => f p.1 p.2) := fun ys' h => by
    rw [take_succ_of hq, List.filterMap_append]; exact h
  refine wpAny_mono (turn x y t u ys C oC D m₂ h tk own E' (List.mem_of_getElem? hq) hC ha hb F' N') (fun ok s₃ h₃ => ?_) fun _ _ e => e
  cases ok with
  | false =>
    simp only [Bool.false_eq_true, if_false] at h₃ ⊢
    refine hideG fun G9 k9 => ?_
    obtain ⟨h', tk', e, F'', N'', hf⟩ := h₃
    refine k9 ?_
    clear k9 G9
    exact ⟨h', tk', e, F'', N'', step _ (by simpa [hf] using hj)⟩
  | true =>
    simp only [if_true] at h₃ ⊢
    refine wpAny_mono h₃ (fun v s₄ h₄ => ?_) fun _ _ e => e
    refine hideG fun G9 k9 => ?_
    obtain ⟨h', tk', e, F'', N'', z, t', hf, rfl⟩ := h₄
    refine k9 ?_
    clear k9 G9
    exact ⟨h', tk', e, F'', N'', step _ (by simpa [hf] using ints_snoc hj z t')⟩

theorem ints_at {vs : List Value} {ns : List Int} (h : IntsAre vs ns) {i : Nat} {v : Value} (e : vs.toArray[i]? = some v) : ∃ x t, ns[i]? = some x ∧ v = .int x t := by
  have e' : vs[i]? = some v := by simpa using e
  have hl := h.length
  have hlt : i < ns.length := by
    have := (List.getElem?_eq_some_iff.mp e').1
    omega
  obtain ⟨t, ht⟩ := h.get i ns[i] (by simp [hlt])
  rw [ht] at e'
  exact ⟨ns[i], t, by simp [hlt], (Option.some.inj e').symm⟩

theorem pc_zip {l1 l2 : Addr} {vs1 vs2 : List Value} {xs ys : List Int} {news : List (Addr × Obj)} {c elt : PySem.Expr} {a b : Str} {scope : Scope} {cl : List (Str × Addr)} {Fin : Shared → List Value → List (Addr × Obj) → Prop}
    (hh : A.handled = none) (hl1 : s.heap.IsList l1 vs1.toArray) (hl2 : s.heap.IsList l2 vs2.toArray) (i1 : IntsAre vs1 xs) (i2 : IntsAre vs2 ys) (F : Fr h₀ L s.heap m) (N : News h₀ L s.heap news) (h1L : l1 ≠ L) (h2L : l2 ≠ L) (hsz : xs.length ≤ 100000)
    (f : Int → Int → Option Int)
    (turn : ∀ s₁ : Shared, (∃ g, s₁ = { s with heap := g }) → ∀ x y tx ty zs C oC D m₂ h tk own (E' : Value → Shared → Prop), (x, y) ∈ xs.zip ys → LCg.NsObj oC m₂ → m₂ a = some (.int x tx) → m₂ b = some (.int y ty) → Fr h₀ L h m → News h₀ L h ((C, oC) :: (D, LCg.lst zs) :: (news ++ own)) →
      wpAny (model prog w) A (isTrue c (compEnvC scope cl C env) (eval c (compEnvC scope cl C env))) (fun ok s₃ => if ok = true then
        wpAny (model prog w) A (eval elt (compEnvC scope cl C env)) (fun v s₄ => PcEnd h₀ L m ((C, oC) :: (D, LCg.lst zs) :: (news ++ own)) { s₁ with heap := h, toks := tk } (∃ z t, f x y = some z ∧ v = .int z t) s₄) E' s₃
        else PcEnd h₀ L m ((C, oC) :: (D, LCg.lst zs) :: (news ++ own)) { s₁ with heap := h, toks := tk } (f x y = none) s₃) E' { s₁ with heap := h, toks := tk })
    (done : ∀ s₁ : Shared, (∃ g, s₁ = { s with heap := g }) → ∀ vs, IntsAre vs ((xs.zip ys).filterMap fun p => f p.1 p.2) → Fin s₁ vs news) :
    wpAny (model prog w) A (call (.type "zip") [.ref l1, .ref l2]) (PcSrc prog w A h₀ L m env c elt a b scope cl Fin) E s := by
  refine zip_it hh hl1 hl2 fun I h' PI hk => ?_
  have e1 : vs1.toArray.size = xs.length := by simp [i1.length]
  have e2 : vs2.toArray.size = ys.length := by simp [i2.length]
  refine pc_pairs hh PI ?_ ⟨F.ns.keeps hk, fun b o e => hk b o (F.keep b o e), F.above⟩ (fun p hp => ⟨hk _ _ (N p hp).1, (N p hp).2⟩) F.ns.lt (Nat.le_of_lt (Nat.lt_of_le_of_lt F.above F.ns.lt)) (fun p hp => Heap.lt_size (N p hp).1) ?_ (xs.zip ys) ?_ ?_ f (turn _ ⟨h', rfl⟩) (done _ ⟨h', rfl⟩)
  · rw [e1, e2, sizeLine_eq]; omega
  · intro x hx
    simp only [List.mem_cons, List.not_mem_nil, or_false] at hx
    rcases hx with rfl | rfl
    · exact h1L
    · exact h2L
  · rw [List.length_zip, e1, e2]
  · rintro i v0 v1 _ ⟨h1, h2⟩
    obtain ⟨x, t, hx, rfl⟩ := ints_at i1 h1
    obtain ⟨y, u, hy, rfl⟩ := ints_at i2 h2
    exact ⟨x, y, t, u, List.getElem?_zip_eq_some.mpr ⟨hx, hy⟩, rfl, rfl⟩

noncomputable def enumI (xs : List Int) : List (Int × Int) := (List.range xs.length).map fun (i : Nat) => ((i : Int), xs.getD i 0)
theorem pc_enum {l : Addr} {vs1 : List Value} {xs : List Int} {news : List (Addr × Obj)} {c elt : PySem.Expr} {a b : Str} {scope : Scope} {cl : List (Str × Addr)} {Fin : Shared → List Value → List (Addr × Obj) → Prop}
    (hh : A.handled = none) (hl1 : s.heap.IsList l vs1.toArray) (i1 : IntsAre vs1 xs) (F : Fr h₀ L s.heap m) (N : News h₀ L s.heap news) (h1L : l ≠ L) (hsz : xs.length ≤ 100000)
    (f : Int → Int → Option Int)
    (turn : ∀ s₁ : Shared, (∃ g, s₁ = { s with heap := g }) → ∀ x y tx ty zs C oC D m₂ h tk own (E' : Value → Shared → Prop), (x, y) ∈ enumI xs → LCg.NsObj oC m₂ → m₂ a = some (.int x tx) → m₂ b = some (.int y ty) → Fr h₀ L h m → News h₀ L h ((C, oC) :: (D, LCg.lst zs) :: (news ++ own)) →
      wpAny (model prog w) A (isTrue c (compEnvC scope cl C env) (eval c (compEnvC scope cl C env))) (fun ok s₃ => if ok = true then
        wpAny (model prog w) A (eval elt (compEnvC scope cl C env)) (fun v s₄ => PcEnd h₀ L m ((C, oC) :: (D, LCg.lst zs) :: (news ++ own)) { s₁ with heap := h, toks := tk } (∃ z t, f x y = some z ∧ v = .int z t) s₄) E' s₃
        else PcEnd h₀ L m ((C, oC) :: (D, LCg.lst zs) :: (news ++ own)) { s₁ with heap := h, toks := tk } (f x y = none) s₃) E' { s₁ with heap := h, toks := tk })
    (done : ∀ s₁ : Shared, (∃ g, s₁ = { s with heap := g }) → ∀ vs, IntsAre vs ((enumI xs).filterMap fun p => f p.1 p.2) → Fin s₁ vs news) :
    wpAny (model prog w) A (call (.type "enumerate") [.ref l]) (PcSrc prog w A h₀ L m env c elt a b scope cl Fin) E s := by
  refine enum_it hh hl1 fun I h' PI hk => ?_
  have e1 : vs1.toArray.size = xs.length := by simp [i1.length]
  refine pc_pairs hh PI ?_ ⟨F.ns.keeps hk, fun b o e => hk b o (F.keep b o e), F.above⟩ (fun p hp => ⟨hk _ _ (N p hp).1, (N p hp).2⟩) F.ns.lt (Nat.le_of_lt (Nat.lt_of_le_of_lt F.above F.ns.lt)) (fun p hp => Heap.lt_size (N p hp).1) ?_ (enumI xs) ?_ ?_ f (turn _ ⟨h', rfl⟩) (done _ ⟨h', rfl⟩)
  · rw [e1, sizeLine_eq]; omega
  · intro x hx
    rw [List.mem_singleton.mp hx]; exact h1L
  · rw [e1, enumI, List.length_map, List.length_range]
  · rintro i v0 v1 hi ⟨⟨t, rfl⟩, h2⟩
    obtain ⟨x, u, hx, rfl⟩ := ints_at i1 h2
    have hlt := (List.getElem?_eq_some_iff.mp hx).1
    refine ⟨_, x, t, u, ?_, rfl, rfl⟩
    have hg : xs.getD i 0 = x := by simp [List.getD, hx]
    unfold enumI
    rw [List.getElem?_map, List.getElem?_range hlt, Option.map_some, hg]
end

local macro_rules | `(tactic| walk_at "eval ListComp") => `(tactic| (k_here; (with_reducible show wpAny _ _ (eval (Expr.ListComp _ [PySem.Comprehension.mk (Expr.Tuple _ _ _) _ _ _] _ _) _) _ _ _); k_dflt (refine' pairs_comp ?k1 ?k2 ?k3 ?k4 ?k5 ?k6 ?k7 ?k8 ?_ ?k9; (case k1 => k_asm); (case k2 => exact rfl); (case k3 => decide); (case k4 => exact rfl); (case k5 => decide); (case k6 => exact rfl); (case k7 => exact rfl); (case k8 => decide); (case k9 => exact fun _ => rfl))))
theorem fresh_Ccomp1 : True := by
  k_with_none
  w_top off
  trivial
section
variable {prog : Program} {w : World} {A : Around} {E : Value → Shared → Prop} {s : Shared} {h₀ : Heap} {L : Addr} {m : Str → Option Value} {env : Env}

theorem compRest_inv {elt : PySem.Expr} {x : Str} {scope : Scope} {cl : List (Str × Addr)} {S : List (Addr × Obj) → Prop} {P : Nat → Value → Prop} {Fin : List Value → List (Addr × Obj) → Prop} {n : Nat} (J : Nat → List Value → List (Addr × Obj) → Prop)
    (turn : ∀ i ys news v I oI C oC D m₂ h tk (E' : Value → Shared → Prop), i < n → J i ys news → P i v → LCg.NsObj oC m₂ → m₂ x = some v → Fr h₀ L h m → News h₀ L h ((I, oI) :: (C, oC) :: (D, LCg.lst ys) :: news) → LCg.Off3 I C D news → ((@Ne Nat I C) ∧ (@Ne Nat I D) ∧ (@Ne Nat C D)) →
      wpAny (model prog w) A (eval elt (compEnvC scope cl C env)) (LCg.CompEnd h₀ L m { s with heap := h, toks := tk } I oI C oC D (LCg.lst ys) S (fun y news' => J (i + 1) (ys ++ [y]) news')) E' { s with heap := h, toks := tk })
    (fin : ∀ ys news, J n ys news → Fin ys news) : ∀ k i ys news, k + i = n → J i ys news → LCg.CompRest prog w A h₀ L m env elt x scope cl s S P Fin k i ys news
  | 0, i, ys, news, e, j => LCg.CompRest.zero (fin ys news (by rw [← e, Nat.zero_add]; exact j))
  | k + 1, i, ys, news, e, j => LCg.CompRest.succ fun v I oI C oC D m₂ h tk E' hP hC hx F N off ne =>
      wpAny_mono (turn i ys news v I oI C oC D m₂ h tk E' (by omega) j hP hC hx F N off ne) (fun y s' ⟨h', tk', news', e', F', N', off', hS, j'⟩ => ⟨h', tk', news', e', F', N', off', hS, compRest_inv J turn fin k (i + 1) _ _ (by omega) j'⟩) fun _ _ z => z

theorem compRestT_inv {ct elt : PySem.Expr} {x : Str} {scope : Scope} {cl : List (Str × Addr)} {S : List (Addr × Obj) → Prop} {P : Nat → Value → Prop} {Fin : List Value → List (Addr × Obj) → Prop} {n : Nat} (J : Nat → List Value → List (Addr × Obj) → Prop)
    (turn : ∀ i ys news v I oI C oC D m₂ h tk (E' : Value → Shared → Prop), i < n → J i ys news → P i v → LCg.NsObj oC m₂ → m₂ x = some v → Fr h₀ L h m → News h₀ L h ((I, oI) :: (C, oC) :: (D, LCg.lst ys) :: news) → LCg.Off3 I C D news → ((@Ne Nat I C) ∧ (@Ne Nat I D) ∧ (@Ne Nat C D)) →
      wpAny (model prog w) A (isTrue ct (compEnvC scope cl C env) (eval ct (compEnvC scope cl C env))) (fun ok s' => if ok = true then
        wpAny (model prog w) A (eval elt (compEnvC scope cl C env)) (LCg.CompEnd h₀ L m { s with heap := h, toks := tk } I oI C oC D (LCg.lst ys) S (fun y news' => J (i + 1) (ys ++ [y]) news')) E' s'
        else LCg.CompEnd h₀ L m { s with heap := h, toks := tk } I oI C oC D (LCg.lst ys) S (fun _ news' => J (i + 1) ys news') Value.none s') E' { s with heap := h, toks := tk })
    (fin : ∀ ys news, J n ys news → Fin ys news) : ∀ k i ys news, k + i = n → J i ys news → LCt.CompRestT prog w A h₀ L m env ct elt x scope cl s S P Fin k i ys news
  | 0, i, ys, news, e, j => LCt.CompRestT.zero (fin ys news (by rw [← e, Nat.zero_add]; exact j))
  | k + 1, i, ys, news, e, j => LCt.CompRestT.succ fun v I oI C oC D m₂ h tk E' hP hC hx F N off ne =>
      wpAny_mono (turn i ys news v I oI C oC D m₂ h tk E' (by omega) j hP hC hx F N off ne) (fun ok s' h₁ => by
        cases ok with
        | false =>
          simp only [Bool.false_eq_true, if_false] at h₁ ⊢
          refine hideG fun G9 k9 => ?_
          obtain ⟨h', tk', news', e', F', N', off', hS, j'⟩ := h₁
          refine k9 ?_
          clear k9 G9
          exact ⟨h', tk', news', e', F', N', off', hS, compRestT_inv J turn fin k (i + 1) _ _ (by omega) j'⟩
        | true =>
          simp only [if_true] at h₁ ⊢
          exact wpAny_mono h₁ (fun y s' ⟨h', tk', news', e', F', N', off', hS, j'⟩ => ⟨h', tk', news', e', F', N', off', hS, compRestT_inv J turn fin k (i + 1) _ _ (by omega) j'⟩) fun _ _ z => z) fun _ _ z => z

/-- a comprehension over a list of ints, no test, that changes nothing -/
theorem c0_src {elt : PySem.Expr} {x : Str} {scope : Scope} {cl : List (Str × Addr)} {Fin : Shared → List Value → List (Addr × Obj) → Prop} {ax : Addr} {vs : List Value} {ns : List Int} {news : List (Addr × Obj)}
    (hh : A.handled = none) (F : Fr h₀ L s.heap m) (N : News h₀ L s.heap news) (S : LCg.SrcAt h₀ ax vs.toArray news) (hi : IntsAre vs ns) (hsz : ns.length ≤ 100000) (f : Int → Int)
    (turn : ∀ s₁ : Shared, (∃ g, s₁ = { s with heap := g }) → ∀ v tv ys I oI C oC D m₂ h tk (E' : Value → Shared → Prop), v ∈ ns → LCg.NsObj oC m₂ → m₂ x = some (.int v tv) → Fr h₀ L h m → News h₀ L h ((I, oI) :: (C, oC) :: (D, LCg.lst ys) :: news) →
      wpAny (model prog w) A (eval elt (compEnvC scope cl C env)) (fun y s₄ => PcEnd h₀ L m ((I, oI) :: (C, oC) :: (D, LCg.lst ys) :: news) { s₁ with heap := h, toks := tk } (∃ t, y = .int (f v) t) s₄) E' { s₁ with heap := h, toks := tk })
    (done : ∀ s₁ : Shared, (∃ g, s₁ = { s with heap := g }) → ∀ ws, IntsAre ws (ns.map f) → Fin s₁ ws news) :
    LCg.CompSrc prog w A h₀ L m env elt x scope cl Fin (.ref ax) s := by
  have e1 : vs.toArray.size = ns.length := by simp [hi.length]
  refine .inl ⟨ax, vs.toArray, news, rfl, hh, F, N, S, by rw [e1, sizeLine_eq]; omega, fun s₂ hs => ?_⟩
  refine compRest_inv (n := vs.toArray.size) (fun i ys nx => nx = news ∧ IntsAre ys ((ns.take i).map f)) ?_ ?_ _ 0 [] news rfl ⟨rfl, .nil⟩
  · rintro i ys nx v I oI C oC D m₂ h tk E' hlt ⟨rfl, hj⟩ hP hC hx F' N' off ne
    obtain ⟨z, t, hz, rfl⟩ := ints_at hi hP
    refine wpAny_mono (turn s₂ hs z t ys I oI C oC D m₂ h tk E' (List.mem_of_getElem? hz) hC hx F' N') (fun y s₄ ⟨h', tk', e, F'', N'', u, hu⟩ => ⟨h', tk', nx, e, F'', N'', off, S, rfl, ?_⟩) fun _ _ z => z
    rw [take_succ_of hz, List.map_append, List.map_singleton, hu]
    exact ints_snoc hj _ _
  · rintro ys nx ⟨rfl, hj⟩
    rw [e1, List.take_length] at hj
    exact done s₂ hs ys hj

/-- the same with one test -/
theorem c1_src {ct elt : PySem.Expr} {x : Str} {scope : Scope} {cl : List (Str × Addr)} {Fin : Shared → List Value → List (Addr × Obj) → Prop} {ax : Addr} {vs : List Value} {ns : List Int} {news : List (Addr × Obj)}
    (hh : A.handled = none) (F : Fr h₀ L s.heap m) (N : News h₀ L s.heap news) (S : LCg.SrcAt h₀ ax vs.toArray news) (hi : IntsAre vs ns) (hsz : ns.length ≤ 100000) (f : Int → Option Int)
    (turn : ∀ s₁ : Shared, (∃ g, s₁ = { s with heap := g }) → ∀ v tv ys I oI C oC D m₂ h tk (E' : Value → Shared → Prop), v ∈ ns → LCg.NsObj oC m₂ → m₂ x = some (.int v tv) → Fr h₀ L h m → News h₀ L h ((I, oI) :: (C, oC) :: (D, LCg.lst ys) :: news) →
      wpAny (model prog w) A (isTrue ct (compEnvC scope cl C env) (eval ct (compEnvC scope cl C env))) (fun ok s₃ => if ok = true then
        wpAny (model prog w) A (eval elt (compEnvC scope cl C env)) (fun y s₄ => PcEnd h₀ L m ((I, oI) :: (C, oC) :: (D, LCg.lst ys) :: news) { s₁ with heap := h, toks := tk } (∃ z t, f v = some z ∧ y = .int z t) s₄) E' s₃
        else PcEnd h₀ L m ((I, oI) :: (C, oC) :: (D, LCg.lst ys) :: news) { s₁ with heap := h, toks := tk } (f v = none) s₃) E' { s₁ with heap := h, toks := tk })
    (done : ∀ s₁ : Shared, (∃ g, s₁ = { s with heap := g }) → ∀ ws, IntsAre ws (ns.filterMap f) → Fin s₁ ws news) :
    LCt.CompSrcT prog w A h₀ L m env ct elt x scope cl Fin (.ref ax) s := by
  have e1 : vs.toArray.size = ns.length := by simp [hi.length]
  refine .inl ⟨ax, vs.toArray, news, rfl, hh, F, N, S, by rw [e1, sizeLine_eq]; omega, fun s₂ hs => ?_⟩
  refine compRestT_inv (n := vs.toArray.size) (fun i ys nx => nx = news ∧ IntsAre ys ((ns.take i).filterMap f)) ?_ ?_ _ 0 [] news rfl ⟨rfl, .nil⟩
  · rintro i ys nx v I oI C oC D m₂ h tk E' hlt ⟨rfl, hj⟩ hP hC hx F' N' off ne
    obtain ⟨z, t, hz, rfl⟩ := ints_at hi hP
    have step : ∀ ys' : List Value, IntsAre ys' ((ns.take i).filterMap f ++ [z].filterMap f) → IntsAre ys' ((ns.take (i + 1)).filterMap f) := fun ys' h => by
      rw [take_succ_of hz, List.filterMap_append]; exact h
    refine wpAny_mono (turn s₂ hs z t ys I oI C oC D m₂ h tk E' (List.mem_of_getElem? hz) hC hx F' N') (fun ok s₃ h₃ => ?_) fun _ _ z => z
    cases ok with
    | false =>
      simp only [Bool.false_eq_true, if_false] at h₃ ⊢
      refine hideG fun G9 k9 => ?_
      obtain ⟨h', tk', e, F'', N'', hf⟩ := h₃
      refine k9 ?_
      clear k9 G9
      exact ⟨h', tk', nx, e, F'', N'', off, S, rfl, step _ (by simpa [hf] using hj)⟩
    | true =>
      simp only [if_true] at h₃ ⊢
      refine wpAny_mono h₃ (fun y s₄ h₄ => ?_) fun _ _ z => z
      refine hideG fun G9 k9 => ?_
      obtain ⟨h', tk', e, F'', N'', z', t', hf, rfl⟩ := h₄
      refine k9 ?_
      clear k9 G9
      exact ⟨h', tk', nx, e, F'', N'', off, S, rfl, step _ (by simpa [hf] using ints_snoc hj z' t')⟩
  · rintro ys nx ⟨rfl, hj⟩
    rw [e1, List.take_length] at hj
    exact done s₂ hs ys hj

noncomputable def PsEnd (h₀ : Heap) (L : Addr) (m : Str → Option Value) {σ : Type} (I : Addr) (oI : Obj) (C : Addr) (oC : Obj) (D : Addr) (oD : Obj) (Led : σ → List (Addr × Obj)) (s₁ : Shared) (P : Value → σ → Prop) (y : Value) (s₂ : Shared) : Prop :=
  ∃ h' tk c, s₂ = { s₁ with heap := h', toks := tk } ∧ Fr h₀ L h' m ∧ News h₀ L h' ((I, oI) :: (C, oC) :: (D, oD) :: Led c) ∧ P y c
theorem ps_end {m : Str → Option Value} {σ : Type} {I : Addr} {oI : Obj} {C : Addr} {oC : Obj} {D : Addr} {oD : Obj} {Led : σ → List (Addr × Obj)} {s₁ : Shared} {P : Value → σ → Prop} {y : Value} {h' : Heap} {tk : Nat} (c : σ) (F : Fr h₀ L h' m) (N : News h₀ L h' ((I, oI) :: (C, oC) :: (D, oD) :: Led c)) (p : P y c) : PsEnd h₀ L m I oI C oC D oD Led s₁ P y { s₁ with heap := h', toks := tk } := ⟨h', tk, c, rfl, F, N, p⟩
theorem off3_same {I C D : Addr} {l l' : List (Addr × Obj)} (h : LCg.Off3 I C D l) (e : l'.map (·.1) = l.map (·.1)) : LCg.Off3 I C D l' := by
  refine LCg.Off3.of fun p hp => ?_
  have h1 : p.1 ∈ l.map (·.1) := e ▸ List.mem_map_of_mem hp
  obtain ⟨q, hq, hqe⟩ := List.mem_map.mp h1
  rw [← hqe]
  exact h.mem q hq
/-- a comprehension over a range, no test, that changes objects of the ledger -/
theorem cr_src {σ : Type} {elt : PySem.Expr} {x : Str} {scope : Scope} {cl : List (Str × Addr)} {Fin : Shared → List Value → List (Addr × Obj) → Prop} {r : Addr} {a b : Int} {t u v : Tok} {n : Nat} (Led : σ → List (Addr × Obj)) (P : Nat → List Value → σ → Prop) (c₀ : σ)
    (hh : A.handled = none) (hr : IsRange s.heap r a b 1 t u v) (hsm : Builtin.Range.small a b 1 = true) (hn : Builtin.Range.rangeSize a b 1 = ((n : Nat) : Int)) (hsz : n ≤ 100000)
    (F : Fr h₀ L s.heap m) (N : News h₀ L s.heap (Led c₀)) (hp : P 0 [] c₀) (hadr : ∀ c c', (Led c).map (·.1) = (Led c').map (·.1))
    (turn : ∀ s₁ : Shared, (∃ g, s₁ = { s with heap := g }) → ∀ i c tv ys I oI C oC D m₂ h tk (E' : Value → Shared → Prop), i < n → P i ys c → LCg.NsObj oC m₂ → m₂ x = some (.int (a + (i : Int)) tv) → Fr h₀ L h m → News h₀ L h ((I, oI) :: (C, oC) :: (D, LCg.lst ys) :: Led c) → LCg.Off3 I C D (Led c) → ((@Ne Nat I C) ∧ (@Ne Nat I D) ∧ (@Ne Nat C D)) →
      wpAny (model prog w) A (eval elt (compEnvC scope cl C env)) (PsEnd h₀ L m I oI C oC D (LCg.lst ys) Led { s₁ with heap := h, toks := tk } (fun y c' => P (i + 1) (ys ++ [y]) c')) E' { s₁ with heap := h, toks := tk })
    (done : ∀ s₁ : Shared, (∃ g, s₁ = { s with heap := g }) → ∀ ys c, P n ys c → Fin s₁ ys (Led c)) :
    LCg.CompSrc prog w A h₀ L m env elt x scope cl Fin (.ref r) s := by
  refine .inr ⟨r, a, b, t, u, v, n, _, rfl, hh, F, N, hr, hsm, hn, by rw [sizeLine_eq]; omega, fun s₂ hs => ?_⟩
  refine compRest_inv (n := n) (fun i ys nx => ∃ c, nx = Led c ∧ P i ys c) ?_ ?_ _ 0 [] _ rfl ⟨c₀, rfl, hp⟩
  · rintro i ys nx v I oI C oC D m₂ h tk E' hlt ⟨c, rfl, hj⟩ ⟨tv, rfl⟩ hC hx F' N' off ne
    refine wpAny_mono (turn s₂ hs i c tv ys I oI C oC D m₂ h tk E' hlt hj hC hx F' N' off ne) (fun y s₄ ⟨h', tk', c', e, F'', N'', hp'⟩ => ⟨h', tk', Led c', e, F'', N'', off3_same off (hadr _ _), trivial, c', rfl, hp'⟩) fun _ _ z => z
  · rintro ys nx ⟨c, rfl, hj⟩
    exact done s₂ hs ys c hj

theorem src_led {ax : Addr} {vs : List Value} {k : Nat} {news : List (Addr × Obj)} (h : (ax, listOf vs.toArray k) ∈ news) : LCg.SrcAt h₀ ax vs.toArray news := .inr ⟨_, h, rfl, _, rfl⟩
end

local macro_rules | `(tactic| walk_at "CompSrc") => `(tactic| refine hold ?_)
local macro_rules | `(tactic| walk_at "CompSrcT") => `(tactic| refine hold ?_)
local macro_rules | `(tactic| walk_at "eval ListComp") => `(tactic| (k_here; (with_reducible show wpAny _ _ (eval (Expr.ListComp _ [PySem.Comprehension.mk (Expr.Name _ _) _ [] _] _ _) _) _ _ _); k_dflt (refine LCg.ListComp_U (F₀ := by k_asm) (by with_unfolding_all rfl) (by decide) (by rfl) (by decide) (by rfl) ?_)))
local macro_rules | `(tactic| walk_at "eval ListComp") => `(tactic| (k_here; (with_reducible show wpAny _ _ (eval (Expr.ListComp _ [PySem.Comprehension.mk (Expr.Name _ _) _ [_] _] _ _) _) _ _ _); k_dflt (refine LCt.ListComp_T (F₀ := by k_asm) (by with_unfolding_all rfl) (by decide) (by rfl) (by decide) (by rfl) ?_)))
local macro_rules | `(tactic| walk_at "exec Assign cons ListComp") => `(tactic| (k_here; (with_reducible show wpAny _ _ (exec (Stmt.Assign _ (Expr.ListComp _ [PySem.Comprehension.mk (Expr.Name _ _) _ [] _] _ _) _) _) _ _ _); k_dflt (refine LCg.Assign_ListComp_U (F₀ := by k_asm) (by rfl) (by with_unfolding_all rfl) (by with_unfolding_all rfl) (by decide) (by rfl) (by decide) (by rfl) (by rfl) (by rfl) ?_)))
local macro_rules | `(tactic| walk_at "exec Assign cons ListComp") => `(tactic| (k_here; (with_reducible show wpAny _ _ (exec (Stmt.Assign _ (Expr.ListComp _ [PySem.Comprehension.mk (Expr.Name _ _) _ [_] _] _ _) _) _) _ _ _); k_dflt (refine LCt.Assign_ListComp_T (F₀ := by k_asm) (by rfl) (by with_unfolding_all rfl) (by with_unfolding_all rfl) (by decide) (by rfl) (by decide) (by rfl) (by rfl) (by rfl) ?_)))
theorem fresh_Cpairc : True := by
  k_with_none
  w_top off
  trivial
section
variable {prog : Program} {w : World} {A : Around} {s : Shared} {env : Env} {h₀ : Heap}

theorem codeAny_forLoop_frG {R : Result → Shared → Prop} {xi xc : Str} {pk pv pt : Pos} {x1 : Nat} {body : List Stmt} {I : Addr} {fp wr : List Addr} {n : Nat} {Pt : Nat → Array Value → Prop} {St : Nat → Heap → Prop} {Mid : Nat → Addr → Heap → Prop}
    {P2 : Nat → Value → Value → Prop} {m : Str → Option Value} {news : List (Addr × Obj)} (hh : A.handled = none) (W : WalksT prog w A I fp wr n Pt St Mid) (h2 : ∀ i vals, Pt i vals → ∃ v0 v1, vals = #[v0, v1] ∧ P2 i v0 v1)
    (hLf : env.locals ∉ fp) (hwr : ∀ b ∈ wr, h₀.get? b = none) (hnw : ∀ p ∈ news, p.1 ∉ wr)
    (hst : St 0 s.heap) (F : Fr h₀ env.locals s.heap m) (N : News h₀ env.locals s.heap news)
    (J : Nat → (Str → Option Value) → List (Addr × Obj) → Prop) (h0 : J 0 m news)
    (step : ∀ i v0 v1 m₁ news₁ s₁ own, (∃ h tk, s₁ = { s with heap := h, toks := tk }) → i < n → P2 i v0 v1 → J i m₁ news₁ → news₁.map (·.1) = news.map (·.1) → (∀ p ∈ own, p.1 ∈ fp) →
      Fr h₀ env.locals s₁.heap m₁ → News h₀ env.locals s₁.heap (own ++ news₁) →
      wpAny (model prog w) A (assign (.Name xi pk) env v0) (fun _ t₁ => wpAny (model prog w) A (assign (.Name xc pv) env v1) (fun _ t₂ => wpAny (model prog w) A (execs body env) (LoopStep3 h₀ env.locals own news₁ (J (i + 1)) s₁ (fun v s' => R (.ok (.ret v)) s') fun s' => R (.ok .next) s') (notedBy (model prog w) A env fun e s' => R (.error e) s') t₂)
        (notedBy (model prog w) A env fun e s' => R (.error e) s') t₁) (notedBy (model prog w) A env fun e s' => R (.error e) s') s₁)
    (hR : ∀ h' tk m' news', Fr h₀ env.locals h' m' → News h₀ env.locals h' news' → news'.map (·.1) = news.map (·.1) → J n m' news' → R (.ok .next) { s with heap := h', toks := tk }) :
    codeAny (model prog w) A (.forLoop (.Tuple [.Name xi pk, .Name xc pv] x1 pt) (.ref I) body [] env) R s := by
  have hLw : env.locals ∉ wr := fun h => hLf (W.sub _ h)
  have old : ∀ b o, h₀.get? b = some o → b ∉ wr := fun b o e hb => by rw [hwr b hb] at e; cases e
  have hnw' : ∀ news' : List (Addr × Obj), news'.map (·.1) = news.map (·.1) → ∀ p ∈ news', p.1 ∉ wr := fun news' ha p hp => by
    have : p.1 ∈ news.map (·.1) := ha ▸ List.mem_map.mpr ⟨p, hp, rfl⟩
    obtain ⟨q, hq, e⟩ := List.mem_map.mp this
    exact e ▸ hnw q hq
  refine codeAny_forLoop_any
    (fun k s' => ∃ h' tk m' news' i, s' = { s with heap := h', toks := tk } ∧ St i h' ∧ Fr h₀ env.locals h' m' ∧ News h₀ env.locals h' news' ∧ news'.map (·.1) = news.map (·.1) ∧ J i m' news' ∧ i ≤ n ∧ k = n + 1 - i) ?_ (n + 1)
    ⟨s.heap, s.toks, m, news, 0, rfl, hst, F, N, rfl, h0, Nat.zero_le _, rfl⟩
  rintro k s' ⟨H, tk, m', news', i, rfl, hst', F', N', ha', hJ, hi, rfl⟩
  have next : ∀ h₁ : Heap, (∀ b o, b ∉ wr → H.get? b = some o → h₁.get? b = some o) → Fr h₀ env.locals h₁ m' ∧ News h₀ env.locals h₁ news' := fun h₁ hk₁ =>
    ⟨⟨F'.ns.at' fun o e => hk₁ _ o hLw e, fun b o e => hk₁ b o (old b o e) (F'.keep b o e), F'.above⟩, fun p hp => ⟨hk₁ _ _ (hnw' news' ha' p hp) (N' p hp).1, (N' p hp).2⟩⟩
  by_cases hlt : i < n
  · refine W.item i _ _ _ hlt hst' fun T vals h₁ tk₁ hPt _ hT hMid hk₁ => ?_
    obtain ⟨v0, v1, rfl, hP2⟩ := h2 i vals hPt
    refine W.go _ x1 pt i T _ _ _ hMid fun h₂ hst₂ hk₂ => ?_
    have ht₂ : h₂.IsTuple T #[v0, v1] := hT.at fun o e => hk₂ T o (W.apart i T h₁ hMid) e
    refine wpAny_assign_Tuple hh ht₂ rfl rfl fun h₃ hx₃ => ?_
    replace hx₃ : Heap.ExtBut h₂.objs.size h₂ h₃ := hx₃
    have up₃ : ∀ b o, h₂.get? b = some o → h₃.get? b = some o := fun b o x => hx₃ b o (Nat.ne_of_lt (Heap.lt_size x)) x
    obtain ⟨F₃, N₃⟩ := next h₃ fun b o hb x => up₃ b o (hk₂ b o hb (hk₁ b o hb x))
    have hst₃ : St (i + 1) h₃ := W.frame _ _ _ hst₂ fun b hb o e => up₃ b o e
    show wpAny _ A (do holding [v1] (assign (.Name xi pk) env v0); do holding [] (assign (.Name xc pv) env v1); pure ()) _ _ _
    refine wpAny_bind (wpAny_holding (wpAny_mono (step i v0 v1 m' news' _ (ownOf h₀ fp h₃) ⟨_, _, rfl⟩ hlt hP2 hJ ha' ownOf_sub F₃ ((news_ownOf hLf).append N₃)) (fun _ t₁ z₁ => ?_) fun _ _ e => e))
    refine wpAny_bind (wpAny_holding (wpAny_mono z₁ (fun _ t₂ z₂ => wpAny_pure ?_) fun _ _ e => e))
    refine wpAny_mono z₂ (fun f s₃ h₆ => ?_) fun _ _ e => e
    cases f with
    | ret v => exact h₆
    | brk => exact h₆
    | cont =>
      refine hideG fun G9 k9 => ?_
      obtain ⟨_, h₆', tk₆, m₂, news₂, rfl, F₆, N₆, ha₆, hJ₆⟩ := h₆
      refine k9 ?_
      clear k9 G9
      refine ⟨n + 1 - (i + 1), by omega, h₆', tk₆, m₂, news₂, i + 1, rfl, ?_, F₆, N₆.right, ha₆.trans ha', hJ₆, hlt, rfl⟩
      refine W.frame _ _ _ hst₃ fun b hb o e => ?_
      cases hn : h₀.get? b with
      | some o₀ =>
        have : o₀ = o := by have q := F₃.keep b o₀ hn; rw [e] at q; exact (Option.some.inj q).symm
        exact this ▸ F₆.keep b o₀ hn
      | none => exact (N₆ _ (List.mem_append_left _ (mem_ownOf hb hn e))).1
    | next =>
      refine hideG fun G9 k9 => ?_
      obtain ⟨_, h₆', tk₆, m₂, news₂, rfl, F₆, N₆, ha₆, hJ₆⟩ := h₆
      refine k9 ?_
      clear k9 G9
      refine ⟨n + 1 - (i + 1), by omega, h₆', tk₆, m₂, news₂, i + 1, rfl, ?_, F₆, N₆.right, ha₆.trans ha', hJ₆, hlt, rfl⟩
      refine W.frame _ _ _ hst₃ fun b hb o e => ?_
      cases hn : h₀.get? b with
      | some o₀ =>
        have : o₀ = o := by have q := F₃.keep b o₀ hn; rw [e] at q; exact (Option.some.inj q).symm
        exact this ▸ F₆.keep b o₀ hn
      | none => exact (N₆ _ (List.mem_append_left _ (mem_ownOf hb hn e))).1
  · have hin : i = n := by omega
    subst hin
    refine W.done _ _ _ hst' fun h₁ tk₁ hk₁ => wpAny_execs_nil ?_
    obtain ⟨F₁, N₁⟩ := next h₁ hk₁
    exact hR h₁ tk₁ m' news' F₁ N₁ ha' hJ
end

/-- what holds of a loop over pairs behind i of them, its letters being cells -/
noncomputable def PgS {σ : Type} (Led : σ → List (Addr × Obj)) (ps : σ → List (Str × Value)) (Facts : σ → Prop) (stored : List Str) (m₀ : Str → Option Value) (P : Nat → σ → Prop) (i : Nat) (m : Str → Option Value) (nx : List (Addr × Obj)) : Prop :=
  ∃ c : σ, nx = Led c ∧ Facts c ∧ (∀ p ∈ ps c, m p.1 = some p.2) ∧ (∀ z, (∀ p ∈ ps c, z ≠ p.1) → stored.contains z = false → m z = m₀ z) ∧ P i c

section
variable {prog : Program} {w : World} {A : Around} {E : Value → Shared → Prop} {s : Shared} {env : Env} {h₀ : Heap} {xi xc : Str} {body : List Stmt} {Q : Flow → Shared → Prop}
theorem pgs_end {σ : Type} {Led : σ → List (Addr × Obj)} {ps : σ → List (Str × Value)} {Facts : σ → Prop} {stored : List Str} {m₀ : Str → Option Value} {P : Nat → σ → Prop} {i : Nat} (c : σ) {L : Addr} {m' : Str → Option Value} {own news' : List (Addr × Obj)} {adr : List Addr} {s₁ : Shared} {h' : Heap} {tk : Nat}
    (F : Fr h₀ L h' m') (N : News h₀ L h' news') (hn : ∀ p ∈ Led c, p ∈ news') (ho : ∀ p ∈ own, p ∈ news') (ha : (Led c).map (·.1) = adr) (hf : Facts c) (hk : ∀ p ∈ ps c, m' p.1 = some p.2) (hr : ∀ z, (∀ p ∈ ps c, z ≠ p.1) → stored.contains z = false → m' z = m₀ z) (hp : P i c) :
    InvEndN h₀ L (PgS Led ps Facts stored m₀ P i) own adr s₁ { s₁ with heap := h', toks := tk } :=
  InvEndN.intro F N ⟨c, rfl, hf, hk, hr, hp⟩ ha hn ho

/-- the loop as the walk leaves it: the iterator is at hand -/
noncomputable def PairAtG (prog : Program) (w : World) (A : Around) (h₀ : Heap) (env : Env) (xi xc : Str) (pk pv : Pos) (body : List Stmt) (Q : Flow → Shared → Prop) (E : Value → Shared → Prop) (it : Value) (s₂ : Shared) : Prop :=
  ∃ (I : Addr) (fp wr : List Addr) (n : Nat) (Pt : Nat → Array Value → Prop) (St : Nat → Heap → Prop) (Mid : Nat → Addr → Heap → Prop) (P2 : Nat → Value → Value → Prop) (m : Str → Option Value) (news : List (Addr × Obj))
    (J : Nat → (Str → Option Value) → List (Addr × Obj) → Prop),
    it = .ref I ∧ WalksT prog w A I fp wr n Pt St Mid ∧ (∀ i vals, Pt i vals → ∃ v0 v1, vals = #[v0, v1] ∧ P2 i v0 v1) ∧ env.locals ∉ fp ∧ (∀ b ∈ wr, h₀.get? b = none) ∧ (∀ p ∈ news, p.1 ∉ wr) ∧ St 0 s₂.heap ∧
    Fr h₀ env.locals s₂.heap m ∧ News h₀ env.locals s₂.heap news ∧ J 0 m news ∧
    (∀ i v0 v1 m₁ news₁ s₁ own, (∃ h tk, s₁ = { s₂ with heap := h, toks := tk }) → i < n → P2 i v0 v1 → J i m₁ news₁ → news₁.map (·.1) = news.map (·.1) → (∀ p ∈ own, p.1 ∈ fp) →
      Fr h₀ env.locals s₁.heap m₁ → News h₀ env.locals s₁.heap (own ++ news₁) →
      wpAny (model prog w) A (assign (.Name xi pk) env v0) (fun _ t₁ => wpAny (model prog w) A (assign (.Name xc pv) env v1) (fun _ t₂ => wpAny (model prog w) A (execs body env) (LoopStep3 h₀ env.locals own news₁ (J (i + 1)) s₁ (fun v s' => Q (.ret v) s') fun s' => Q .next s') E t₂) E t₁) E s₁) ∧
    (∀ h' tk m' news', Fr h₀ env.locals h' m' → News h₀ env.locals h' news' → news'.map (·.1) = news.map (·.1) → J n m' news' → Q .next { s₂ with heap := h', toks := tk })

theorem For_pairG {pk pv pt pos : Pos} {x1 : Nat} {iter : PySem.Expr} (h₀ : Heap) (hh : A.handled = none)
    (h : wpAny (model prog w) A (eval iter env) (fun xv s₁ => wpAny (model prog w) A (pyIter xv) (fun it s₂ => PairAtG prog w A h₀ env xi xc pk pv body Q E it s₂) E s₁) E s)
    (hs : ∀ x, foldedSetIterable iter env x = pure x)
    (hE : PassesOwn (model prog w) A env E := by passes_own) :
    wpAny (model prog w) A (exec (.For (.Tuple [.Name xi pk, .Name xc pv] x1 pt) iter body [] pos) env) Q E s := by
  refine wpAny_For (wpAny_mono h (fun xv s₁ h₁ => wpAny_mono h₁ (fun it s₂ h₂ => ?_) fun _ _ e => e) fun _ _ e => e) hs
  refine hideG fun G9 k9 => ?_
  obtain ⟨I, fp, wr, n, Pt, St, Mid, P2, m, news, J, rfl, W, h2, hLf, hwr, hnw, hst, F, N, h0, step, hQ⟩ := h₂
  refine k9 ?_
  clear k9 G9
  exact codeAny_forLoop_frG (R := fun r s' => match r with | .ok f => Q f s' | .error e => cameBackBy (model prog w) A env E e s') hh W h2 hLf hwr hnw hst F N J h0
    (by intros; exact wpAny_passesOwn hE (wpAny_mono (by apply step <;> assumption) (fun _ _ z => wpAny_passesOwn hE (wpAny_mono z (fun _ _ z' => wpAny_passesOwn hE z') fun _ _ e => e)) fun _ _ e => e)) hQ

theorem pg_eq {ps : List (Str × Value)} {stored : List Str} {m₀ m₁ : Str → Option Value} (h1 : ∀ p ∈ ps, m₁ p.1 = some p.2) (h2 : ∀ z, (∀ p ∈ ps, z ≠ p.1) → stored.contains z = false → m₁ z = m₀ z) : kstB (fun z => if stored.contains z then m₁ z else m₀ z) ps = m₁ := by
  funext y
  refine kstB_eq h1 fun hn => ?_
  show (if stored.contains y = true then m₁ y else m₀ y) = m₁ y
  cases h3 : stored.contains y with
  | true => simp
  | false => simp only [Bool.false_eq_true, if_false]; exact (h2 y hn h3).symm

theorem pairs_loopG {σ : Type} {pk pv : Pos} {I : Addr} {n : Nat} {P2 : Nat → Value → Value → Prop} {base : Nat} {srcs : List Addr} {m₀ : Str → Option Value} (PI : PairIt prog w A I n P2 s.heap base srcs) (Led : σ → List (Addr × Obj)) (ps : σ → List (Str × Value)) (Facts : σ → Prop) (stored : List Str) (P : Nat → σ → Prop) (c₀ : σ)
    (hsrc : ∀ b ∈ srcs, ∃ o, h₀.get? b = some o) (hL : @LT.lt Nat _ env.locals base) (hb₀ : @LE.le Nat _ h₀.objs.size base) (F : Fr h₀ env.locals s.heap m₀) (N : News h₀ env.locals s.heap (Led c₀)) (hnb : ∀ p ∈ Led c₀, @LT.lt Nat _ p.1 base) (hf : Facts c₀) (hk : ∀ p ∈ ps c₀, m₀ p.1 = some p.2) (hp : P 0 c₀)
    (turn : ∀ (c : σ) i v0 v1 (u : Str → Option Value) h tk own, i < n → P2 i v0 v1 → OwnOff own ((Led c₀).map (·.1)) → Facts c → P i c →
      Fr h₀ env.locals h (kstB (fun z => if stored.contains z then u z else m₀ z) (ps c)) → News h₀ env.locals h (Led c ++ own) →
      wpAny (model prog w) A (assign (.Name xi pk) env v0) (fun _ t₁ => wpAny (model prog w) A (assign (.Name xc pv) env v1) (fun _ t₂ => wpAny (model prog w) A (execs body env) (InvPostN h₀ env.locals (PgS Led ps Facts stored m₀ P (i + 1)) own ((Led c₀).map (·.1)) { s with heap := h, toks := tk } Q) E t₂) E t₁) E { s with heap := h, toks := tk })
    (done : ∀ (c : σ) (u : Str → Option Value) h tk, Facts c → P n c → Fr h₀ env.locals h (kstB (fun z => if stored.contains z then u z else m₀ z) (ps c)) → News h₀ env.locals h (Led c) → Q .next { s with heap := h, toks := tk }) :
    wpAny (model prog w) A (pyIter (.ref I)) (fun it s₂ => PairAtG prog w A h₀ env xi xc pk pv body Q E it s₂) E s := by
  refine hideG fun G9 k9 => ?_
  obtain ⟨fp, wr, Pt, St, Mid, W, h2, hst, hwr, hfp⟩ := PI
  refine k9 ?_
  clear k9 G9
  refine W.self 0 _ _ _ hst ?_
  have srclt : ∀ b ∈ srcs, @LT.lt Nat _ b h₀.objs.size := fun b hb => by obtain ⟨o, e⟩ := hsrc b hb; exact Heap.lt_size e
  have hab : @LE.le Nat _ h₀.objs.size env.locals := F.above
  refine ⟨I, fp, wr, n, Pt, St, Mid, P2, m₀, Led c₀, fun i m nx => nx.map (·.1) = (Led c₀).map (·.1) ∧ PgS Led ps Facts stored m₀ P i m nx, rfl, W, h2, ?_, ?_, ?_, hst, F, N, ⟨rfl, c₀, rfl, hf, hk, fun _ _ _ => rfl, hp⟩, ?_, ?_⟩
  · intro hm
    rcases (hfp _ hm).2 with h | h
    · exact Nat.lt_irrefl _ (Nat.lt_of_lt_of_le hL h)
    · exact Nat.lt_irrefl _ (Nat.lt_of_lt_of_le (srclt _ h) hab)
  · intro b hb
    exact Heap.get?_none_of_le (Nat.le_trans hb₀ (hwr b hb))
  · intro p hp hm
    exact Nat.lt_irrefl _ (Nat.lt_of_lt_of_le (hnb p hp) (hwr _ hm))
  · rintro i v0 v1 m₁ news₁ s₁ own ⟨hh', tk', rfl⟩ hin hP2 ⟨hadr, c, rfl, hf', h1, h2', hp'⟩ ha' hown F₁ N₁
    have hoff : OwnOff own ((Led c₀).map (·.1)) := by
      intro p hp b hb e
      obtain ⟨q, hq, rfl⟩ := List.mem_map.mp hb
      rcases (hfp _ (hown p hp)).2 with h | h
      · exact Nat.lt_irrefl _ (Nat.lt_of_lt_of_le (hnb q hq) (e ▸ h))
      · obtain ⟨o, eo⟩ := hsrc _ h
        have := (N₁ p (List.mem_append_left _ hp)).2.2
        rw [eo] at this; cases this
    have N₂ : News h₀ env.locals hh' (Led c ++ own) := fun p hp => N₁ p ((List.mem_append.mp hp).elim (fun h => List.mem_append_right _ h) fun h => List.mem_append_left _ h)
    refine wpAny_mono (turn c i v0 v1 m₁ hh' tk' own hin hP2 hoff hf' hp' (by rw [pg_eq h1 h2']; exact F₁) N₂) (fun _ t₁ z₁ => wpAny_mono z₁ (fun _ t₂ z₂ => wpAny_mono z₂ (fun f s₂ p => ?_) fun _ _ e => e) fun _ _ e => e) fun _ _ e => e
    have fin : InvEndN h₀ env.locals (PgS Led ps Facts stored m₀ P (i + 1)) own ((Led c₀).map (·.1)) { s with heap := hh', toks := tk' } s₂ →
        LoopStep2 h₀ env.locals own (Led c) (fun m nx => nx.map (·.1) = (Led c₀).map (·.1) ∧ PgS Led ps Facts stored m₀ P (i + 1) m nx) { s with heap := hh', toks := tk' } .next s₂ := by
      rintro ⟨h', tk, m', news', nx, e, F', N', hn, ho, ha, hS⟩
      refine ⟨rfl, h', tk, m', nx, e, F', fun p hp => N' p ((List.mem_append.mp hp).elim (ho p) (hn p)), ha.trans hadr.symm, ha, hS⟩
    cases f with
    | ret v => exact p
    | brk => exact p
    | next => exact fin p
    | cont => exact fin p
  · rintro h' tk m' news' F' N' ha' ⟨_, c, rfl, hf', h1, h2', hp'⟩
    exact done c m' h' tk hf' hp' (by rw [pg_eq h1 h2']; exact F') N'
end

section
variable {prog : Program} {w : World} {A : Around} {E : Value → Shared → Prop} {s : Shared} {h₀ : Heap} {L : Addr} {m : Str → Option Value} {env : Env}
theorem pairs_compA {elt iter c : PySem.Expr} {a b y : Str} {pa pb tp py : Pos} {kk : Nat} {scope : Scope} {cl : List (Str × Addr)} {pos spos : Pos} {Q : Flow → Shared → Prop} (_F₀ : Fr h₀ L s.heap m) (hLe : env.locals = L)
    (hsw : swapsWith (.ListComp elt [⟨.Tuple [.Name a pa, .Name b pb] kk tp, iter, [c], 0⟩] scope pos) (some (.Name y py)) spos.line env = pure true)
    (hclos : closureFor scope env = pure cl) (hcell : ∀ y ∈ scope.names, y.2 ≠ .cell) (hkind : scope.kind = .function)
    (hnames : ∀ y ∈ scope.names, y.2 = .local → scope.names.lookup y.1 = some .local) (hxa : scope.names.lookup a = some .local) (hxb : scope.names.lookup b = some .local) (hab : ¬ a = b)
    (hy : env.kindOf y = some .local) (hp : (env.scope.kind == .class || (env.scope.kind == .module && env.locals != env.globals)) = false)
    (h : wpAny (model prog w) A (eval iter env) (PcSrc prog w A h₀ L m env c elt a b scope cl (fun s₂ => LCg.FinA h₀ L m s₂ y Q)) E s)
    (hs : ∀ x, foldedSetIterable iter env x = pure x := by intro _; rfl) :
    wpAny (model prog w) A (exec (.Assign [.Name y py] (.ListComp elt [⟨.Tuple [.Name a pa, .Name b pb] kk tp, iter, [c], 0⟩] scope pos) spos) env) Q E s := by
  subst hLe
  rw [exec_Assign_Name_used _ _ _ _ hsw]
  refine wpAny_bind (wpAny_standAt (wpAny_bind ?_))
  show wpAny _ A (do let _ ← comprehension (.ListComp elt [⟨.Tuple [.Name a pa, .Name b pb] kk tp, iter, [c], 0⟩] scope pos) scope env _ (newList []) false (eval iter env) (some (assign (.Name y py) env))) _ _ s
  refine wpAny_bind (wpAny_mono (wpAny_comprehension_free (use := some (assign (.Name y py) env)) (Q := fun _ s' => Q .next s') rfl hs hclos hkind hnames
    (wpAny_mono h (fun xv s₁ h₁ => ?_) fun _ _ e => e)) (fun _ s' hq => wpAny_pure (wpAny_pure hq)) fun _ _ e => e)
  refine hideG fun G9 k9 => ?_
  obtain ⟨I, n, P2, base, srcs, news, J, rfl, hh, PI, hsz, F, N, hL, hb₀, hnb, hsL, j0, turn, fin⟩ := h₁
  refine k9 ?_
  clear k9 G9
  have PI' := PI
  refine hideG fun G9 k9 => ?_
  obtain ⟨fp, wr, Pt, St, Mid, W, h2, hst, hwr, hfp⟩ := PI
  refine k9 ?_
  clear k9 G9
  refine W.self 0 _ _ _ hst ?_
  refine pairs_block hh PI' hsz hcell hkind hxa hxb hab F N hL hb₀ hnb hsL J j0 turn ?_
  intro D C h' tk m' ys F' N' o1 hn hC₀ hD₀ hCL hDL hCD offC hj
  show wpAny _ A (assign (.Name y py) env (.ref D)) _ _ _
  refine wpAny_assign_Name (wpAny_storeName_local hy F'.ns (fun h₂ hn₂ hs₂ => ?_) hp)
  have hL₀ : h₀.get? env.locals = none := Heap.get?_none_of_le F'.above
  have F₂ : Fr h₀ env.locals h₂ (fun z => if z = y then some (.ref D) else m z) := ⟨hn₂, fun b o e => hs₂.extBut b o (fun q => by rw [q, hL₀] at e; cases e) (F'.keep b o e), F'.above⟩
  refine ⟨m', hn.sameBut hs₂ hCL, fun h'' hs'' => fin ys hj D h'' _ (F₂.change hs'' hCL hC₀) (fun p hp => ?_) o1⟩
  have z : h₂.get? p.1 = some p.2 := hs₂.extBut _ _ (N' p hp).2.1 (N' p hp).1
  refine ⟨hs''.extBut _ _ ?_ z, (N' p hp).2⟩
  rcases List.mem_cons.mp hp with rfl | hp
  · exact Ne.symm hCD
  · exact offC p hp
end

local macro_rules | `(tactic| walk_at "exec Assign cons ListComp") => `(tactic| (k_here; (with_reducible show wpAny _ _ (exec (Stmt.Assign _ (Expr.ListComp _ [PySem.Comprehension.mk (Expr.Tuple _ _ _) _ _ _] _ _) _) _) _ _ _); k_dflt (refine' pairs_compA ?k1 ?ke ?ks ?k2 ?k3 ?k4 ?k5 ?k6 ?k7 ?k8 ?ky ?kp ?_ ?k9; (case k1 => k_asm); (case ke => rfl); (case ks => with_unfolding_all rfl); (case k2 => with_unfolding_all rfl); (case k3 => decide); (case k4 => exact rfl); (case k5 => decide); (case k6 => exact rfl); (case k7 => exact rfl); (case k8 => decide); (case ky => exact rfl); (case kp => exact rfl); (case k9 => exact fun _ => rfl))))
section
local macro_rules | `(tactic| walk_at "execs cons") => `(tactic| first | (k_here; k_gentoks) | (k_here; k_made; walk_at "execs cons") | ((with_reducible refine wpAny_execs_cons ?_); (try dsimp only); (try ((try change wpAny _ _ _ _ _ _); k_fold))))
theorem fresh_Clack : True := by
  k_with_none
  w_top off
  trivial
/-- an object of class Shares: its parts -/
structure SD where
  (x dx lc lu ls : Addr)
  (g1 g2 g3 g4 g5 : Int)
  (k1 k2 k3 k4 k5 t2 t3 : Tok)
  (n nc nu : Nat)
  (vc vu : List Value)
  (cs us : List Int)
  (size total : Int)
noncomputable abbrev SD.inst (S : SD) : Addr × Obj := (S.x, instObj 309 S.dx)
noncomputable abbrev SD.dict (S : SD) : Addr × Obj := (S.dx, dictOf [⟨S.g1, .str (Str.ofString "counts") S.k1, .ref S.lc⟩, ⟨S.g2, .str (Str.ofString "size") S.k2, .int S.size S.t2⟩, ⟨S.g3, .str (Str.ofString "total") S.k3, .int S.total S.t3⟩, ⟨S.g4, .str (Str.ofString "used") S.k4, .ref S.lu⟩, ⟨S.g5, .str (Str.ofString "shares") S.k5, .ref S.ls⟩] S.n)
noncomputable abbrev SD.counts (S : SD) : Addr × Obj := (S.lc, listOf S.vc.toArray S.nc)
noncomputable abbrev SD.used (S : SD) : Addr × Obj := (S.lu, listOf S.vu.toArray S.nu)
noncomputable abbrev SD.shares (S : SD) (vs : List Value) (e : Nat) : Addr × Obj := (S.ls, listOf vs.toArray e)
/-- what holds of it throughout -/
structure SD.Ok (S : SD) : Prop where
  ic : IntsAre S.vc S.cs
  iu : IntsAre S.vu S.us
  hus : ∀ u ∈ S.us, 0 ≤ u ∧ u < S.cs.length
  len : S.cs.length < 1000
  s0 : 0 ≤ S.size
  s1 : S.size ≤ 1000
  t0 : 0 ≤ S.total
  t1 : S.total ≤ 10000000
  ne : S.us ≠ []

noncomputable def lackV (cs sh : List Int) (size total i : Int) : Int := cs.getD i.toNat 0 * size - sh.getD i.toNat 0 * total

theorem lack_call {w : World} {S : SD} {vs : List Value} {e : Nat} {sh : List Int} {i : Int} {ti : Tok} (ok : S.Ok) (hs : IntsAre vs sh) (hl : sh.length = S.cs.length) (hi : 0 ≤ i ∧ i < S.cs.length) :
    Call w 278 [.ref S.x, .int i ti] 1 8 [S.inst, S.dict, S.counts, S.shares vs e] [] (P0 fun r ex => ex = [] ∧ ∃ t, r = .int (lackV S.cs sh S.size S.total i) t) := by
  k_with_none
  unfold Call
  k_fill
  intro dp un gd cn sc a ccd cl outer A₀ base h₀ L m
  refine ps5 ?_
  intro sH0 sG0 sD0 sT0 sO0 loose mean mg mb Q B F X N T hk hrd hd1 hu hret
  (try dsimp only at F)
  (try dsimp only at N)
  (try dsimp only at hrd)
  (try dsimp only at hret)
  k_dflt (refine' enterR ?k1 ?k2 ?k3 ?k4 ?k5 ?kA ?kF ?kK ?k6 ?k7 ?k8 ?k9 ?kB ?_ ?c2 ?c3 ?c4 ?c5; (case kA => exact rfl); (case kF => exact rfl); (case kK => assumption); (case k1 => k_asm); (case k2 => k_asm); (case k3 => k_asm); (case k4 => k_asm); (case k5 => k_asm); (case k6 => k_is); (case k7 => k_is); (case k8 => ktr_room); (case k9 => first | exact BindsTo.of_eq rfl | exact binds_K (by k_in) rfl (by k_is) rfl rfl rfl); (case c5 => decide); (case kB => exact locs rfl); (case c2 => exact rfl); (case c3 => exact rfl); (case c4 => exact rfl); k_whole)
  intro g L1 h1 FG F1 N1 B1 X1 T1 keep hlt
  (try dsimp only)
  (try ((try change wpAny _ _ _ _ _ _); k_fold))
  have R : ∀ x ∈ [S.inst, S.dict, S.counts, S.shares vs e], g.get? x.1 = some x.2 := fun x hx => keep _ _ (hrd x hx).2 (hrd x hx).1
  simp only [List.forall_mem_cons, SD.inst, SD.dict, SD.counts, SD.shares] at R
  obtain ⟨r1, r2, r3, r4, -⟩ := R
  have I1 : InstAt g S.x (instObj 309 S.dx) 309 (some S.dict.2) := ⟨r1, rfl, rfl, r2⟩
  have L2 : g.IsList S.lc S.vc.toArray := ⟨_, r3, rfl, _, rfl⟩
  have L3 : g.IsList S.ls vs.toArray := ⟨_, r4, rfl, _, rfl⟩
  have hc := ok.ic
  have z1 := ok.s0; have z2 := ok.s1; have z3 := ok.t0; have z4 := ok.t1; have z5 := ok.len
  obtain ⟨z6, z7⟩ := hi
  clear r1 r2 r3 r4 hrd hlt
  k_steps
  exact fin (muts' := []) (ex := []) hret keep (by assumption) (by assumption) (by assumption) (by assumption) (fun _ h => nomatch h) (fun _ h => nomatch h) (fun _ h => nomatch h) ⟨rfl, rfl, _, rfl⟩

noncomputable def mostStep (L : Int → Int) (f s : Int) : Int := if L s > L f then s else f
noncomputable def mostV (L : Int → Int) (us : List Int) : Int := us.foldl (mostStep L) (us.getD 0 0)

theorem getD_mem {l : List Int} {i : Nat} {d : Int} (h : i < l.length) : l.getD i d ∈ l := by
  have : l.getD i d = l[i] := by simp [List.getD, h]
  rw [this]; exact List.getElem_mem _
theorem most_yes {L : Int → Int} {us pre : List Int} {u f n : Int} (e : f = pre.foldl (mostStep L) u) (hn : n ∈ us) (h : L f < L n) : n = (pre ++ [n]).foldl (mostStep L) u ∧ n ∈ us := by
  refine ⟨?_, hn⟩
  rw [List.foldl_append, ← e]
  simp [mostStep, h]
theorem most_no {L : Int → Int} {us pre : List Int} {u f n : Int} (e : f = pre.foldl (mostStep L) u) (hf : f ∈ us) (h : ¬ L f < L n) : f = (pre ++ [n]).foldl (mostStep L) u ∧ f ∈ us := by
  refine ⟨?_, hf⟩
  rw [List.foldl_append, ← e]
  simp [mostStep, h]

theorem mostV_mem {L : Int → Int} {us : List Int} (h : us ≠ []) : mostV L us ∈ us := by
  have key : ∀ (l : List Int) (f : Int), f ∈ us → (∀ x ∈ l, x ∈ us) → l.foldl (mostStep L) f ∈ us := by
    intro l
    induction l with
    | nil => intro f hf _; exact hf
    | cons x r ih =>
      intro f hf hl
      refine ih _ ?_ fun y hy => hl y (.tail _ hy)
      unfold mostStep
      split
      · exact hl x (.head _)
      · exact hf
  exact key us _ (getD_mem (List.length_pos_iff.mpr h)) fun _ h => h

theorem most_call {w : World} {S : SD} {vs : List Value} {e : Nat} {sh : List Int} (ok : S.Ok) (hs : IntsAre vs sh) (hl : sh.length = S.cs.length) :
    Call w 285 [.ref S.x] 2 16 [S.inst, S.dict, S.counts, S.used, S.shares vs e] [] (P0 fun r ex => ex = [] ∧ ∃ t, r = .int (mostV (lackV S.cs sh S.size S.total) S.us) t) := by
  k_with_none
  k_with "call ref" => ((k_here; (with_reducible show wpAny _ _ (call (Value.ref 278) _) _ _ _); k_dflt (refine' use0 (lack_call ?q1 ?q2 ?q3 ?q4) ?k1 ?k2 ?k3 ?k4 ?k6 ?kK ?kr ?kd ?ku ?_; (case k1 => k_asm); (case k2 => k_asm); (case k3 => k_asm); (case k4 => k_asm); (case k6 => k_asm); (case kK => first | exact rfl | assumption); (case kr => tb_rel); (case q1 => assumption); (case q2 => assumption); (case q3 => assumption); (case q4 => first | assumption | (refine SD.Ok.hus ?_ _ ?_ <;> assumption)); (case kd => ktr_room); (case ku => ktr_units); k_whole; refine rA ?_; intro t9 h9 tk9 _ F9 N9; (dsimp only [List.nil_append] at N9); (try k_sweep))))
  unfold Call
  k_fill
  intro dp un gd cn sc a ccd cl outer A₀ base h₀ L m
  refine ps5 ?_
  intro sH0 sG0 sD0 sT0 sO0 loose mean mg mb Q B F X N T hk hrd hd1 hu hret
  (try dsimp only at F)
  (try dsimp only at N)
  (try dsimp only at hrd)
  (try dsimp only at hret)
  k_dflt (refine' enterR ?k1 ?k2 ?k3 ?k4 ?k5 ?kA ?kF ?kK ?k6 ?k7 ?k8 ?k9 ?kB ?_ ?c2 ?c3 ?c4 ?c5; (case kA => exact rfl); (case kF => exact rfl); (case kK => assumption); (case k1 => k_asm); (case k2 => k_asm); (case k3 => k_asm); (case k4 => k_asm); (case k5 => k_asm); (case k6 => k_is); (case k7 => k_is); (case k8 => ktr_room); (case k9 => first | exact BindsTo.of_eq rfl | exact binds_K (by k_in) rfl (by k_is) rfl rfl rfl); (case c5 => decide); (case kB => exact locs rfl); (case c2 => exact rfl); (case c3 => exact rfl); (case c4 => exact rfl); k_whole)
  intro g L1 h1 FG F1 N1 B1 X1 T1 keep hlt
  (try dsimp only)
  (try ((try change wpAny _ _ _ _ _ _); k_fold))
  have R : ∀ x ∈ [S.inst, S.dict, S.counts, S.used, S.shares vs e], g.get? x.1 = some x.2 := fun x hx => keep _ _ (hrd x hx).2 (hrd x hx).1
  have r1 := R _ (.head _)
  try dsimp only at r1
  have r2 := R _ (.tail _ (.head _))
  try dsimp only at r2
  have r3 := R _ (.tail _ (.tail _ (.head _)))
  try dsimp only at r3
  have r5 := R _ (.tail _ (.tail _ (.tail _ (.head _))))
  try dsimp only at r5
  have r4 := R _ (.tail _ (.tail _ (.tail _ (.tail _ (.head _)))))
  try dsimp only at r4
  clear R
  have I1 : InstAt g S.x (instObj 309 S.dx) 309 (some S.dict.2) := ⟨r1, rfl, rfl, r2⟩
  have L1 : g.IsList S.lu S.vu.toArray := ⟨_, r5, rfl, _, rfl⟩
  have hu9 := ok.iu
  have hpos : 0 < S.us.length := List.length_pos_iff.mpr ok.ne
  have hm0 : S.us.getD 0 0 ∈ S.us := getD_mem hpos
  clear hrd hlt
  k_with "pyIter ref" => k_state (fun pre f => f = pre.foldl (mostStep (lackV S.cs sh S.size S.total)) (S.us.getD 0 0) ∧ f ∈ S.us) "found"
  k_with "state" => first | exact ⟨rfl, hm0⟩ | exact most_yes (by assumption) (by assumption) (by omega) | exact most_no (by assumption) (by assumption) (by omega)
  k_steps
  exact fin (muts' := []) (ex := []) hret keep (by assumption) (by assumption) (by assumption) (by assumption) (fun _ h => nomatch h) (fun _ h => nomatch h) (fun _ h => nomatch h) ⟨rfl, rfl, _, congrArg (fun z => Value.int z _) (by assumption)⟩

theorem fresh_Cleast : True := by
  k_with_none
  w_top off
  trivial
noncomputable def optV (c : Option Int × Tok) : Value := match c.1 with
  | none => .none
  | some i => .int i c.2
noncomputable def leastStep (L W : Int → Int) (f : Option Int) (s : Int) : Option Int := match f with
  | none => if W s > 1 then some s else none
  | some g => if W s > 1 ∧ L s < L g then some s else some g
noncomputable def leastV (L W : Int → Int) (us : List Int) : Option Int := us.foldl (leastStep L W) none

theorem least_end {L W : Int → Int} {pre : List Int} {c c' : Option Int} {s : Int} (e : c = pre.foldl (leastStep L W) none) (h : leastStep L W c s = c') : c' = (pre ++ [s]).foldl (leastStep L W) none := by
  rw [List.foldl_append, ← e]; exact h.symm

theorem least_call {w : World} {S : SD} {vs : List Value} {e : Nat} {sh : List Int} (ok : S.Ok) (hs : IntsAre vs sh) (hl : sh.length = S.cs.length) :
    Call w 292 [.ref S.x] 2 16 [S.inst, S.dict, S.counts, S.used, S.shares vs e] [] (P0 fun r ex => ex = [] ∧ ∃ t, r = optV (leastV (lackV S.cs sh S.size S.total) (fun u => sh.getD u.toNat 0) S.us, t)) := by
  k_with_none
  k_with "call ref" => ((k_here; (with_reducible show wpAny _ _ (call (Value.ref 278) _) _ _ _); k_dflt (refine' use0 (lack_call ?q1 ?q2 ?q3 ?q4) ?k1 ?k2 ?k3 ?k4 ?k6 ?kK ?kr ?kd ?ku ?_; (case k1 => k_asm); (case k2 => k_asm); (case k3 => k_asm); (case k4 => k_asm); (case k6 => k_asm); (case kK => first | exact rfl | assumption); (case kr => tb_rel); (case q1 => assumption); (case q2 => assumption); (case q3 => assumption); (case q4 => first | assumption | (refine SD.Ok.hus ?_ _ ?_ <;> assumption)); (case kd => ktr_room); (case ku => ktr_units); k_whole; refine rA ?_; intro t9 h9 tk9 _ F9 N9; (dsimp only [List.nil_append] at N9); (try k_sweep))))
  unfold Call
  k_fill
  intro dp un gd cn sc a ccd cl outer A₀ base h₀ L m
  refine ps5 ?_
  intro sH0 sG0 sD0 sT0 sO0 loose mean mg mb Q B F X N T hk hrd hd1 hu hret
  (try dsimp only at F)
  (try dsimp only at N)
  (try dsimp only at hrd)
  (try dsimp only at hret)
  k_dflt (refine' enterR ?k1 ?k2 ?k3 ?k4 ?k5 ?kA ?kF ?kK ?k6 ?k7 ?k8 ?k9 ?kB ?_ ?c2 ?c3 ?c4 ?c5; (case kA => exact rfl); (case kF => exact rfl); (case kK => assumption); (case k1 => k_asm); (case k2 => k_asm); (case k3 => k_asm); (case k4 => k_asm); (case k5 => k_asm); (case k6 => k_is); (case k7 => k_is); (case k8 => ktr_room); (case k9 => first | exact BindsTo.of_eq rfl | exact binds_K (by k_in) rfl (by k_is) rfl rfl rfl); (case c5 => decide); (case kB => exact locs rfl); (case c2 => exact rfl); (case c3 => exact rfl); (case c4 => exact rfl); k_whole)
  intro g L1 h1 FG F1 N1 B1 X1 T1 keep hlt
  (try dsimp only)
  (try ((try change wpAny _ _ _ _ _ _); k_fold))
  have R : ∀ x ∈ [S.inst, S.dict, S.counts, S.used, S.shares vs e], g.get? x.1 = some x.2 := fun x hx => keep _ _ (hrd x hx).2 (hrd x hx).1
  have r1 := R _ (.head _)
  try dsimp only at r1
  have r2 := R _ (.tail _ (.head _))
  try dsimp only at r2
  have r3 := R _ (.tail _ (.tail _ (.head _)))
  try dsimp only at r3
  have r5 := R _ (.tail _ (.tail _ (.tail _ (.head _))))
  try dsimp only at r5
  have r4 := R _ (.tail _ (.tail _ (.tail _ (.tail _ (.head _)))))
  try dsimp only at r4
  clear R
  have I1 : InstAt g S.x (instObj 309 S.dx) 309 (some S.dict.2) := ⟨r1, rfl, rfl, r2⟩
  have L1 : g.IsList S.lu S.vu.toArray := ⟨_, r5, rfl, _, rfl⟩
  have L3 : g.IsList S.ls vs.toArray := ⟨_, r4, rfl, _, rfl⟩
  have hu9 := ok.iu
  have hlen := ok.len
  clear hrd hlt
  k_steps
  (rename Fr _ _ _ _ => lF')
  (rename News _ _ _ _ => lN')
  with_unfolding_all refine' kst_list (σ := Option Int × Tok) (fun _ => []) (fun c => [(Str.ofString "found", optV c)]) (fun _ => True) [] (fun pre c => c.1 = pre.foldl (leastStep (lackV S.cs sh S.size S.total) (fun u => sh.getD u.toNat 0)) none ∧ ∀ f, c.1 = some f → f ∈ S.us) (none, 0) (by rfl) L1 hu9 lF' lN' trivial ?kk ⟨rfl, fun f h => nomatch h⟩ ?turn ?done
  case kk => kst_all
  case' turn =>
    intro c pre post sy t u h tk own heq hmem hoff hfc hP kFr kNews
    obtain ⟨f, tf⟩ := c
    obtain ⟨hP1, hP2⟩ := hP
    have hsy := ok.hus _ hmem
    clear lF' lN'
    rcases f with _ | f
    all_goals dsimp only [kstB, optV] at kFr
    all_goals (try (have hf9 := hP2 _ rfl))
  case' done =>
    intro c u h tk hfc hP kFr kNews
    obtain ⟨f, tf⟩ := c
    dsimp only [kstB] at kFr
    clear lF' lN'
  all_goals (try ((try change wpAny _ _ _ _ _ _); k_fold))
  k_steps
  all_goals first
    | exact fin (muts' := []) (ex := []) hret keep (by assumption) (by assumption) (by assumption) (by assumption) (fun _ h => nomatch h) (fun _ h => nomatch h) (fun _ h => nomatch h) ⟨rfl, rfl, _, congrArg (fun z => optV (z, _)) hP.1⟩
    | exact kst_end (some sy, t) (by assumption) (by assumption) (fun _ h => nomatch h) (fun p hp => hp) rfl trivial (by kst_all) (by kst_same) ⟨least_end hP1 (if_pos (by dsimp only; omega)), fun f h => by cases h; exact hmem⟩
    | exact kst_end (none, tf) (by assumption) (by assumption) (fun _ h => nomatch h) (fun p hp => hp) rfl trivial (by kst_all) (by kst_same) ⟨least_end hP1 (if_neg (by dsimp only; omega)), fun f h => nomatch h⟩
    | exact kst_end (some f, tf) (by assumption) (by assumption) (fun _ h => nomatch h) (fun p hp => hp) rfl trivial (by kst_all) (by kst_same) ⟨least_end hP1 (if_neg (by dsimp only; omega)), fun f h => by cases h; assumption⟩
theorem least_call' {w : World} {S : SD} {vs : List Value} {e : Nat} {sh : List Int} {k : Int} (ok : S.Ok) (hs : IntsAre vs sh) (hl : sh.length = S.cs.length) (hk : leastV (lackV S.cs sh S.size S.total) (fun u => sh.getD u.toNat 0) S.us = some k) :
    Call w 292 [.ref S.x] 2 16 [S.inst, S.dict, S.counts, S.used, S.shares vs e] [] (P0 fun r ex => ex = [] ∧ ∃ t, r = .int k t) :=
  callMono (least_call ok hs hl) fun r mu ex ⟨h1, h2, t, h3⟩ => ⟨h1, h2, t, by rw [h3, hk]; rfl⟩

theorem fresh_Cmend : True := by
  k_with_none
  w_top off
  trivial
section
variable (cs us : List Int) (size total : Int)
noncomputable def upStep (sh : List Int) : List Int := sh.set (mostV (lackV cs sh size total) us).toNat (sh.getD (mostV (lackV cs sh size total) us).toNat 0 + 1)
noncomputable def upV : Nat → List Int → List Int
  | 0, sh => sh
  | k + 1, sh => upV k (upStep cs us size total sh)
noncomputable def leastAt (sh : List Int) : Option Int := leastV (lackV cs sh size total) (fun u => sh.getD u.toNat 0) us
noncomputable def downStep (sh : List Int) (i : Int) : List Int := sh.set i.toNat (sh.getD i.toNat 0 - 1)
noncomputable def downV : Nat → List Int → List Int
  | 0, sh => sh
  | k + 1, sh => downV k (downStep sh ((leastAt cs us size total sh).getD 0))
noncomputable def downOk : Nat → List Int → Prop
  | 0, _ => True
  | k + 1, sh => ∃ i, leastAt cs us size total sh = some i ∧ i ∈ us ∧ downOk k (downStep sh i)
noncomputable def mendV (sh : List Int) : List Int := downV cs us size total (sh.sum - size).toNat (upV cs us size total (size - sh.sum).toNat sh)
end

theorem mend_call {w : World} {S : SD} {vs : List Value} {e : Nat} {sh : List Int} (ok : S.Ok) (hs : IntsAre vs sh) (hl : sh.length = S.cs.length) (hdn : downOk S.cs S.us S.size S.total (sh.sum - S.size).toNat sh) :
    Call w 299 [.ref S.x] 3 24 [S.inst, S.dict, S.counts, S.used] [S.shares vs e] (P1 S.ls fun r o' ex => ex = [] ∧ r = .none ∧ ∃ vs' e', o' = listOf vs'.toArray e' ∧ IntsAre vs' (mendV S.cs S.us S.size S.total sh)) := by
  k_with_none
  k_with "call ref" => ((k_here; (with_reducible show wpAny _ _ (call (Value.ref 278) _) _ _ _); k_dflt (refine' use0 (lack_call ?q1 ?q2 ?q3 ?q4) ?k1 ?k2 ?k3 ?k4 ?k6 ?kK ?kr ?kd ?ku ?_; (case k1 => k_asm); (case k2 => k_asm); (case k3 => k_asm); (case k4 => k_asm); (case k6 => k_asm); (case kK => first | exact rfl | assumption); (case kr => tb_rel); (case q1 => assumption); (case q2 => assumption); (case q3 => assumption); (case q4 => first | assumption | (refine SD.Ok.hus ?_ _ ?_ <;> assumption)); (case kd => ktr_room); (case ku => ktr_units); k_whole; refine rA ?_; intro t9 h9 tk9 _ F9 N9; (dsimp only [List.nil_append] at N9); (try k_sweep))))
  k_with "call ref" => ((k_here; (with_reducible show wpAny _ _ (call (Value.ref 285) _) _ _ _); k_dflt (refine' use0 (most_call ?q1 ?q2 ?q3) ?k1 ?k2 ?k3 ?k4 ?k6 ?kK ?kr ?kd ?ku ?_; (case k1 => k_asm); (case k2 => k_asm); (case k3 => k_asm); (case k4 => k_asm); (case k6 => k_asm); (case kK => first | exact rfl | assumption); (case kr => tb_rel); (case q1 => assumption); (case q2 => assumption); (case q3 => assumption); (case kd => ktr_room); (case ku => ktr_units); k_whole; refine rA ?_; intro t9 h9 tk9 _ F9 N9; (dsimp only [List.nil_append] at N9); (try k_sweep))))
  k_with "call ref" => ((k_here; (with_reducible show wpAny _ _ (call (Value.ref 292) _) _ _ _); k_dflt (refine' use0 (least_call' ?q1 ?q2 ?q3 ?q4) ?k1 ?k2 ?k3 ?k4 ?k6 ?kK ?kr ?kd ?ku ?_; (case k1 => k_asm); (case k2 => k_asm); (case k3 => k_asm); (case k4 => k_asm); (case k6 => k_asm); (case kK => first | exact rfl | assumption); (case kr => tb_rel); (case q1 => assumption); (case q2 => assumption); (case q3 => assumption); (case q4 => assumption); (case kd => ktr_room); (case ku => ktr_units); k_whole; refine rA ?_; intro t9 h9 tk9 _ F9 N9; (dsimp only [List.nil_append] at N9); (try k_sweep))))
  unfold Call
  k_fill
  intro dp un gd cn sc a ccd cl outer A₀ base h₀ L m
  refine ps5 ?_
  intro sH0 sG0 sD0 sT0 sO0 loose mean mg mb Q B F X N T hk hrd hd1 hu hret
  (try dsimp only at F)
  (try dsimp only at N)
  (try dsimp only at hrd)
  (try dsimp only at hret)
  k_dflt (refine' enterR ?k1 ?k2 ?k3 ?k4 ?k5 ?kA ?kF ?kK ?k6 ?k7 ?k8 ?k9 ?kB ?_ ?c2 ?c3 ?c4 ?c5; (case kA => exact rfl); (case kF => exact rfl); (case kK => assumption); (case k1 => k_asm); (case k2 => k_asm); (case k3 => k_asm); (case k4 => k_asm); (case k5 => k_asm); (case k6 => k_is); (case k7 => k_is); (case k8 => ktr_room); (case k9 => first | exact BindsTo.of_eq rfl | exact binds_K (by k_in) rfl (by k_is) rfl rfl rfl); (case c5 => decide); (case kB => exact locs rfl); (case c2 => exact rfl); (case c3 => exact rfl); (case c4 => exact rfl); k_whole)
  intro g L1 h1 FG F1 N1 B1 X1 T1 keep hlt
  (try dsimp only)
  (try ((try change wpAny _ _ _ _ _ _); k_fold))
  have R : ∀ x ∈ [S.inst, S.dict, S.counts, S.used], g.get? x.1 = some x.2 := fun x hx => keep _ _ (hrd x hx).2 (hrd x hx).1
  have r1 := R _ (.head _)
  try dsimp only at r1
  have r2 := R _ (.tail _ (.head _))
  try dsimp only at r2
  have r3 := R _ (.tail _ (.tail _ (.head _)))
  try dsimp only at r3
  have r5 := R _ (.tail _ (.tail _ (.tail _ (.head _))))
  try dsimp only at r5
  clear R
  have I1 : InstAt g S.x (instObj 309 S.dx) 309 (some S.dict.2) := ⟨r1, rfl, rfl, r2⟩
  have hlen := ok.len
  clear hrd hlt
  k_with "exec While Compare cons nil" => refine hold ?_
  k_steps
  refine go ?_
  rename Fr _ _ _ _ => lF'
  rename News _ _ _ _ => lN'
  with_unfolding_all refine' ksw_while (σ := (Int × Tok) × (List Value × List Int × Nat)) (fun c => [(S.ls, listOf c.2.1.toArray c.2.2.2)]) (fun c => [(Str.ofString "left", .int c.1.1 c.1.2)]) (fun c => IntsAre c.2.1 c.2.2.1) [] (fun c => c.2.2.1.length = S.cs.length ∧ upV S.cs S.us S.size S.total c.1.1.toNat c.2.2.1 = upV S.cs S.us S.size S.total (S.size - sh.sum).toNat sh ∧ ((c.1.1 = S.size - sh.sum ∧ c.2.2.1 = sh) ∨ (0 ≤ c.1.1 ∧ 0 ≤ S.size - sh.sum))) (fun c => c.1.1.toNat) ((S.size - sh.sum, _), (vs, sh, e)) lF' lN' hs ?kk ⟨hl, rfl, .inl ⟨rfl, rfl⟩⟩ ?turn (by with_unfolding_all passes_own)
  case kk => kst_all
  case' turn =>
    (first | (refine pz5 ?_; intro left tl vs1 sh1 e1 u h tk hs1; refine an_ppp ?_; intro hl1 hup hor kFr kNews) | (rintro ⟨⟨left, tl⟩, ⟨vs1, sh1, e1⟩⟩ u h tk hs1 ⟨hl1, hup, hor⟩ kFr kNews))
    clear lF' lN'
    dsimp only [kstB] at kFr
    dsimp only at kNews hs1 hl1 hup hor
    have hmm := ok.hus _ (mostV_mem ok.ne (L := lackV S.cs sh1 S.size S.total))
    try ((try change wpAny _ _ _ _ _ _); k_fold)
  k_steps
  · refine ksw_end ((left - 1, _), (_, (_, _))) (by assumption) (by assumption) (fun p hp => hp) (by assumption) (by kst_all) (by ksw_same) ⟨(List.length_set ..).trans hl1, ?_, ?_⟩ (by dsimp only; omega)
    · dsimp only
      rw [← hup, show left.toNat = (left - 1).toNat + 1 by omega]
      rfl
    · dsimp only at hor ⊢
      right; omega
  have hle : left ≤ 0 := by omega
  have hst : downOk S.cs S.us S.size S.total (-left).toNat sh1 ∧ downV S.cs S.us S.size S.total (-left).toNat sh1 = mendV S.cs S.us S.size S.total sh := by
    have hz : left.toNat = 0 := by omega
    rw [hz] at hup
    replace hup : sh1 = upV S.cs S.us S.size S.total (S.size - sh.sum).toNat sh := hup
    rcases hor with ⟨ha, hb⟩ | ⟨ha, hb⟩
    · subst hb
      have h1 : (-left).toNat = (sh1.sum - S.size).toNat := by omega
      refine ⟨h1 ▸ hdn, ?_⟩
      unfold mendV
      rw [← hup, h1]
    · have h1 : left = 0 := by omega
      have h2 : (sh.sum - S.size).toNat = 0 := by omega
      subst h1
      refine ⟨trivial, ?_⟩
      unfold mendV
      rw [h2, ← hup]
      rfl
  refine go ?_
  rename Fr _ _ _ _ => lF'
  rename News _ _ _ _ => lN'
  with_unfolding_all refine' ksw_while (σ := (Int × Tok) × (List Value × List Int × Nat)) (fun c => [(S.ls, listOf c.2.1.toArray c.2.2.2)]) (fun c => [(Str.ofString "left", .int c.1.1 c.1.2)]) (fun c => IntsAre c.2.1 c.2.2.1) [] (fun c => c.2.2.1.length = S.cs.length ∧ c.1.1 ≤ 0 ∧ downOk S.cs S.us S.size S.total (-c.1.1).toNat c.2.2.1 ∧ downV S.cs S.us S.size S.total (-c.1.1).toNat c.2.2.1 = mendV S.cs S.us S.size S.total sh) (fun c => (-c.1.1).toNat) ((left, tl), (vs1, sh1, e1)) lF' lN' hs1 ?kk ⟨hl1, ?p0, ?p1, ?p2⟩ ?turn2 (by with_unfolding_all passes_own)
  case kk => kst_all
  case p0 => exact hle
  case p1 => exact hst.1
  case p2 => exact hst.2
  case' turn2 =>
    (first | (refine pz5 ?_; intro left2 tl2 vs2 sh2 e2 u2 h2 tk2 hs2; refine an_pppp ?_; intro hl2 hz2 hok2 hdn2 kFr2 kNews2) | (rintro ⟨⟨left2, tl2⟩, ⟨vs2, sh2, e2⟩⟩ u2 h2 tk2 hs2 ⟨hl2, hz2, hok2, hdn2⟩ kFr2 kNews2))
    clear lF' lN'
    dsimp only [kstB] at kFr2
    dsimp only at kNews2 hs2 hl2 hz2 hok2 hdn2
    have hi2 : left2 < 0 → ∃ i, leastAt S.cs S.us S.size S.total sh2 = some i ∧ i ∈ S.us ∧ downOk S.cs S.us S.size S.total (-(left2 + 1)).toNat (downStep sh2 i) := by
      intro hlt
      rw [show (-left2).toNat = (-(left2 + 1)).toNat + 1 by omega] at hok2
      exact hok2
    try ((try change wpAny _ _ _ _ _ _); k_fold)
  k_with "exec AugAssign Subscript" => refine hold ?_
  k_steps
  · obtain ⟨i, hi3, him, hok3⟩ := hi2 (by omega)
    have hmm2 := ok.hus _ him
    have hk3 : leastV (lackV S.cs sh2 S.size S.total) (fun u => sh2.getD u.toNat 0) S.us = some i := hi3
    refine go ?_
    k_with_none
    k_with "call ref" => ((k_here; (with_reducible show wpAny _ _ (call (Value.ref 278) _) _ _ _); k_dflt (refine' use0 (lack_call ?q1 ?q2 ?q3 ?q4) ?k1 ?k2 ?k3 ?k4 ?k6 ?kK ?kr ?kd ?ku ?_; (case k1 => k_asm); (case k2 => k_asm); (case k3 => k_asm); (case k4 => k_asm); (case k6 => k_asm); (case kK => first | exact rfl | assumption); (case kr => tb_rel); (case q1 => assumption); (case q2 => assumption); (case q3 => assumption); (case q4 => first | assumption | (refine SD.Ok.hus ?_ _ ?_ <;> assumption)); (case kd => ktr_room); (case ku => ktr_units); k_whole; refine rA ?_; intro t9 h9 tk9 _ F9 N9; (dsimp only [List.nil_append] at N9); (try k_sweep))))
    k_with "call ref" => ((k_here; (with_reducible show wpAny _ _ (call (Value.ref 285) _) _ _ _); k_dflt (refine' use0 (most_call ?q1 ?q2 ?q3) ?k1 ?k2 ?k3 ?k4 ?k6 ?kK ?kr ?kd ?ku ?_; (case k1 => k_asm); (case k2 => k_asm); (case k3 => k_asm); (case k4 => k_asm); (case k6 => k_asm); (case kK => first | exact rfl | assumption); (case kr => tb_rel); (case q1 => assumption); (case q2 => assumption); (case q3 => assumption); (case kd => ktr_room); (case ku => ktr_units); k_whole; refine rA ?_; intro t9 h9 tk9 _ F9 N9; (dsimp only [List.nil_append] at N9); (try k_sweep))))
    k_with "call ref" => ((k_here; (with_reducible show wpAny _ _ (call (Value.ref 292) _) _ _ _); k_dflt (refine' use0 (least_call' ?q1 ?q2 ?q3 ?q4) ?k1 ?k2 ?k3 ?k4 ?k6 ?kK ?kr ?kd ?ku ?_; (case k1 => k_asm); (case k2 => k_asm); (case k3 => k_asm); (case k4 => k_asm); (case k6 => k_asm); (case kK => first | exact rfl | assumption); (case kr => tb_rel); (case q1 => assumption); (case q2 => assumption); (case q3 => assumption); (case q4 => assumption); (case kd => ktr_room); (case ku => ktr_units); k_whole; refine rA ?_; intro t9 h9 tk9 _ F9 N9; (dsimp only [List.nil_append] at N9); (try k_sweep))))
    k_steps
    refine ksw_end ((left2 + 1, _), (_, (_, _))) (by assumption) (by assumption) (fun p hp => hp) (by assumption) (by kst_all) (by ksw_same) ⟨(List.length_set ..).trans hl2, ?_, hok3, ?_⟩ (by dsimp only; omega)
    · dsimp only; omega
    · dsimp only
      rw [← hdn2, show (-left2).toNat = (-(left2 + 1)).toNat + 1 by omega]
      show downV S.cs S.us S.size S.total (-(left2 + 1)).toNat (downStep sh2 i) = downV S.cs S.us S.size S.total (-(left2 + 1)).toNat (downStep sh2 ((leastAt S.cs S.us S.size S.total sh2).getD 0))
      rw [hi3]
      rfl
  · have hz3 : (-left2).toNat = 0 := by omega
    rw [hz3] at hdn2
    exact fin (muts' := [(S.ls, listOf vs2.toArray e2)]) (ex := []) hret keep (by assumption) (by assumption) (by assumption) (by assumption) (fun _ h => h) (fun _ h => nomatch h) (fun _ h => nomatch h) ⟨_, rfl, rfl, rfl, _, _, rfl, hdn2 ▸ hs2⟩

theorem fresh_Ctold : True := by
  k_with_none
  w_top off
  trivial
noncomputable def toldOne (cs sh : List Int) (size total i v : Int) : Int := if v = 1 ∧ lackV cs sh size total i < 0 then -1 else v
noncomputable def toldV (cs sh : List Int) (size total : Int) : List Int := (enumI sh).map fun p => toldOne cs sh size total p.1 p.2

theorem enumI_get {xs : List Int} {i : Nat} {x : Int} (h : xs[i]? = some x) : (enumI xs)[i]? = some ((i : Int), x) := by
  have hlt := (List.getElem?_eq_some_iff.mp h).1
  have hg : xs.getD i 0 = x := by simp [List.getD, h]
  unfold enumI
  rw [List.getElem?_map, List.getElem?_range hlt, Option.map_some, hg]
theorem told_step {G : Int × Int → Int} {vs : List Value} {xs : List Int} {i : Nat} {x y : Int} {t : Tok} (hl : vs.length = i) (hP : IntsAre vs (((enumI xs).take i).map G)) (hx : xs[i]? = some x) (hv : G ((i : Int), x) = y) :
    (vs ++ [Value.int y t]).length = i + 1 ∧ IntsAre (vs ++ [Value.int y t]) (((enumI xs).take (i + 1)).map G) := by
  refine ⟨by simp [hl], ?_⟩
  rw [take_succ_of (enumI_get hx), List.map_append, List.map_singleton, hv]
  exact ints_snoc hP _ _

theorem told_call {w : World} {S : SD} {vs : List Value} {e : Nat} {sh : List Int} (ok : S.Ok) (hs : IntsAre vs sh) (hl : sh.length = S.cs.length) :
    Call w 306 [.ref S.x] 2 16 [S.inst, S.dict, S.counts, S.shares vs e] [] (P0 fun r ex => ∃ d vs' k, ex = [(d, listOf vs'.toArray k)] ∧ r = .ref d ∧ IntsAre vs' (toldV S.cs sh S.size S.total)) := by
  k_with_none
  k_with "call ref" => ((k_here; (with_reducible show wpAny _ _ (call (Value.ref 278) _) _ _ _); k_dflt (refine' use0 (lack_call ?q1 ?q2 ?q3 ?q4) ?k1 ?k2 ?k3 ?k4 ?k6 ?kK ?kr ?kd ?ku ?_; (case k1 => k_asm); (case k2 => k_asm); (case k3 => k_asm); (case k4 => k_asm); (case k6 => k_asm); (case kK => first | exact rfl | assumption); (case kr => tb_rel); (case q1 => assumption); (case q2 => assumption); (case q3 => assumption); (case q4 => first | assumption | (refine SD.Ok.hus ?_ _ ?_ <;> assumption)); (case kd => ktr_room); (case ku => ktr_units); k_whole; refine rA ?_; intro t9 h9 tk9 _ F9 N9; (dsimp only [List.nil_append] at N9); (try k_sweep))))
  unfold Call
  k_fill
  intro dp un gd cn sc a ccd cl outer A₀ base h₀ L m
  refine ps5 ?_
  intro sH0 sG0 sD0 sT0 sO0 loose mean mg mb Q B F X N T hk hrd hd1 hu hret
  (try dsimp only at F)
  (try dsimp only at N)
  (try dsimp only at hrd)
  (try dsimp only at hret)
  k_dflt (refine' enterR ?k1 ?k2 ?k3 ?k4 ?k5 ?kA ?kF ?kK ?k6 ?k7 ?k8 ?k9 ?kB ?_ ?c2 ?c3 ?c4 ?c5; (case kA => exact rfl); (case kF => exact rfl); (case kK => assumption); (case k1 => k_asm); (case k2 => k_asm); (case k3 => k_asm); (case k4 => k_asm); (case k5 => k_asm); (case k6 => k_is); (case k7 => k_is); (case k8 => ktr_room); (case k9 => first | exact BindsTo.of_eq rfl | exact binds_K (by k_in) rfl (by k_is) rfl rfl rfl); (case c5 => decide); (case kB => exact locs rfl); (case c2 => exact rfl); (case c3 => exact rfl); (case c4 => exact rfl); k_whole)
  intro g L1 h1 FG F1 N1 B1 X1 T1 keep hlt
  (try dsimp only)
  (try ((try change wpAny _ _ _ _ _ _); k_fold))
  have R : ∀ x ∈ [S.inst, S.dict, S.counts, S.shares vs e], g.get? x.1 = some x.2 := fun x hx => keep _ _ (hrd x hx).2 (hrd x hx).1
  have r1 := R _ (.head _)
  try dsimp only at r1
  have r2 := R _ (.tail _ (.head _))
  try dsimp only at r2
  have r3 := R _ (.tail _ (.tail _ (.head _)))
  try dsimp only at r3
  have r4 := R _ (.tail _ (.tail _ (.tail _ (.head _))))
  try dsimp only at r4
  clear R
  have I1 : InstAt g S.x (instObj 309 S.dx) 309 (some S.dict.2) := ⟨r1, rfl, rfl, r2⟩
  have L3 : g.IsList S.ls vs.toArray := ⟨_, r4, rfl, _, rfl⟩
  clear hrd hlt
  k_with "exec For Tuple Call" => refine hold ?_
  k_steps
  refine go ?_
  k_with_none
  k_with "call ref" => ((k_here; (with_reducible show wpAny _ _ (call (Value.ref 278) _) _ _ _); k_dflt (refine' use0 (lack_call ?q1 ?q2 ?q3 ?q4) ?k1 ?k2 ?k3 ?k4 ?k6 ?kK ?kr ?kd ?ku ?_; (case k1 => k_asm); (case k2 => k_asm); (case k3 => k_asm); (case k4 => k_asm); (case k6 => k_asm); (case kK => first | exact rfl | assumption); (case kr => tb_rel); (case q1 => assumption); (case q2 => assumption); (case q3 => assumption); (case q4 => first | assumption | (refine SD.Ok.hus ?_ _ ?_ <;> assumption)); (case kd => ktr_room); (case ku => ktr_units); k_whole; refine rA ?_; intro t9 h9 tk9 _ F9 N9; (dsimp only [List.nil_append] at N9); (try k_sweep))))
  k_with "call type:enumerate" => refine hold ?_
  rename Fr _ _ _ _ => lF
  with_unfolding_all refine' For_pair3F lF ?a1 ?a2 ?a3 ?a4 ?_ ?a5 ?a6
  case a1 => exact rfl
  case a2 => exact rfl
  case a3 => exact rfl
  case a4 => exact rfl
  case a5 => exact fun _ => rfl
  case a6 => with_unfolding_all passes_own
  k_steps
  refine go ?_
  rename Fr _ _ _ _ => lF
  rename News _ _ _ _ => lN
  refine enum_it (by rfl) (L3.at fun o e => lF.keep _ o e) fun I h' PI hk => ?_
  have lF' := lF.keeps hk
  have lN' := lN.grown hk
  with_unfolding_all refine' pairs_loop (σ := List Value × Nat) PI (fun c => [(_, listOf c.1.toArray c.2)]) (fun _ => []) (fun _ => True) [] (fun i c => c.1.length = i ∧ IntsAre c.1 (((enumI sh).take i).map fun p => toldOne S.cs sh S.size S.total p.1 p.2)) ([], 0) ?src lF.ns.lt (Nat.le_of_lt (Nat.lt_of_le_of_lt lF.above lF.ns.lt)) lF' lN' (fun p hp => Heap.lt_size (lN p hp).1) trivial (fun _ h => nomatch h) ⟨rfl, .nil⟩ ?turn ?done
  case src => exact fun b hb => by rw [List.mem_singleton.mp hb]; exact ⟨_, r4⟩
  case' turn =>
    (first | (refine pz4 ?_; intro vs1 k1 i v0 v1 u h tk own hi; rintro ⟨⟨t0, rfl⟩, hv1⟩; intro hoff cl1; clear cl1; refine an_pp ?_; intro hPl hP kFr kNews) | (rintro ⟨vs1, k1⟩ i v0 v1 u h tk own hi ⟨⟨t0, rfl⟩, hv1⟩ hoff - ⟨hPl, hP⟩ kFr kNews))
    obtain ⟨x, t1, hx, rfl⟩ := ints_at hs hv1
    have hlt := (List.getElem?_eq_some_iff.mp hx).1
    have hii : 0 ≤ (i : Int) ∧ (i : Int) < S.cs.length := by omega
    have hlen := ok.len
    clear lF lN lF' lN' hk
    dsimp only [kstB] at kFr
    dsimp only at kNews hP hPl
    dsimp only [List.cons_append, List.nil_append] at kNews
    try ((try change wpAny _ _ _ _ _ _); k_fold)
  case' done =>
    (first | (refine pz4 ?_; intro vs1 k1 u h tk cl1; clear cl1; refine an_pp ?_; intro hPl hP kFr kNews) | (rintro ⟨vs1, k1⟩ u h tk - ⟨hPl, hP⟩ kFr kNews))
    clear lF lN lF' lN' hk
    dsimp only [kstB] at kFr
    dsimp only at kNews hP hPl
    try ((try change wpAny _ _ _ _ _ _); k_fold)
  k_with_none
  k_with "call ref" => ((k_here; (with_reducible show wpAny _ _ (call (Value.ref 278) _) _ _ _); k_dflt (refine' use0 (lack_call ?q1 ?q2 ?q3 ?q4) ?k1 ?k2 ?k3 ?k4 ?k6 ?kK ?kr ?kd ?ku ?_; (case k1 => k_asm); (case k2 => k_asm); (case k3 => k_asm); (case k4 => k_asm); (case k6 => k_asm); (case kK => first | exact rfl | assumption); (case kr => tb_rel); (case q1 => assumption); (case q2 => assumption); (case q3 => assumption); (case q4 => first | assumption | (refine SD.Ok.hus ?_ _ ?_ <;> assumption)); (case kd => ktr_room); (case ku => ktr_units); k_whole; refine rA ?_; intro t9 h9 tk9 _ F9 N9; (dsimp only [List.nil_append] at N9); (try k_sweep))))
  k_steps
  all_goals (try (rename News _ _ _ _ => nE; simp only [List.push_toArray] at nE))
  · have e1 : (enumI sh).take vs.toArray.size = enumI sh := List.take_of_length_le (by rw [List.size_toArray, hs.length]; simp [enumI])
    rw [e1] at hP
    exact fin (muts' := []) (ex := [(_, listOf vs1.toArray k1)]) hret keep (by assumption) (by assumption) (by assumption) (by assumption) (fun _ h => h) (fun _ h => h) (fun _ _ => List.not_mem_nil) ⟨rfl, _, _, _, rfl, rfl, hP⟩
  all_goals first
    | exact pr_end (vs1 ++ [Value.int (-1) _], k1 + 1) (by assumption) (by assumption) (fun p hp => by rw [List.mem_singleton.mp hp]; exact .head _) (fun p hp => .tail _ hp) rfl trivial (fun _ h => nomatch h) (by intro z h1 h2 _ _; first | rfl | (simp [h1, h2]; done)) (told_step hPl hP hx (if_pos (by dsimp only; omega)))
    | exact pr_end (vs1 ++ [Value.int x _], k1 + 1) (by assumption) (by assumption) (fun p hp => by rw [List.mem_singleton.mp hp]; exact .head _) (fun p hp => .tail _ hp) rfl trivial (fun _ h => nomatch h) (by intro z h1 h2 _ _; first | rfl | (simp [h1, h2]; done)) (told_step hPl hP hx (if_neg (by dsimp only; omega)))

theorem fresh_Cinit : True := by
  k_with_none
  w_top off
  trivial
noncomputable def usedI (cs : List Int) : List Int := (enumI cs).filterMap fun p => if p.2 > 0 then some p.1 else none
noncomputable def initStep (cs : List Int) (size total : Int) (sh : List Int) (u : Int) : List Int := sh.set u.toNat (max 1 (cs.getD u.toNat 0 * size / total))
noncomputable def initV (cs : List Int) (size total : Int) : List Int := (usedI cs).foldl (initStep cs size total) (cs.map fun _ => 0)

theorem usedI_mem {cs : List Int} {u : Int} (h : u ∈ (enumI cs).filterMap fun p => if p.2 > 0 then some p.1 else none) : 0 ≤ u ∧ u < cs.length ∧ 0 < cs.getD u.toNat 0 := by
  obtain ⟨p, hp, he⟩ := List.mem_filterMap.mp h
  obtain ⟨i, hi, rfl⟩ := List.mem_map.mp hp
  rw [List.mem_range] at hi
  dsimp only at he
  split at he
  · cases he
    refine ⟨by omega, by omega, ?_⟩
    rw [Int.toNat_natCast]; assumption
  · cases he

theorem init_call {w : World} {x dx lc : Addr} {vc : List Value} {nc : Nat} {cs : List Int} {log : Int} {tl : Tok} (hc : IntsAre vc cs) (hl1 : 5 ≤ log) (hl2 : log ≤ 7) (hcs : ∀ c ∈ cs, 0 ≤ c ∧ c ≤ 10000) (hlen : cs.length < 1000) (hpos : 0 < cs.sum) (hsum : cs.sum ≤ 10000000) :
    Call w 271 [.ref x, .ref lc, .int log tl] 1 8 [(x, instObj 309 dx), (lc, listOf vc.toArray nc)] [(dx, dictOf [] 0)] (P1 dx fun r o' ex => r = .none ∧
      ∃ (S : SD) (vs : List Value) (e : Nat), S.x = x ∧ S.dx = dx ∧ S.lc = lc ∧ S.vc = vc ∧ S.nc = nc ∧ S.cs = cs ∧ S.us = usedI cs ∧ S.size = 2 ^ log.toNat ∧ S.total = cs.sum ∧ o' = S.dict.2 ∧ ex = [S.used, S.shares vs e] ∧ IntsAre S.vu S.us ∧ IntsAre vs (initV cs S.size S.total) ∧ (@Ne Nat S.lu S.ls)) := by
  k_with_none
  k_with "call ref" => ((k_here; (with_reducible show wpAny _ _ (call (Value.ref 278) _) _ _ _); k_dflt (refine' use0 (lack_call ?q1 ?q2 ?q3 ?q4) ?k1 ?k2 ?k3 ?k4 ?k6 ?kK ?kr ?kd ?ku ?_; (case k1 => k_asm); (case k2 => k_asm); (case k3 => k_asm); (case k4 => k_asm); (case k6 => k_asm); (case kK => first | exact rfl | assumption); (case kr => tb_rel); (case q1 => assumption); (case q2 => assumption); (case q3 => assumption); (case q4 => first | assumption | (refine SD.Ok.hus ?_ _ ?_ <;> assumption)); (case kd => ktr_room); (case ku => ktr_units); k_whole; refine rA ?_; intro t9 h9 tk9 _ F9 N9; (dsimp only [List.nil_append] at N9); (try k_sweep))))
  unfold Call
  k_fill
  intro dp un gd cn sc a ccd cl outer A₀ base h₀ L m
  refine ps5 ?_
  intro sH0 sG0 sD0 sT0 sO0 loose mean mg mb Q B F X N T hk hrd hd1 hu hret
  (try dsimp only at F)
  (try dsimp only at N)
  (try dsimp only at hrd)
  (try dsimp only at hret)
  k_dflt (refine' enterR ?k1 ?k2 ?k3 ?k4 ?k5 ?kA ?kF ?kK ?k6 ?k7 ?k8 ?k9 ?kB ?_ ?c2 ?c3 ?c4 ?c5; (case kA => exact rfl); (case kF => exact rfl); (case kK => assumption); (case k1 => k_asm); (case k2 => k_asm); (case k3 => k_asm); (case k4 => k_asm); (case k5 => k_asm); (case k6 => k_is); (case k7 => k_is); (case k8 => ktr_room); (case k9 => first | exact BindsTo.of_eq rfl | exact binds_K (by k_in) rfl (by k_is) rfl rfl rfl); (case c5 => decide); (case kB => exact locs rfl); (case c2 => exact rfl); (case c3 => exact rfl); (case c4 => exact rfl); k_whole)
  intro g L1 h1 FG F1 N1 B1 X1 T1 keep hlt
  (try dsimp only)
  (try ((try change wpAny _ _ _ _ _ _); k_fold))
  have R : ∀ z ∈ [(x, instObj 309 dx), (lc, listOf vc.toArray nc)], g.get? z.1 = some z.2 := fun x hx => keep _ _ (hrd x hx).2 (hrd x hx).1
  have r1 := R _ (.head _)
  try dsimp only at r1
  have r2 := R _ (.tail _ (.head _))
  try dsimp only at r2
  clear R
  have L2 : g.IsList lc vc.toArray := ⟨_, r2, rfl, _, rfl⟩
  clear hrd hlt
  k_with "call type:enumerate" => refine hold ?_
  k_with "pyIter ref" => refine hold ?_
  k_steps
  refine go ?_
  refine pc_enum (by rfl) (L2.at fun o e => Fr.keep (by k_asm) _ o e) hc (by k_asm) (by k_asm) (groundNe r2 (by k_asm)) (by omega) (fun i v => if v > 0 then some i else none) ?turn ?done
  case' turn => (first | (refine rE ?_; intro g1 i v ti tv zs C oC D m₂ h tk own E' hmem hC ha hb kFr kNews) | (rintro _ ⟨g1, rfl⟩ i v ti tv zs C oC D m₂ h tk own E' hmem hC ha hb kFr kNews))
  case' done => (first | (refine rE ?_; intro g1 vs1 hvs1) | (rintro _ ⟨g1, rfl⟩ vs1 hvs1))
  all_goals (try ((try change wpAny _ _ _ _ _ _); k_fold))
  k_steps
  rotate_left
  · exact pc_end (by assumption) (by assumption) ⟨_, _, if_pos (by omega), rfl⟩
  · exact pc_end (by assumption) (by assumption) (if_neg (by omega))
  refine go ?_
  refine c0_src (by rfl) (by k_asm) (by k_asm) (.inl L2) hc (by omega) (fun _ => 0) ?turn2 ?done2
  case' turn2 => (first | (refine rE ?_; intro g1 v tv zs I oI C oC D m₂ h tk E' hmem hC ha kFr kNews) | (rintro _ ⟨g1, rfl⟩ v tv zs I oI C oC D m₂ h tk E' hmem hC ha kFr kNews))
  case' done2 => (first | (refine rE ?_; intro g1 vs2 hvs2) | (rintro _ ⟨g1, rfl⟩ vs2 hvs2))
  all_goals (try ((try change wpAny _ _ _ _ _ _); k_fold))
  k_steps
  rotate_left
  · exact pc_end (by assumption) (by assumption) ⟨_, rfl⟩
  refine go ?_
  rename Fr _ _ _ _ => lF'
  rename News _ _ _ _ => lN'
  with_unfolding_all refine' kst_listL (σ := List Value × List Int) (fun c => [(_, listOf c.1.toArray _), (_, listOf vs1.toArray _), (_, _), (_, _)]) (fun _ => []) (fun c => IntsAre c.1 c.2) [] (fun pre c => c.2.length = cs.length ∧ c.2 = pre.foldl (initStep cs (1 * 2 ^ log.toNat) cs.sum) (cs.map fun _ => 0)) (vs2, cs.map fun _ => 0) (by rfl) (fun c => .tail _ (.head _)) hvs1 lF' lN' hvs2 (fun _ h => nomatch h) ⟨by simp, rfl⟩ ?turn3 ?done3
  case' turn3 =>
    (first | (refine pz4 ?_; intro vs3 sh pre post sy t u h tk own heq hmem hoff hs3; refine an_pp ?_; intro hl3 hP kFr kNews) | (rintro ⟨vs3, sh⟩ pre post sy t u h tk own heq hmem hoff hs3 ⟨hl3, hP⟩ kFr kNews))
    clear lF' lN'
    dsimp only [kstB] at kFr
    dsimp only at kNews hs3 hl3 hP
    dsimp only [List.cons_append, List.nil_append] at kNews
    have hsy := usedI_mem hmem
    have hb1 := hcs (cs.getD sy.toNat 0) (getD_mem (by omega))
    have hb2 : 0 < (2 : Int) ^ log.toNat ∧ (2 : Int) ^ log.toNat ≤ 128 := by
      rcases (by omega : log = 5 ∨ log = 6 ∨ log = 7) with rfl | rfl | rfl <;> decide
    try ((try change wpAny _ _ _ _ _ _); k_fold)
  case' done3 =>
    (first | (refine pz4 ?_; intro vs3 sh u h tk hs3; refine an_pp ?_; intro hl3 hP kFr kNews) | (rintro ⟨vs3, sh⟩ u h tk hs3 ⟨hl3, hP⟩ kFr kNews))
    clear lF' lN'
    dsimp only [kstB] at kFr
    dsimp only at kNews hs3 hl3 hP
    try ((try change wpAny _ _ _ _ _ _); k_fold)
  k_with_none
  k_with "call ref" => ((k_here; (with_reducible show wpAny _ _ (call (Value.ref 278) _) _ _ _); k_dflt (refine' use0 (lack_call ?q1 ?q2 ?q3 ?q4) ?k1 ?k2 ?k3 ?k4 ?k6 ?kK ?kr ?kd ?ku ?_; (case k1 => k_asm); (case k2 => k_asm); (case k3 => k_asm); (case k4 => k_asm); (case k6 => k_asm); (case kK => first | exact rfl | assumption); (case kr => tb_rel); (case q1 => assumption); (case q2 => assumption); (case q3 => assumption); (case q4 => first | assumption | (refine SD.Ok.hus ?_ _ ?_ <;> assumption)); (case kd => ktr_room); (case ku => ktr_units); k_whole; refine rA ?_; intro t9 h9 tk9 _ F9 N9; (dsimp only [List.nil_append] at N9); (try k_sweep))))
  k_steps
  · have hs9 : initV cs (2 ^ log.toNat) cs.sum = sh := by rw [hP, Int.one_mul]; rfl
    refine' fin (muts' := [(dx, _)]) (ex := [(_, listOf vs1.toArray _), (_, listOf vs3.toArray _)]) hret keep (by assumption) (by assumption) (by assumption) (by assumption) (List.forall_mem_cons.mpr ⟨.tail _ (.head _), List.forall_mem_cons.mpr ⟨.head _, List.forall_mem_cons.mpr ⟨.tail _ (.tail _ (.tail _ (.head _))), fun _ h => nomatch h⟩⟩⟩) (List.forall_mem_cons.mpr ⟨.tail _ (.head _), List.forall_mem_cons.mpr ⟨.head _, fun _ h => nomatch h⟩⟩) ?e3 ⟨_, rfl, rfl, ⟨x, dx, lc, _, _, _, _, _, _, _, _, _, _, _, _, _, _, _, nc, _, vc, vs1, cs, usedI cs, 2 ^ log.toNat, cs.sum⟩, vs3, _, rfl, rfl, rfl, rfl, rfl, rfl, rfl, rfl, rfl, ?e4, rfl, hvs1, hs9 ▸ hs3, ?e5⟩
    case e5 => exact And.left (by with_reducible assumption)
    case e4 => rw [Int.one_mul]
    case e3 => exact List.forall_mem_cons.mpr ⟨fun q => absurd (show dx = _ from (List.mem_singleton.mp q).symm) (And.right (by with_reducible assumption)), List.forall_mem_cons.mpr ⟨fun q => absurd (show dx = _ from (List.mem_singleton.mp q).symm) (And.right (And.right (by with_reducible assumption))), fun _ h => nomatch h⟩⟩
  · have hm9 : ∀ z : Int, (if z > 1 then z else 1) = max 1 z := fun z => by omega
    simp only [hm9, Int.fdiv_eq_ediv_of_nonneg _ (Int.le_of_lt hpos)] at *
    exact kst_end (vs3.set sy.toNat (.int (max 1 (cs.getD sy.toNat 0 * (1 * 2 ^ log.toNat) / cs.sum)) _), initStep cs (1 * 2 ^ log.toNat) cs.sum sh sy) (by assumption) (by assumption) (fun p hp => List.mem_append_left own hp) (fun p hp => List.mem_append_right [_, _, _, _] hp) rfl (by assumption) (by kst_all) (by kst_same) ⟨(List.length_set ..).trans hl3, by rw [List.foldl_append, ← hP]; rfl⟩

theorem fresh_Cin : True := by
  k_with_none
  w_top off
  trivial
section
variable {w : World} {C fI : Addr} {pos : List Value} {c1 c2 : Nat} {reads0 : List (Addr × Obj)}
  {dp un : Nat} {gd : Option (List Code)} {cn : Str} {cs : Scope} {a : Addr} {ccd : Value} {cl : List (Str × Addr)} {outer : List Env} {A₀ : Around} {base h₀ : Heap} {L : Addr} {m : Str → Option Value} {s : Shared}
  {loose : List Str} {mean : ExcName → Option Value} {mg mb : Str → Option Value} {Q E : Value → Shared → Prop} {news : List (Addr × Obj)} {P : Addr → Addr → Obj → List (Addr × Obj) → Prop}
theorem useInit (Cx : ∀ x dx, Call w fI (.ref x :: pos) c1 c2 ((x, instObj C dx) :: reads0) [(dx, dictOf [] 0)] (P1 dx fun r o' ex => r = .none ∧ P x dx o' ex))
    (B : Below A₀ base outer h₀) (F : Fr h₀ L s.heap m) (X : (hd.heap_1 w.params).In h₀) (N : News h₀ L s.heap news) (T : Top hd.view_1 loose mean mg mb h₀) (hk : cs.kind = .function)
    (hm : makesIn (hd.heap_1 w.params) C = true) (hi : findIn (hd.heap_1 w.params) (.ref C) "__init__" = some (some (.ref fI))) (hf : isFn (hd.heap_1 w.params) (.ref fI) = true)
    (hr : ∀ x ∈ reads0, h₀.get? x.1 = some x.2 ∨ x ∈ news) (hd1 : dp + 1 + c1 < recursionLimit) (hu : un + 10 + c2 < cLine)
    (ret : ∀ (x dx : Addr) (o' : Obj) (ex : List (Addr × Obj)) (h' : Heap) (tk' : Nat), P x dx o' ex → Fr h₀ L h' m → News h₀ L h' (ex ++ (x, instObj C dx) :: (dx, o') :: news) → (∀ p ∈ news, p.1 < dx) → dx < x → Offs ((x, instObj C dx) :: (dx, o') :: news) ex → Q (.ref x) { s with heap := h', toks := tk' }) :
    wpAny (model PySem.Challenge.rw_pq1220_01.row.prog w) (ktrTop dp un gd cn cs L a ccd cl outer) (call (.ref C) pos) Q E s := by
  refine call_cls F X N hm hi hf fun x dx h' F' N' l1 l2 => ?_
  have ne : x ≠ dx := fun q => Nat.lt_irrefl _ (q ▸ l2 : @LT.lt Nat _ dx dx)
  refine Cx x dx (dp + 1) (un + (Code.builtin "type.__call__" ⟨.ref C :: pos, []⟩).cUnits) (pushGuards (Code.builtin "type.__call__" ⟨.ref C :: pos, []⟩).guards gd) cn cs a ccd cl outer A₀ base h₀ L m { s with heap := h' } loose mean mg mb _ B F' X (fun y hy => N' y (by rw [List.mem_singleton.mp hy]; exact .tail _ (.head _))) T hk (fun y hy => ?_) hd1 ?_ fun r mu ex h2 tk2 hp F2 N2 k hne => ?_
  · rcases List.mem_cons.mp hy with rfl | hy
    · exact ⟨(N' _ (.head _)).1, fun q => ne (List.mem_singleton.mp q)⟩
    · rcases hr y hy with e | e
      · refine ⟨F'.keep _ _ e, fun q => ?_⟩
        have := (N' (dx, dictOf [] 0) (.tail _ (.head _))).2.2
        rw [List.mem_singleton.mp q] at e
        rw [show h₀.get? dx = none from this] at e; cases e
      · refine ⟨(N' y (.tail _ (.tail _ e))).1, fun q => ?_⟩
        have := l1 y e
        rw [List.mem_singleton.mp q] at this
        exact Nat.lt_irrefl _ this
  · have : (Code.builtin "type.__call__" ⟨.ref C :: pos, []⟩).cUnits ≤ 10 := Nat.le_trans (Nat.le_of_eq (rfl : _ = 1)) (by decide)
    omega
  · obtain ⟨o', rfl, rfl, hp⟩ := hp
    refine ⟨rfl, ret x dx o' ex h2 tk2 hp F2 (fun y hy => ?_) l1 l2 (offs_of fun y hy => off_of fun q hq => ?_)⟩
    · rcases List.mem_append.mp hy with hy | hy
      · exact N2 y (List.mem_append_left _ hy)
      · rcases List.mem_cons.mp hy with rfl | hy
        · exact ⟨k _ _ (fun q => ne (List.mem_singleton.mp q)) (N' _ (.head _)).1, (N' _ (.head _)).2⟩
        · rcases List.mem_cons.mp hy with rfl | hy
          · exact N2 _ (List.mem_append_right _ (.head _))
          · refine ⟨k _ _ (fun q => ?_) (N' _ (.tail _ (.tail _ hy))).1, (N' _ (.tail _ (.tail _ hy))).2⟩
            have := l1 y hy
            rw [List.mem_singleton.mp q] at this
            exact Nat.lt_irrefl _ this
    · rcases List.mem_cons.mp hq with rfl | hq
      · exact hne y hy _ _ (N' _ (.head _)).1
      · rcases List.mem_cons.mp hq with rfl | hq
        · exact hne y hy _ _ (N' (dx, dictOf [] 0) (.tail _ (.head _))).1
        · exact hne y hy _ _ (N' _ (.tail _ (.tail _ hq))).1
end

theorem fresh_Cnorm : True := by
  k_with_none
  w_top off
  trivial
noncomputable def normSh (cs : List Int) (size : Int) : List Int := mendV cs (usedI cs) size cs.sum (initV cs size cs.sum)
noncomputable def normF (cs : List Int) (log : Int) : List Int := toldV cs (normSh cs (2 ^ log.toNat)) (2 ^ log.toNat) cs.sum
noncomputable def usedC (cs : List Int) : List Int := cs.filterMap fun c => if c > 0 then some c else none
/-- what normalize asks of its counts -/
structure NormOk (cs : List Int) (log : Int) : Prop where
  l1 : 5 ≤ log
  l2 : log ≤ 7
  b : ∀ c ∈ cs, 0 ≤ c ∧ c ≤ 10000
  len : cs.length < 1000
  pos : 0 < cs.sum
  sum : cs.sum ≤ 10000000
  n0 : 0 < (usedC cs).length
  used : ((usedC cs).length : Int) ≤ 2 ^ log.toNat
  upos : usedI cs ≠ []
  down : downOk cs (usedI cs) (2 ^ log.toNat) cs.sum ((initV cs (2 ^ log.toNat) cs.sum).sum - 2 ^ log.toNat).toNat (initV cs (2 ^ log.toNat) cs.sum)

theorem upV_length (cs us : List Int) (size total : Int) : ∀ (k : Nat) (sh : List Int), (upV cs us size total k sh).length = sh.length
  | 0, _ => rfl
  | k + 1, sh => (upV_length cs us size total k _).trans (List.length_set ..)
theorem downV_length (cs us : List Int) (size total : Int) : ∀ (k : Nat) (sh : List Int), (downV cs us size total k sh).length = sh.length
  | 0, _ => rfl
  | k + 1, sh => (downV_length cs us size total k _).trans (List.length_set ..)
theorem mendV_length (cs us : List Int) (size total : Int) (sh : List Int) : (mendV cs us size total sh).length = sh.length := (downV_length ..).trans (upV_length ..)
theorem gneN {g h : Heap} {L a b : Addr} {o o' : Obj} {news : List (Addr × Obj)} (r : g.get? a = some o) (N : News g L h news) (hm : (b, o') ∈ news) : a ≠ b := fun q => by
  have := (N _ hm).2.2
  rw [q] at r
  rw [show g.get? b = none from this] at r
  cases r
theorem initV_length (cs : List Int) (size total : Int) : (initV cs size total).length = cs.length := by
  have key : ∀ (us sh : List Int), (us.foldl (initStep cs size total) sh).length = sh.length := by
    intro us
    induction us with
    | nil => intro sh; rfl
    | cons u r ih => intro sh; rw [List.foldl_cons, ih]; exact List.length_set ..
  unfold initV
  rw [key, List.length_map]
theorem norm_call {w : World} {lc : Addr} {vc : List Value} {nc : Nat} {cs : List Int} {log : Int} {tl : Tok} (hc : IntsAre vc cs) (ok : NormOk cs log) :
    Call w 318 [.ref lc, .int log tl] 8 200 [(lc, listOf vc.toArray nc)] [] (P0 fun r ex => ∃ d vs k, ex = [(d, listOf vs.toArray k)] ∧ r = .ref d ∧ IntsAre vs (normF cs log)) := by
  k_with_none
  k_with "call ref" => ((k_here; (with_reducible show wpAny _ _ (call (Value.ref 278) _) _ _ _); k_dflt (refine' use0 (lack_call ?q1 ?q2 ?q3 ?q4) ?k1 ?k2 ?k3 ?k4 ?k6 ?kK ?kr ?kd ?ku ?_; (case k1 => k_asm); (case k2 => k_asm); (case k3 => k_asm); (case k4 => k_asm); (case k6 => k_asm); (case kK => first | exact rfl | assumption); (case kr => tb_rel); (case q1 => assumption); (case q2 => assumption); (case q3 => assumption); (case q4 => first | assumption | (refine SD.Ok.hus ?_ _ ?_ <;> assumption)); (case kd => ktr_room); (case ku => ktr_units); k_whole; refine rA ?_; intro t9 h9 tk9 _ F9 N9; (dsimp only [List.nil_append] at N9); (try k_sweep))))
  k_with "call ref" => ((k_here; (with_reducible show wpAny _ _ (call (Value.ref 285) _) _ _ _); k_dflt (refine' use0 (most_call ?q1 ?q2 ?q3) ?k1 ?k2 ?k3 ?k4 ?k6 ?kK ?kr ?kd ?ku ?_; (case k1 => k_asm); (case k2 => k_asm); (case k3 => k_asm); (case k4 => k_asm); (case k6 => k_asm); (case kK => first | exact rfl | assumption); (case kr => tb_rel); (case q1 => assumption); (case q2 => assumption); (case q3 => assumption); (case kd => ktr_room); (case ku => ktr_units); k_whole; refine rA ?_; intro t9 h9 tk9 _ F9 N9; (dsimp only [List.nil_append] at N9); (try k_sweep))))
  k_with "call ref" => ((k_here; (with_reducible show wpAny _ _ (call (Value.ref 292) _) _ _ _); k_dflt (refine' use0 (least_call' ?q1 ?q2 ?q3 ?q4) ?k1 ?k2 ?k3 ?k4 ?k6 ?kK ?kr ?kd ?ku ?_; (case k1 => k_asm); (case k2 => k_asm); (case k3 => k_asm); (case k4 => k_asm); (case k6 => k_asm); (case kK => first | exact rfl | assumption); (case kr => tb_rel); (case q1 => assumption); (case q2 => assumption); (case q3 => assumption); (case q4 => assumption); (case kd => ktr_room); (case ku => ktr_units); k_whole; refine rA ?_; intro t9 h9 tk9 _ F9 N9; (dsimp only [List.nil_append] at N9); (try k_sweep))))
  unfold Call
  k_fill
  intro dp un gd cn sc a ccd cl outer A₀ base h₀ L m
  refine ps5 ?_
  intro sH0 sG0 sD0 sT0 sO0 loose mean mg mb Q B F X N T hk hrd hd1 hu hret
  (try dsimp only at F)
  (try dsimp only at N)
  (try dsimp only at hrd)
  (try dsimp only at hret)
  k_dflt (refine' enterR ?k1 ?k2 ?k3 ?k4 ?k5 ?kA ?kF ?kK ?k6 ?k7 ?k8 ?k9 ?kB ?_ ?c2 ?c3 ?c4 ?c5; (case kA => exact rfl); (case kF => exact rfl); (case kK => assumption); (case k1 => k_asm); (case k2 => k_asm); (case k3 => k_asm); (case k4 => k_asm); (case k5 => k_asm); (case k6 => k_is); (case k7 => k_is); (case k8 => ktr_room); (case k9 => first | exact BindsTo.of_eq rfl | exact binds_K (by k_in) rfl (by k_is) rfl rfl rfl); (case c5 => decide); (case kB => exact locs rfl); (case c2 => exact rfl); (case c3 => exact rfl); (case c4 => exact rfl); k_whole)
  intro g L1 h1 FG F1 N1 B1 X1 T1 keep hlt
  (try dsimp only)
  (try ((try change wpAny _ _ _ _ _ _); k_fold))
  have R : ∀ z ∈ [(lc, listOf vc.toArray nc)], g.get? z.1 = some z.2 := fun x hx => keep _ _ (hrd x hx).2 (hrd x hx).1
  have r1 := R _ (.head _)
  try dsimp only at r1
  clear R
  have L2 : g.IsList lc vc.toArray := ⟨_, r1, rfl, _, rfl⟩
  have z1 := ok.l1; have z2 := ok.l2; have z3 := ok.len
  clear hrd hlt
  k_steps
  refine go ?_
  refine c1_src (by rfl) (by k_asm) (by k_asm) (.inl L2) hc (by omega) (fun c => if c < 0 then some c else none) ?turn ?done
  case' turn => (first | (refine rE ?_; intro g1 v tv zs I oI C oC D m₂ h tk E' hmem hC ha kFr kNews) | (rintro _ ⟨g1, rfl⟩ v tv zs I oI C oC D m₂ h tk E' hmem hC ha kFr kNews))
  case' done =>
    (first | (refine rE ?_; intro g1 ws hws) | (rintro _ ⟨g1, rfl⟩ ws hws))
    have hz : cs.filterMap (fun c => if c < 0 then some c else none) = [] := List.filterMap_eq_nil_iff.mpr fun c hc => if_neg (by have := ok.b c hc; omega)
    rw [hz] at hws; cases hws
  all_goals (try ((try change wpAny _ _ _ _ _ _); k_fold))
  k_steps
  rotate_left
  · exact pc_end (by assumption) (by assumption) ⟨_, _, if_pos (by omega), rfl⟩
  · exact pc_end (by assumption) (by assumption) (if_neg (by omega))
  refine go ?_
  refine c1_src (by rfl) (by k_asm) (by k_asm) (.inl L2) hc (by omega) (fun c => if c > 0 then some c else none) ?turn2 ?done2
  case' turn2 => (first | (refine rE ?_; intro g1 v tv zs I oI C oC D m₂ h tk E' hmem hC ha kFr kNews) | (rintro _ ⟨g1, rfl⟩ v tv zs I oI C oC D m₂ h tk E' hmem hC ha kFr kNews))
  case' done2 =>
    (first | (refine rE ?_; intro g1 ws hws) | (rintro _ ⟨g1, rfl⟩ ws hws))
    have hw9 : 0 < ws.length ∧ (ws.length : Int) ≤ 2 ^ log.toNat := by rw [hws.length]; exact ⟨ok.n0, ok.used⟩
    have hw8 := hws.length
    have hp9 : (2 : Int) ^ log.toNat ≤ 128 := by rcases (by omega : log = 5 ∨ log = 6 ∨ log = 7) with rfl | rfl | rfl <;> decide
    have hb := ok.b; have hps := ok.pos; have hsm := ok.sum
  all_goals (try ((try change wpAny _ _ _ _ _ _); k_fold))
  k_steps
  rotate_left
  · exact pc_end (by assumption) (by assumption) ⟨_, _, if_pos (by omega), rfl⟩
  · exact pc_end (by assumption) (by assumption) (if_neg (by omega))
  refine' useInit (fun x dx => init_call hc z1 z2 hb z3 hps hsm) ?k1 ?k2 ?k3 ?k4 ?k6 ?kK ?k7 ?k8 ?k9 ?kr ?kd ?ku ?_
  case k1 => k_asm
  case k2 => k_asm
  case k3 => k_asm
  case k4 => k_asm
  case k6 => k_asm
  case kK => rfl
  case k7 => k_is
  case k8 => k_is
  case k9 => k_is
  case kr => exact List.forall_mem_cons.mpr ⟨.inl r1, fun _ h => nomatch h⟩
  case kd => ktr_room
  case ku => ktr_units
  rintro x dx o9 ex9 h9 tk9 ⟨S, vs9, e9, rfl, rfl, rfl, rfl, rfl, rfl, hu9, hs9, ht9, rfl, rfl, iu9, is9, ne9⟩ F9 N9 l1 l2 off9
  try k_lt l1
  try k_lt2 l2
  simp only [Offs, LCg.Off1, and_true] at off9
  have ok9 : S.Ok := ⟨hc, iu9, fun u hu => by rw [hu9] at hu; exact ⟨(usedI_mem hu).1, (usedI_mem hu).2.1⟩, z3, by rw [hs9]; omega, by rw [hs9]; omega, by rw [ht9]; omega, by rw [ht9]; omega, by rw [hu9]; exact ok.upos⟩
  have hl9 : (initV S.cs S.size S.total).length = S.cs.length := initV_length _ _ _
  have hdn9 : downOk S.cs S.us S.size S.total ((initV S.cs S.size S.total).sum - S.size).toNat (initV S.cs S.size S.total) := by rw [hu9, hs9, ht9]; exact ok.down
  dsimp only [List.cons_append, List.nil_append] at N9
  k_with_none
  k_with "call ref" => ((k_here; (with_reducible show wpAny _ _ (call (Value.ref 278) _) _ _ _); k_dflt (refine' use0 (lack_call ?q1 ?q2 ?q3 ?q4) ?k1 ?k2 ?k3 ?k4 ?k6 ?kK ?kr ?kd ?ku ?_; (case k1 => k_asm); (case k2 => k_asm); (case k3 => k_asm); (case k4 => k_asm); (case k6 => k_asm); (case kK => first | exact rfl | assumption); (case kr => tb_rel); (case q1 => assumption); (case q2 => assumption); (case q3 => assumption); (case q4 => first | assumption | (refine SD.Ok.hus ?_ _ ?_ <;> assumption)); (case kd => ktr_room); (case ku => ktr_units); k_whole; refine rA ?_; intro t9 h9 tk9 _ F9 N9; (dsimp only [List.nil_append] at N9); (try k_sweep))))
  k_with "call ref" => ((k_here; (with_reducible show wpAny _ _ (call (Value.ref 285) _) _ _ _); k_dflt (refine' use0 (most_call ?q1 ?q2 ?q3) ?k1 ?k2 ?k3 ?k4 ?k6 ?kK ?kr ?kd ?ku ?_; (case k1 => k_asm); (case k2 => k_asm); (case k3 => k_asm); (case k4 => k_asm); (case k6 => k_asm); (case kK => first | exact rfl | assumption); (case kr => tb_rel); (case q1 => assumption); (case q2 => assumption); (case q3 => assumption); (case kd => ktr_room); (case ku => ktr_units); k_whole; refine rA ?_; intro t9 h9 tk9 _ F9 N9; (dsimp only [List.nil_append] at N9); (try k_sweep))))
  k_with "call ref" => ((k_here; (with_reducible show wpAny _ _ (call (Value.ref 292) _) _ _ _); k_dflt (refine' use0 (least_call' ?q1 ?q2 ?q3 ?q4) ?k1 ?k2 ?k3 ?k4 ?k6 ?kK ?kr ?kd ?ku ?_; (case k1 => k_asm); (case k2 => k_asm); (case k3 => k_asm); (case k4 => k_asm); (case k6 => k_asm); (case kK => first | exact rfl | assumption); (case kr => tb_rel); (case q1 => assumption); (case q2 => assumption); (case q3 => assumption); (case q4 => assumption); (case kd => ktr_room); (case ku => ktr_units); k_whole; refine rA ?_; intro t9 h9 tk9 _ F9 N9; (dsimp only [List.nil_append] at N9); (try k_sweep))))
  k_steps
  dsimp only [List.cons_append, List.nil_append]
  refine' use1 (mend_call ok9 is9 hl9 hdn9) ?j1 ?j2 ?j3 ?j4 ?ju ?j6 ?jK ?jr ?jd ?jv ?_
  case j1 => k_asm
  case j2 => k_asm
  case j3 => k_asm
  case j4 => k_asm
  case ju => k_updF
  case j6 => k_asm
  case jK => rfl
  case jr => exact List.forall_mem_cons.mpr ⟨⟨News.get (by k_asm) (by k_mem), by k_ne⟩, List.forall_mem_cons.mpr ⟨⟨News.get (by k_asm) (by k_mem), by k_ne⟩, List.forall_mem_cons.mpr ⟨⟨Fr.keep (by k_asm) _ _ r1, gneN r1 (by k_asm) (by k_mem)⟩, List.forall_mem_cons.mpr ⟨⟨News.get (by k_asm) (by k_mem), by k_ne⟩, fun _ h => nomatch h⟩⟩⟩⟩
  case jd => ktr_room
  case jv => ktr_units
  refine rM ?_; intro vs8 e8 is8 h8 tk8 _ F8 N8
  dsimp only [List.nil_append] at N8
  have hl8 : (mendV S.cs S.us S.size S.total (initV S.cs S.size S.total)).length = S.cs.length := (mendV_length _ _ _ _ _).trans hl9
  k_with_none
  k_with "call ref" => ((k_here; (with_reducible show wpAny _ _ (call (Value.ref 278) _) _ _ _); k_dflt (refine' use0 (lack_call ?q1 ?q2 ?q3 ?q4) ?k1 ?k2 ?k3 ?k4 ?k6 ?kK ?kr ?kd ?ku ?_; (case k1 => k_asm); (case k2 => k_asm); (case k3 => k_asm); (case k4 => k_asm); (case k6 => k_asm); (case kK => first | exact rfl | assumption); (case kr => tb_rel); (case q1 => assumption); (case q2 => assumption); (case q3 => assumption); (case q4 => first | assumption | (refine SD.Ok.hus ?_ _ ?_ <;> assumption)); (case kd => ktr_room); (case ku => ktr_units); k_whole; refine rA ?_; intro t9 h9 tk9 _ F9 N9; (dsimp only [List.nil_append] at N9); (try k_sweep))))
  k_with "call ref" => ((k_here; (with_reducible show wpAny _ _ (call (Value.ref 285) _) _ _ _); k_dflt (refine' use0 (most_call ?q1 ?q2 ?q3) ?k1 ?k2 ?k3 ?k4 ?k6 ?kK ?kr ?kd ?ku ?_; (case k1 => k_asm); (case k2 => k_asm); (case k3 => k_asm); (case k4 => k_asm); (case k6 => k_asm); (case kK => first | exact rfl | assumption); (case kr => tb_rel); (case q1 => assumption); (case q2 => assumption); (case q3 => assumption); (case kd => ktr_room); (case ku => ktr_units); k_whole; refine rA ?_; intro t9 h9 tk9 _ F9 N9; (dsimp only [List.nil_append] at N9); (try k_sweep))))
  k_with "call ref" => ((k_here; (with_reducible show wpAny _ _ (call (Value.ref 292) _) _ _ _); k_dflt (refine' use0 (least_call' ?q1 ?q2 ?q3 ?q4) ?k1 ?k2 ?k3 ?k4 ?k6 ?kK ?kr ?kd ?ku ?_; (case k1 => k_asm); (case k2 => k_asm); (case k3 => k_asm); (case k4 => k_asm); (case k6 => k_asm); (case kK => first | exact rfl | assumption); (case kr => tb_rel); (case q1 => assumption); (case q2 => assumption); (case q3 => assumption); (case q4 => assumption); (case kd => ktr_room); (case ku => ktr_units); k_whole; refine rA ?_; intro t9 h9 tk9 _ F9 N9; (dsimp only [List.nil_append] at N9); (try k_sweep))))
  k_steps
  dsimp only [List.cons_append, List.nil_append]
  refine' use0 (told_call ok9 is8 hl8) ?i1 ?i2 ?i3 ?i4 ?i6 ?iK ?ir ?id ?iv ?_
  case i1 => k_asm
  case i2 => k_asm
  case i3 => k_asm
  case i4 => k_asm
  case i6 => k_asm
  case iK => rfl
  case ir => tb_rel
  case id => ktr_room
  case iv => ktr_units
  refine rC ?_; intro d7 vs7 k7 is7 h7 tk7 off7 F7 N7
  dsimp only [List.cons_append, List.nil_append] at N7
  k_with_none
  k_with "call ref" => ((k_here; (with_reducible show wpAny _ _ (call (Value.ref 278) _) _ _ _); k_dflt (refine' use0 (lack_call ?q1 ?q2 ?q3 ?q4) ?k1 ?k2 ?k3 ?k4 ?k6 ?kK ?kr ?kd ?ku ?_; (case k1 => k_asm); (case k2 => k_asm); (case k3 => k_asm); (case k4 => k_asm); (case k6 => k_asm); (case kK => first | exact rfl | assumption); (case kr => tb_rel); (case q1 => assumption); (case q2 => assumption); (case q3 => assumption); (case q4 => first | assumption | (refine SD.Ok.hus ?_ _ ?_ <;> assumption)); (case kd => ktr_room); (case ku => ktr_units); k_whole; refine rA ?_; intro t9 h9 tk9 _ F9 N9; (dsimp only [List.nil_append] at N9); (try k_sweep))))
  k_with "call ref" => ((k_here; (with_reducible show wpAny _ _ (call (Value.ref 285) _) _ _ _); k_dflt (refine' use0 (most_call ?q1 ?q2 ?q3) ?k1 ?k2 ?k3 ?k4 ?k6 ?kK ?kr ?kd ?ku ?_; (case k1 => k_asm); (case k2 => k_asm); (case k3 => k_asm); (case k4 => k_asm); (case k6 => k_asm); (case kK => first | exact rfl | assumption); (case kr => tb_rel); (case q1 => assumption); (case q2 => assumption); (case q3 => assumption); (case kd => ktr_room); (case ku => ktr_units); k_whole; refine rA ?_; intro t9 h9 tk9 _ F9 N9; (dsimp only [List.nil_append] at N9); (try k_sweep))))
  k_with "call ref" => ((k_here; (with_reducible show wpAny _ _ (call (Value.ref 292) _) _ _ _); k_dflt (refine' use0 (least_call' ?q1 ?q2 ?q3 ?q4) ?k1 ?k2 ?k3 ?k4 ?k6 ?kK ?kr ?kd ?ku ?_; (case k1 => k_asm); (case k2 => k_asm); (case k3 => k_asm); (case k4 => k_asm); (case k6 => k_asm); (case kK => first | exact rfl | assumption); (case kr => tb_rel); (case q1 => assumption); (case q2 => assumption); (case q3 => assumption); (case q4 => assumption); (case kd => ktr_room); (case ku => ktr_units); k_whole; refine rA ?_; intro t9 h9 tk9 _ F9 N9; (dsimp only [List.nil_append] at N9); (try k_sweep))))
  k_steps
  refine fin (muts' := []) (ex := [(d7, listOf vs7.toArray k7)]) hret keep (by assumption) (by assumption) (by assumption) (by assumption) (by intro z hz; rw [List.mem_singleton.mp hz]; exact .head _) (by intro z hz; rw [List.mem_singleton.mp hz]; exact .head _) (fun _ _ => List.not_mem_nil) ⟨rfl, _, _, _, rfl, rfl, ?_⟩
  have e7 : normF S.cs log = toldV S.cs (mendV S.cs S.us S.size S.total (initV S.cs S.size S.total)) S.size S.total := by rw [hu9, hs9, ht9]; rfl
  rw [e7]; exact is7

theorem fresh_Cfig : True := by
  k_with_none
  w_top off
  trivial
theorem figure_call {w : World} {p : Addr} {V M : Int} {t tM : Tok} {ep : Nat} (hN : 0 ≤ V) (hM : 0 < M) (hM2 : M < 1000) :
    Call w 393 [.ref p, .int M tM] 1 8 [] [(p, listOf #[.int V t] ep)] (P1 p fun r o' ex => ∃ t1 t2 ep', ex = [] ∧ o' = listOf #[.int (V / M) t1] ep' ∧ r = .int (V % M) t2) := by
  k_with_none
  unfold Call
  k_fill
  intro dp un gd cn sc a ccd cl outer A₀ base h₀ L m
  refine ps5 ?_
  intro sH0 sG0 sD0 sT0 sO0 loose mean mg mb Q B F X N T hk hrd hd1 hu hret
  (try dsimp only at F)
  (try dsimp only at N)
  (try dsimp only at hrd)
  (try dsimp only at hret)
  k_dflt (refine' enterR ?k1 ?k2 ?k3 ?k4 ?k5 ?kA ?kF ?kK ?k6 ?k7 ?k8 ?k9 ?kB ?_ ?c2 ?c3 ?c4 ?c5; (case kA => exact rfl); (case kF => exact rfl); (case kK => assumption); (case k1 => k_asm); (case k2 => k_asm); (case k3 => k_asm); (case k4 => k_asm); (case k5 => k_asm); (case k6 => k_is); (case k7 => k_is); (case k8 => ktr_room); (case k9 => first | exact BindsTo.of_eq rfl | exact binds_K (by k_in) rfl (by k_is) rfl rfl rfl); (case c5 => decide); (case kB => exact locs rfl); (case c2 => exact rfl); (case c3 => exact rfl); (case c4 => exact rfl); k_whole)
  intro g L1 h1 FG F1 N1 B1 X1 T1 keep hlt
  (try dsimp only)
  (try ((try change wpAny _ _ _ _ _ _); k_fold))
  k_steps
  exact fin (muts' := [(p, _)]) (ex := []) hret keep (by assumption) (by assumption) (by assumption) (by assumption) (fun _ h => h) (fun _ h => nomatch h) (fun _ h => nomatch h) ⟨_, rfl, _, _, _, rfl, congrArg (fun z => listOf #[Value.int z _] _) (Int.fdiv_eq_ediv_of_nonneg V (Int.le_of_lt hM)), congrArg (fun z => Value.int z _) (Int.fmod_eq_emod_of_nonneg V (Int.le_of_lt hM))⟩
/-- what the law's counts are like -/
structure Good (cs : List Int) : Prop where
  len : cs.length ≤ 32
  each : ∀ c ∈ cs, 0 ≤ c ∧ c ≤ 449
  last : ∃ xs c, cs = xs ++ [c] ∧ 0 < c

theorem good_a {xs : List Int} (h1 : xs.length = 32) (h2 : ∀ x ∈ xs, 1 ≤ x ∧ x ≤ 4) : Good xs := by
  refine ⟨by omega, fun c hc => by have := h2 c hc; omega, ?_⟩
  have hne : xs ≠ [] := fun q => by rw [q] at h1; cases h1
  refine ⟨xs.dropLast, xs.getLast hne, (List.dropLast_concat_getLast hne).symm, ?_⟩
  have := h2 _ (List.getLast_mem hne); omega
theorem snoc_all {xs : List Int} {y : Int} {P : Int → Prop} (h : ∀ x ∈ xs, P x) (hy : P y) : ∀ x ∈ xs ++ [y], P x := fun x hx => by
  rcases List.mem_append.mp hx with hx | hx
  · exact h x hx
  · rw [List.mem_singleton.mp hx]; exact hy
theorem good_b {xs : List Int} {c : Int} (h1 : xs.length ≤ 9) (h2 : ∀ x ∈ xs, 0 ≤ x ∧ x ≤ 449) (hc : 0 < c ∧ c ≤ 449) : Good (xs ++ [c]) := ⟨by simp; omega, snoc_all h2 (by omega), xs, c, rfl, hc.1⟩
theorem given_call {w : World} {p : Addr} {V : Int} {t : Tok} {ep : Nat} (hN : 0 ≤ V) :
    Call w 398 [.ref p] 3 24 [] [(p, listOf #[.int V t] ep)] (P1 p fun r o' ex => ∃ V' t' ep' d vs cs k, 0 ≤ V' ∧ o' = listOf #[.int V' t'] ep' ∧ r = .ref d ∧ ex = [(d, listOf vs.toArray k)] ∧ IntsAre vs cs ∧ Good cs) := by
  k_with_none
  k_with "call ref" => ((k_here; (with_reducible show wpAny _ _ (call (Value.ref 393) _) _ _ _); k_dflt (refine' use1 (figure_call ?q1 ?q2 ?q3) ?k1 ?k2 ?k3 ?k4 ?k5 ?k6 ?kK ?kr ?kd ?ku ?_; (case k1 => k_asm); (case k2 => k_asm); (case k3 => k_asm); (case k4 => k_asm); (case k5 => k_updF); (case k6 => k_asm); (case kK => first | exact rfl | assumption); (case kr => exact List.forall_mem_nil _); (case q1 => first | assumption | omega); (case q2 => omega); (case q3 => omega); (case kd => ktr_room); (case ku => ktr_units); k_whole; refine rD ?_; intro t1 t2 ep9 h9 tk9 _ F9 N9; (dsimp only [List.nil_append] at N9); (try k_sweep))))
  unfold Call
  k_fill
  intro dp un gd cn sc a ccd cl outer A₀ base h₀ L m
  refine ps5 ?_
  intro sH0 sG0 sD0 sT0 sO0 loose mean mg mb Q B F X N T hk hrd hd1 hu hret
  (try dsimp only at F)
  (try dsimp only at N)
  (try dsimp only at hrd)
  (try dsimp only at hret)
  k_dflt (refine' enterRC ?k1 ?k2 ?k3 ?k4 ?k5 ?kA ?kF ?kK ?k6 ?k7 ?k8 ?k9 ?kB ?kD ?_ ?c2 ?c3 ?c4; (case kA => exact rfl); (case kF => exact rfl); (case kK => assumption); (case k1 => k_asm); (case k2 => k_asm); (case k3 => k_asm); (case k4 => k_asm); (case k5 => k_asm); (case k6 => k_is); (case k7 => k_is); (case k8 => ktr_room); (case k9 => first | exact BindsTo.of_eq rfl | exact binds_K (by k_in) rfl (by k_is) rfl rfl rfl); (case kB => exact rfl); (case kD => decide +kernel); (case c2 => exact rfl); (case c3 => exact rfl); (case c4 => exact rfl); k_whole)
  intro g L1 h1 tk1 cells1 FG F1 N1 Y1 B1 X1 T1 keep hlt
  k_cells Y1
  (try dsimp only [List.cons_append, List.nil_append] at N1)
  (try dsimp only)
  (try ((try change wpAny _ _ _ _ _ _); k_fold))
  have hp9 : @LT.lt Nat _ p L1 := hlt _ (.head _)
  clear hrd hlt
  k_with "pyIter ref" => refine hold ?_
  k_steps
  · refine go ?_
    refine cr_src (σ := (Int × Tok × Nat) × List Int) (fun c => [(L1 + 1, _), (p, listOf #[.int c.1.1 c.1.2.1] c.1.2.2)]) (fun i ys c => 0 ≤ c.1.1 ∧ IntsAre ys c.2 ∧ c.2.length = i ∧ ∀ x ∈ c.2, 1 ≤ x ∧ x ≤ 4) ((V / 5, _, _), []) (by rfl) (by assumption) (by decide) (by rfl) (by decide) (by k_asm) (by k_asm) ⟨Int.ediv_nonneg hN (by decide), .nil, rfl, fun _ h => nomatch h⟩ (fun _ _ => rfl) ?turn ?done
    case' turn =>
      (first | (refine rE ?_; intro g1 i; refine pz2 ?_; intro V1 t1 e1 xs tv ys I oI C oC D m₂ h tk E' hi; refine an_pppp ?_; intro hV1 hi1 hl1 hx1 hC ha kFr kNews off ne) | (rintro _ ⟨g1, rfl⟩ i ⟨⟨V1, t1, e1⟩, xs⟩ tv ys I oI C oC D m₂ h tk E' hi ⟨hV1, hi1, hl1, hx1⟩ hC ha kFr kNews off ne))
      dsimp only at hV1 hi1 hl1 hx1 kNews off
      simp only [LCg.Off3, and_true] at off
    case' done =>
      (first | (refine rE ?_; intro g1 ys; refine pz2 ?_; intro V1 t1 e1 xs; refine an_pppp ?_; intro hV1 hi1 hl1 hx1) | (rintro _ ⟨g1, rfl⟩ ys ⟨⟨V1, t1, e1⟩, xs⟩ ⟨hV1, hi1, hl1, hx1⟩))
      dsimp only at hV1 hi1 hl1 hx1
    all_goals (try ((try change wpAny _ _ _ _ _ _); k_fold))
    k_with_none
    k_with "call ref" => ((k_here; (with_reducible show wpAny _ _ (call (Value.ref 393) _) _ _ _); k_dflt (refine' use1 (figure_call ?q1 ?q2 ?q3) ?k1 ?k2 ?k3 ?k4 ?k5 ?k6 ?kK ?kr ?kd ?ku ?_; (case k1 => k_asm); (case k2 => k_asm); (case k3 => k_asm); (case k4 => k_asm); (case k5 => k_updF); (case k6 => k_asm); (case kK => first | exact rfl | assumption); (case kr => exact List.forall_mem_nil _); (case q1 => first | assumption | omega); (case q2 => omega); (case q3 => omega); (case kd => ktr_room); (case ku => ktr_units); k_whole; refine rD ?_; intro t1 t2 ep9 h9 tk9 _ F9 N9; (dsimp only [List.nil_append] at N9); (try k_sweep))))
    k_steps
    · refine' fin (muts' := [(p, _)]) (ex := [(_, listOf ys.toArray _)]) hret keep (by assumption) (by assumption) (by assumption) (by assumption) (List.forall_mem_cons.mpr ⟨.head _, List.forall_mem_cons.mpr ⟨.tail _ (.tail _ (.head _)), fun _ h => nomatch h⟩⟩) (List.forall_mem_cons.mpr ⟨.head _, fun _ h => nomatch h⟩) ?e3 ⟨_, rfl, V1, t1, e1, _, ys, xs, _, hV1, rfl, rfl, rfl, hi1, good_a hl1 hx1⟩
      case e3 => exact List.forall_mem_cons.mpr ⟨fun q => absurd (List.mem_singleton.mp q) (by k_ne), fun _ h => nomatch h⟩
    · exact ps_end ((V1 / 4, _, _), xs ++ [1 + V1 % 4]) (by assumption) (by assumption) ⟨Int.ediv_nonneg hV1 (by decide), ints_snoc hi1 _ _, by simp [hl1], fun x hx => by
        rcases List.mem_append.mp hx with hx | hx
        · exact hx1 x hx
        · rw [List.mem_singleton.mp hx]; omega⟩
  refine go ?_
  rename Fr _ _ _ _ => lF'
  rename News _ _ _ _ => lN'
  rename IsRange _ _ _ _ _ _ _ _ => rgX
  with_unfolding_all refine' kst_range (σ := (Int × Tok × Nat) × (List Value × List Int × Nat)) (fun c => [(_, listOf c.2.1.toArray c.2.2.2), (L1 + 1, _), (p, listOf #[.int c.1.1 c.1.2.1] c.1.2.2)]) (fun _ => []) (fun c => IntsAre c.2.1 c.2.2.1) [Str.ofString "way"] (fun pre c => 0 ≤ c.1.1 ∧ c.2.2.1.length = pre.length ∧ ∀ x ∈ c.2.2.1, 0 ≤ x ∧ x ≤ 449) ((V / 5 / 9, _, _), ([], [], 0)) (by rfl) rgX (small_one (by omega) (by omega) (by omega) (by omega)) (rangeSize_nat _ _) lF' lN' .nil (fun _ h => nomatch h) ⟨Int.ediv_nonneg (Int.ediv_nonneg hN (by decide)) (by decide), rfl, fun _ h => nomatch h⟩ ?turn4 ?done4
  case' turn4 =>
    (first | (refine pz3 ?_; intro V1 t1 e1 vs3 xs k3 pre k t4 u h tk own heq hlt hoff hs3; refine an_ppp ?_; intro hV1 hl3 hx3 kFr kNews) | (rintro ⟨⟨V1, t1, e1⟩, ⟨vs3, xs, k3⟩⟩ pre k t4 u h tk own heq hlt hoff hs3 ⟨hV1, hl3, hx3⟩ kFr kNews))
    clear lF' lN' rgX
    dsimp only [kstB] at kFr
    dsimp only at kNews hs3 hV1 hl3 hx3
    dsimp only [List.cons_append, List.nil_append] at kNews
    try ((try change wpAny _ _ _ _ _ _); k_fold)
  case' done4 =>
    (first | (refine pz3 ?_; intro V1 t1 e1 vs3 xs k3 u h tk hs3; refine an_ppp ?_; intro hV1 hl3 hx3 kFr kNews) | (rintro ⟨⟨V1, t1, e1⟩, ⟨vs3, xs, k3⟩⟩ u h tk hs3 ⟨hV1, hl3, hx3⟩ kFr kNews))
    clear lF' lN' rgX
    dsimp only [kstB] at kFr
    dsimp only at kNews hs3 hV1 hl3 hx3
    have hl4 : xs.length ≤ 9 := by rw [hl3, rangeKs_length]; omega
    try ((try change wpAny _ _ _ _ _ _); k_fold)
  k_with_none
  k_with "call ref" => ((k_here; (with_reducible show wpAny _ _ (call (Value.ref 393) _) _ _ _); k_dflt (refine' use1 (figure_call ?q1 ?q2 ?q3) ?k1 ?k2 ?k3 ?k4 ?k5 ?k6 ?kK ?kr ?kd ?ku ?_; (case k1 => k_asm); (case k2 => k_asm); (case k3 => k_asm); (case k4 => k_asm); (case k5 => k_updF); (case k6 => k_asm); (case kK => first | exact rfl | assumption); (case kr => exact List.forall_mem_nil _); (case q1 => first | assumption | omega); (case q2 => omega); (case q3 => omega); (case kd => ktr_room); (case ku => ktr_units); k_whole; refine rD ?_; intro t1 t2 ep9 h9 tk9 _ F9 N9; (dsimp only [List.nil_append] at N9); (try k_sweep))))
  k_steps
  all_goals (try (rename News _ _ _ _ => nE; simp only [List.push_toArray] at nE))
  · rename IntsAre _ (_ ++ _) => hI9
    refine' fin (muts' := [(p, _)]) (ex := [(_, listOf _ _)]) hret keep (by assumption) (by assumption) (by assumption) (by assumption) (List.forall_mem_cons.mpr ⟨.head _, List.forall_mem_cons.mpr ⟨.tail _ (.tail _ (.tail _ (.tail _ (.head _)))), fun _ h => nomatch h⟩⟩) (List.forall_mem_cons.mpr ⟨.head _, fun _ h => nomatch h⟩) ?e4 ⟨_, rfl, V1 / 300, _, _, _, _, _, _, Int.ediv_nonneg hV1 (by decide), rfl, rfl, rfl, hI9, good_b hl4 hx3 (by omega)⟩
    case e4 => exact List.forall_mem_cons.mpr ⟨fun q => absurd (List.mem_singleton.mp q) (by k_ne), fun _ h => nomatch h⟩
  · refine kst_end ((V1 / 4, _, _), (vs3 ++ [.int 0 _], xs ++ [0], _)) (by assumption) (by assumption) (fun p hp => List.mem_append_left own hp) (fun p hp => List.mem_append_right [_, _, _] hp) rfl (ints_snoc hs3 _ _) (fun _ h => nomatch h) (by kst_same) ⟨Int.ediv_nonneg hV1 (by decide), by simp [hl3], snoc_all hx3 (by omega)⟩
  · refine kst_end ((V1 / 4 / 400, _, _), (vs3 ++ [.int (50 + V1 / 4 % 400) _], xs ++ [50 + V1 / 4 % 400], _)) (by assumption) (by assumption) (fun p hp => List.mem_append_left own hp) (fun p hp => List.mem_append_right [_, _, _] hp) rfl (ints_snoc hs3 _ _) (fun _ h => nomatch h) (by kst_same) ⟨Int.ediv_nonneg (Int.ediv_nonneg hV1 (by decide)) (by decide), by simp [hl3], snoc_all hx3 (by omega)⟩
  · refine kst_end ((V1 / 4 / 9, _, _), (vs3 ++ [.int (1 + V1 / 4 % 9) _], xs ++ [1 + V1 / 4 % 9], _)) (by assumption) (by assumption) (fun p hp => List.mem_append_left own hp) (fun p hp => List.mem_append_right [_, _, _] hp) rfl (ints_snoc hs3 _ _) (fun _ h => nomatch h) (by kst_same) ⟨Int.ediv_nonneg (Int.ediv_nonneg hV1 (by decide)) (by decide), by simp [hl3], snoc_all hx3 (by omega)⟩
  · refine kst_end ((V1 / 4 / 3, _, _), (vs3 ++ [.int (1 + V1 / 4 % 3) _], xs ++ [1 + V1 / 4 % 3], _)) (by assumption) (by assumption) (fun p hp => List.mem_append_left own hp) (fun p hp => List.mem_append_right [_, _, _] hp) rfl (ints_snoc hs3 _ _) (fun _ h => nomatch h) (by kst_same) ⟨Int.ediv_nonneg (Int.ediv_nonneg hV1 (by decide)) (by decide), by simp [hl3], snoc_all hx3 (by omega)⟩

theorem fresh_Clacks : True := by
  k_with_none
  w_top off
  trivial
noncomputable def absI (v : Int) : Int := if v < 0 then -v else v
noncomputable def lacksV (cs ts : List Int) (size : Int) : List Int := (cs.zip ts).filterMap fun p => if p.1 > 0 then some (p.1 * size - absI p.2 * cs.sum) else none
theorem lacks_call {w : World} {l1 l2 : Addr} {v1 v2 : List Value} {n1 n2 : Nat} {cs ts : List Int} {size : Int} {t : Tok} (i1 : IntsAre v1 cs) (i2 : IntsAre v2 ts) (hlen : cs.length < 1000) (hb : ∀ c ∈ cs, 0 ≤ c ∧ c ≤ 10000) (hb2 : ∀ c ∈ ts, -1000 ≤ c ∧ c ≤ 1000) (hs : 0 ≤ cs.sum ∧ cs.sum ≤ 10000000) (hsz : 0 ≤ size ∧ size ≤ 1000) :
    Call w 403 [.ref l1, .ref l2, .int size t] 3 24 [(l1, listOf v1.toArray n1), (l2, listOf v2.toArray n2)] [] (P0 fun r ex => ∃ d vs k, ex = [(d, listOf vs.toArray k)] ∧ r = .ref d ∧ IntsAre vs (lacksV cs ts size)) := by
  k_with_none
  unfold Call
  k_fill
  intro dp un gd cn sc a ccd cl outer A₀ base h₀ L m
  refine ps5 ?_
  intro sH0 sG0 sD0 sT0 sO0 loose mean mg mb Q B F X N T hk hrd hd1 hu hret
  (try dsimp only at F)
  (try dsimp only at N)
  (try dsimp only at hrd)
  (try dsimp only at hret)
  k_dflt (refine' enterRC ?k1 ?k2 ?k3 ?k4 ?k5 ?kA ?kF ?kK ?k6 ?k7 ?k8 ?k9 ?kB ?kD ?_ ?c2 ?c3 ?c4; (case kA => exact rfl); (case kF => exact rfl); (case kK => assumption); (case k1 => k_asm); (case k2 => k_asm); (case k3 => k_asm); (case k4 => k_asm); (case k5 => k_asm); (case k6 => k_is); (case k7 => k_is); (case k8 => ktr_room); (case k9 => first | exact BindsTo.of_eq rfl | exact binds_K (by k_in) rfl (by k_is) rfl rfl rfl); (case kB => exact rfl); (case kD => decide +kernel); (case c2 => exact rfl); (case c3 => exact rfl); (case c4 => exact rfl); k_whole)
  intro g L1 h1 tk1 cells1 FG F1 N1 Y1 B1 X1 T1 keep hlt
  k_cells Y1
  (try dsimp only [List.cons_append, List.nil_append] at N1)
  (try dsimp only)
  (try ((try change wpAny _ _ _ _ _ _); k_fold))
  have R : ∀ z ∈ [(l1, listOf v1.toArray n1), (l2, listOf v2.toArray n2)], g.get? z.1 = some z.2 := fun x hx => keep _ _ (hrd x hx).2 (hrd x hx).1
  have r1 := R _ (.head _)
  try dsimp only at r1
  have r2 := R _ (.tail _ (.head _))
  try dsimp only at r2
  clear R
  have L2 : g.IsList l1 v1.toArray := ⟨_, r1, rfl, _, rfl⟩
  have L3 : g.IsList l2 v2.toArray := ⟨_, r2, rfl, _, rfl⟩
  clear hrd hlt
  k_with "call type:zip" => refine hold ?_
  k_steps
  refine go ?_
  refine pc_zip (by rfl) (L2.at fun o e => Fr.keep (by k_asm) _ o e) (L3.at fun o e => Fr.keep (by k_asm) _ o e) i1 i2 (by k_asm) (by k_asm) (groundNe r1 (by k_asm)) (groundNe r2 (by k_asm)) (by omega) (fun c sh => if c > 0 then some (c * size - absI sh * cs.sum) else none) ?turn ?done
  case' turn =>
    (first | (refine rE ?_; intro g1 i v ti tv zs C oC D m₂ h tk own E' hmem hC ha hb' kFr kNews) | (rintro _ ⟨g1, rfl⟩ i v ti tv zs C oC D m₂ h tk own E' hmem hC ha hb' kFr kNews))
    have hm1 := hb _ (List.of_mem_zip hmem).1
    have hm2 := hb2 _ (List.of_mem_zip hmem).2
  case' done => (first | (refine rE ?_; intro g1 vs1 hvs1) | (rintro _ ⟨g1, rfl⟩ vs1 hvs1))
  all_goals (try ((try change wpAny _ _ _ _ _ _); k_fold))
  k_with_none
  k_steps
  · refine' fin (muts' := []) (ex := [(_, listOf vs1.toArray _)]) hret keep (by assumption) (by assumption) (by assumption) (by assumption) (List.forall_mem_cons.mpr ⟨.head _, fun _ h => nomatch h⟩) (List.forall_mem_cons.mpr ⟨.head _, fun _ h => nomatch h⟩) (fun _ _ => List.not_mem_nil) ⟨rfl, _, vs1, _, rfl, rfl, hvs1⟩
  · exact pc_end (by assumption) (by assumption) ⟨_, _, if_pos (by omega), rfl⟩
  · exact pc_end (by assumption) (by assumption) (if_neg (by omega))

noncomputable def wholeV (cs : List Int) (size : Int) : List Int := cs.map fun c => if c > 0 then max 1 (c * size / cs.sum) else 0
theorem whole_of {c size total : Int} (hc : c > 0) (ht : 0 < total) : (if (c * size).fdiv total > 1 then (c * size).fdiv total else 1) = (if c > 0 then max 1 (c * size / total) else 0) := by
  rw [if_pos hc, ← Int.fdiv_eq_ediv_of_nonneg _ (Int.le_of_lt ht)]
  generalize (c * size).fdiv total = q
  omega
theorem whole_of0 {c size total : Int} (hc : ¬ c > 0) : 0 = (if c > 0 then max 1 (c * size / total) else 0) := by rw [if_neg hc]
theorem whole_call {w : World} {l1 : Addr} {v1 : List Value} {n1 : Nat} {cs : List Int} {size : Int} {t : Tok} (i1 : IntsAre v1 cs) (hlen : cs.length < 1000) (hb : ∀ c ∈ cs, 0 ≤ c ∧ c ≤ 10000) (hs : 0 < cs.sum ∧ cs.sum ≤ 10000000) (hsz : 0 ≤ size ∧ size ≤ 1000) :
    Call w 408 [.ref l1, .int size t] 3 24 [(l1, listOf v1.toArray n1)] [] (P0 fun r ex => ∃ d vs k, ex = [(d, listOf vs.toArray k)] ∧ r = .ref d ∧ IntsAre vs (wholeV cs size)) := by
  k_with_none
  unfold Call
  k_fill
  intro dp un gd cn sc a ccd cl outer A₀ base h₀ L m
  refine ps5 ?_
  intro sH0 sG0 sD0 sT0 sO0 loose mean mg mb Q B F X N T hk hrd hd1 hu hret
  (try dsimp only at F)
  (try dsimp only at N)
  (try dsimp only at hrd)
  (try dsimp only at hret)
  k_dflt (refine' enterRC ?k1 ?k2 ?k3 ?k4 ?k5 ?kA ?kF ?kK ?k6 ?k7 ?k8 ?k9 ?kB ?kD ?_ ?c2 ?c3 ?c4; (case kA => exact rfl); (case kF => exact rfl); (case kK => assumption); (case k1 => k_asm); (case k2 => k_asm); (case k3 => k_asm); (case k4 => k_asm); (case k5 => k_asm); (case k6 => k_is); (case k7 => k_is); (case k8 => ktr_room); (case k9 => first | exact BindsTo.of_eq rfl | exact binds_K (by k_in) rfl (by k_is) rfl rfl rfl); (case kB => exact rfl); (case kD => decide +kernel); (case c2 => exact rfl); (case c3 => exact rfl); (case c4 => exact rfl); k_whole)
  intro g L1 h1 tk1 cells1 FG F1 N1 Y1 B1 X1 T1 keep hlt
  k_cells Y1
  (try dsimp only [List.cons_append, List.nil_append] at N1)
  (try dsimp only)
  (try ((try change wpAny _ _ _ _ _ _); k_fold))
  have R : ∀ z ∈ [(l1, listOf v1.toArray n1)], g.get? z.1 = some z.2 := fun x hx => keep _ _ (hrd x hx).2 (hrd x hx).1
  have r1 := R _ (.head _)
  try dsimp only at r1
  clear R
  have L2 : g.IsList l1 v1.toArray := ⟨_, r1, rfl, _, rfl⟩
  obtain ⟨hs1, hs2⟩ := hs
  clear hrd hlt
  k_steps
  refine go ?_
  refine c0_src (by rfl) (by k_asm) (by k_asm) (.inl L2) i1 (by omega) (fun c => if c > 0 then max 1 (c * size / cs.sum) else 0) ?turn ?done
  case' turn =>
    (first | (refine rE ?_; intro g1 v tv zs I oI C oC D m₂ h tk E' hmem hC ha kFr kNews) | (rintro _ ⟨g1, rfl⟩ v tv zs I oI C oC D m₂ h tk E' hmem hC ha kFr kNews))
    have hm1 := hb _ hmem
  case' done => (first | (refine rE ?_; intro g1 vs1 hvs1) | (rintro _ ⟨g1, rfl⟩ vs1 hvs1))
  all_goals (try ((try change wpAny _ _ _ _ _ _); k_fold))
  k_with_none
  k_steps
  · refine' fin (muts' := []) (ex := [(_, listOf vs1.toArray _)]) hret keep (by assumption) (by assumption) (by assumption) (by assumption) (List.forall_mem_cons.mpr ⟨.head _, fun _ h => nomatch h⟩) (List.forall_mem_cons.mpr ⟨.head _, fun _ h => nomatch h⟩) (fun _ _ => List.not_mem_nil) ⟨rfl, _, vs1, _, rfl, rfl, hvs1⟩
  · exact pc_end (by assumption) (by assumption) ⟨_, congrArg (fun z => Value.int z _) (whole_of (by omega) hs1)⟩
  · exact pc_end (by assumption) (by assumption) ⟨_, congrArg (fun z => Value.int z _) (whole_of0 (by omega))⟩

theorem fresh_Ctr : True := by
  k_with_none
  w_top off
  trivial
/-- what told_right asks -/
structure ToldOk (cs ts : List Int) (size : Int) : Prop where
  len : ts.length = cs.length
  sum : (ts.map absI).sum = size
  at_ : ∀ p ∈ cs.zip ts, (p.2 = 0 ↔ p.1 = 0) ∧ -1 ≤ p.2 ∧ (p.2 = -1 ↔ (absI p.2 = 1 ∧ p.1 * size < cs.sum)) ∧ ∀ q ∈ cs.zip ts, q.1 > p.1 → absI p.2 ≤ absI q.2

theorem tr1 {a b : Int} (h : a = 0 ↔ b = 0) : ((a == 0) != (b == 0)) = false := by
  rw [bne_eq_false_iff_eq, Bool.eq_iff_iff, beq_iff_eq, beq_iff_eq]; exact h
theorem tr2 {sh : Int} {P : Prop} [Decidable P] (h : sh = -1 ↔ (absI sh = 1 ∧ P)) (h1 : absI sh = 1) : ((sh == -1) != decide P) = false := by
  rw [bne_eq_false_iff_eq, Bool.eq_iff_iff, beq_iff_eq, decide_eq_true_eq]; exact ⟨fun e => (h.mp e).2, fun e => h.mpr ⟨h1, e⟩⟩
theorem tr3 {sh : Int} {P : Prop} (h : sh = -1 ↔ (absI sh = 1 ∧ P)) (h1 : absI sh ≠ 1) : ((sh == -1) != (absI sh == 1)) = false := by
  rw [bne_eq_false_iff_eq, Bool.eq_iff_iff, beq_iff_eq, beq_iff_eq]; exact ⟨fun e => (h.mp e).1, fun e => absurd e h1⟩
theorem tr_call {w : World} {l1 l2 : Addr} {v1 v2 : List Value} {n1 n2 : Nat} {cs ts : List Int} {size : Int} {t : Tok} (i1 : IntsAre v1 cs) (i2 : IntsAre v2 ts) (hlen : cs.length < 1000) (hb : ∀ c ∈ cs, 0 ≤ c ∧ c ≤ 10000) (hb2 : ∀ c ∈ ts, -1000 ≤ c ∧ c ≤ 1000) (hs : 0 < cs.sum ∧ cs.sum ≤ 10000000) (hsz : 0 ≤ size ∧ size ≤ 1000) (ok : ToldOk cs ts size) :
    Call w 413 [.ref l1, .ref l2, .int size t] 3 200 [(l1, listOf v1.toArray n1), (l2, listOf v2.toArray n2)] [] (P0 fun r ex => ex = [] ∧ r = .bool true) := by
  k_with_none
  k_with "call ref" => ((k_here; (with_reducible show wpAny _ _ (call (Value.ref 403) _) _ _ _); k_dflt (refine' use0 (lacks_call ?q1 ?q2 ?q3 ?q4 ?q5 ?q6 ?q7) ?k1 ?k2 ?k3 ?k4 ?k6 ?kK ?kr ?kd ?ku ?_; (case k1 => k_asm); (case k2 => k_asm); (case k3 => k_asm); (case k4 => k_asm); (case k6 => k_asm); (case kK => first | exact rfl | assumption); (case kr => tb_rel); (case q1 => assumption); (case q2 => assumption); (case q3 => first | assumption | omega | (constructor <;> omega)); (case q4 => assumption); (case q5 => assumption); (case q6 => first | assumption | omega | (constructor <;> omega)); (case q7 => first | assumption | omega | (constructor <;> omega)); (case kd => ktr_room); (case ku => ktr_units); k_whole; refine rC ?_; intro d9 vs9 k9 hi9 h9 tk9 off9 F9 N9; (dsimp only [List.cons_append, List.nil_append] at N9); (simp only [Offs, LCg.Off1, and_true] at off9); (try k_sweep))))
  k_with "call ref" => ((k_here; (with_reducible show wpAny _ _ (call (Value.ref 408) _) _ _ _); k_dflt (refine' use0 (whole_call ?q1 ?q2 ?q3 ?q4 ?q5) ?k1 ?k2 ?k3 ?k4 ?k6 ?kK ?kr ?kd ?ku ?_; (case k1 => k_asm); (case k2 => k_asm); (case k3 => k_asm); (case k4 => k_asm); (case k6 => k_asm); (case kK => first | exact rfl | assumption); (case kr => tb_rel); (case q1 => assumption); (case q2 => first | assumption | omega | (constructor <;> omega)); (case q3 => assumption); (case q4 => first | assumption | omega | (constructor <;> omega)); (case q5 => first | assumption | omega | (constructor <;> omega)); (case kd => ktr_room); (case ku => ktr_units); k_whole; refine rC ?_; intro d9 vs9 k9 hi9 h9 tk9 off9 F9 N9; (dsimp only [List.cons_append, List.nil_append] at N9); (simp only [Offs, LCg.Off1, and_true] at off9); (try k_sweep))))
  unfold Call
  k_fill
  intro dp un gd cn sc a ccd cl outer A₀ base h₀ L m
  refine ps5 ?_
  intro sH0 sG0 sD0 sT0 sO0 loose mean mg mb Q B F X N T hk hrd hd1 hu hret
  (try dsimp only at F)
  (try dsimp only at N)
  (try dsimp only at hrd)
  (try dsimp only at hret)
  k_dflt (refine' enterRC ?k1 ?k2 ?k3 ?k4 ?k5 ?kA ?kF ?kK ?k6 ?k7 ?k8 ?k9 ?kB ?kD ?_ ?c2 ?c3 ?c4; (case kA => exact rfl); (case kF => exact rfl); (case kK => assumption); (case k1 => k_asm); (case k2 => k_asm); (case k3 => k_asm); (case k4 => k_asm); (case k5 => k_asm); (case k6 => k_is); (case k7 => k_is); (case k8 => ktr_room); (case k9 => first | exact BindsTo.of_eq rfl | exact binds_K (by k_in) rfl (by k_is) rfl rfl rfl); (case kB => exact rfl); (case kD => decide +kernel); (case c2 => exact rfl); (case c3 => exact rfl); (case c4 => exact rfl); k_whole)
  intro g L1 h1 tk1 cells1 FG F1 N1 Y1 B1 X1 T1 keep hlt
  k_cells Y1
  (try dsimp only [List.cons_append, List.nil_append] at N1)
  (try dsimp only)
  (try ((try change wpAny _ _ _ _ _ _); k_fold))
  have R : ∀ z ∈ [(l1, listOf v1.toArray n1), (l2, listOf v2.toArray n2)], g.get? z.1 = some z.2 := fun x hx => keep _ _ (hrd x hx).2 (hrd x hx).1
  have r1 := R _ (.head _)
  try dsimp only at r1
  have r2 := R _ (.tail _ (.head _))
  try dsimp only at r2
  clear R
  have L2 : g.IsList l1 v1.toArray := ⟨_, r1, rfl, _, rfl⟩
  have L3 : g.IsList l2 v2.toArray := ⟨_, r2, rfl, _, rfl⟩
  have e1 := i1.length; have e2 := i2.length; have e3 := ok.len; have e4 := ok.sum
  clear hrd hlt
  k_with "exec For Tuple Call" => refine hold ?_
  k_steps
  all_goals (try (exfalso; simp only [List.size_toArray] at *; omega))
  refine go ?_
  refine c0_src (by rfl) (by k_asm) (by k_asm) (.inl L3) i2 (by omega) absI ?turn ?done
  case turn =>
    (first | (refine rE ?_; intro g1 v tv zs I oI C oC D m₂ h tk E' hmem hC ha kFr kNews) | (rintro _ ⟨g1, rfl⟩ v tv zs I oI C oC D m₂ h tk E' hmem hC ha kFr kNews))
    try ((try change wpAny _ _ _ _ _ _); k_fold)
    k_steps
    exact pc_end (by assumption) (by assumption) ⟨_, rfl⟩
  (first | (refine rE ?_; intro g1 vs1 hvs1) | (rintro _ ⟨g1, rfl⟩ vs1 hvs1))
  try ((try change wpAny _ _ _ _ _ _); k_fold)
  k_steps
  all_goals (try (exfalso; rw [← e4] at *; (simp only [ne_eq, not_true_eq_false] at *); done))
  refine go ?_
  k_with_none
  k_with "call ref" => ((k_here; (with_reducible show wpAny _ _ (call (Value.ref 403) _) _ _ _); k_dflt (refine' use0 (lacks_call ?q1 ?q2 ?q3 ?q4 ?q5 ?q6 ?q7) ?k1 ?k2 ?k3 ?k4 ?k6 ?kK ?kr ?kd ?ku ?_; (case k1 => k_asm); (case k2 => k_asm); (case k3 => k_asm); (case k4 => k_asm); (case k6 => k_asm); (case kK => first | exact rfl | assumption); (case kr => tb_rel); (case q1 => assumption); (case q2 => assumption); (case q3 => first | assumption | omega | (constructor <;> omega)); (case q4 => assumption); (case q5 => assumption); (case q6 => first | assumption | omega | (constructor <;> omega)); (case q7 => first | assumption | omega | (constructor <;> omega)); (case kd => ktr_room); (case ku => ktr_units); k_whole; refine rC ?_; intro d9 vs9 k9 hi9 h9 tk9 off9 F9 N9; (dsimp only [List.cons_append, List.nil_append] at N9); (simp only [Offs, LCg.Off1, and_true] at off9); (try k_sweep))))
  k_with "call ref" => ((k_here; (with_reducible show wpAny _ _ (call (Value.ref 408) _) _ _ _); k_dflt (refine' use0 (whole_call ?q1 ?q2 ?q3 ?q4 ?q5) ?k1 ?k2 ?k3 ?k4 ?k6 ?kK ?kr ?kd ?ku ?_; (case k1 => k_asm); (case k2 => k_asm); (case k3 => k_asm); (case k4 => k_asm); (case k6 => k_asm); (case kK => first | exact rfl | assumption); (case kr => tb_rel); (case q1 => assumption); (case q2 => first | assumption | omega | (constructor <;> omega)); (case q3 => assumption); (case q4 => first | assumption | omega | (constructor <;> omega)); (case q5 => first | assumption | omega | (constructor <;> omega)); (case kd => ktr_room); (case ku => ktr_units); k_whole; refine rC ?_; intro d9 vs9 k9 hi9 h9 tk9 off9 F9 N9; (dsimp only [List.cons_append, List.nil_append] at N9); (simp only [Offs, LCg.Off1, and_true] at off9); (try k_sweep))))
  k_with "call type:zip" => refine hold ?_
  with_unfolding_all refine' For_pairG g ?a1 ?_ ?a5 ?a6
  case a1 => exact rfl
  case a5 => exact fun _ => rfl
  case a6 => with_unfolding_all passes_own
  k_steps
  refine go ?_
  rename Fr _ _ _ _ => lF
  rename News _ _ _ _ => lN
  refine zip_it (by rfl) (L2.at fun o e => lF.keep _ o e) (L3.at fun o e => lF.keep _ o e) fun I h' PI hk => ?_
  have lF' := lF.keeps hk
  have lN' := lN.grown hk
  with_unfolding_all refine' pairs_loopG (σ := Obj × Obj) PI (fun c => [(_, LCg.lst vs1), (L1 + 1 + 1, c.1), (L1 + 1, c.2)]) (fun _ => []) (fun c => (∃ v, c.1.data = .cell v) ∧ ∃ v, c.2.data = .cell v) [] (fun _ _ => True) (_, _) ?src lF.ns.lt (Nat.le_of_lt (Nat.lt_of_le_of_lt lF.above lF.ns.lt)) lF' lN' (fun p hp => Heap.lt_size (lN p hp).1) ⟨⟨_, by assumption⟩, ⟨_, by assumption⟩⟩ (fun _ h => nomatch h) trivial ?turn2 ?done2
  case src => exact List.forall_mem_cons.mpr ⟨⟨_, r1⟩, List.forall_mem_cons.mpr ⟨⟨_, r2⟩, fun _ h => nomatch h⟩⟩
  case' turn2 =>
    (first | (refine pz4 ?_; intro o1 o2 i v0 v1' u h tk own hi; refine an_pp ?_; intro hv0 hv1 hoff; refine pz8 ?_; intro w1 hd1' w2 hd2' cl1 kFr kNews; clear cl1) | (rintro ⟨o1, o2⟩ i v0 v1' u h tk own hi ⟨hv0, hv1⟩ hoff ⟨⟨w1, hd1'⟩, w2, hd2'⟩ - kFr kNews))
    obtain ⟨c, tc, hc, rfl⟩ := ints_at i1 hv0
    obtain ⟨sh, ts', hsh, rfl⟩ := ints_at i2 hv1
    have hmem : (c, sh) ∈ cs.zip ts := List.mem_of_getElem? (List.getElem?_zip_eq_some.mpr ⟨hc, hsh⟩)
    have hm1 := hb _ (List.of_mem_zip hmem).1
    have hm2 := hb2 _ (List.of_mem_zip hmem).2
    obtain ⟨q1, q2, q3, q4⟩ := ok.at_ _ hmem
    have z1 : ((sh == 0) != (c == 0)) = false := tr1 q1
    have z2 : (if sh < 0 then -sh else sh) = 1 → ((sh == -1) != decide (c * size < cs.sum)) = false := tr2 q3
    have z3 : (if sh < 0 then -sh else sh) ≠ 1 → ((sh == -1) != ((if sh < 0 then -sh else sh) == 1)) = false := tr3 q3
    clear lF lN lF' lN' hk
    dsimp only [kstB] at kFr
    dsimp only at kNews hd1' hd2'
    dsimp only [List.cons_append, List.nil_append] at kNews
    try ((try change wpAny _ _ _ _ _ _); k_fold)
  case' done2 =>
    (first | (refine pz4 ?_; intro o1 o2 u h tk; refine pz8 ?_; intro w1 hd1' w2 hd2' cl1 kFr kNews; clear cl1) | (rintro ⟨o1, o2⟩ u h tk ⟨⟨w1, hd1'⟩, w2, hd2'⟩ - kFr kNews))
    clear lF lN lF' lN' hk
    dsimp only [kstB] at kFr
    dsimp only at kNews hd1' hd2'
    try ((try change wpAny _ _ _ _ _ _); k_fold)
  k_with_none
  k_with "call ref" => ((k_here; (with_reducible show wpAny _ _ (call (Value.ref 403) _) _ _ _); k_dflt (refine' use0 (lacks_call ?q1 ?q2 ?q3 ?q4 ?q5 ?q6 ?q7) ?k1 ?k2 ?k3 ?k4 ?k6 ?kK ?kr ?kd ?ku ?_; (case k1 => k_asm); (case k2 => k_asm); (case k3 => k_asm); (case k4 => k_asm); (case k6 => k_asm); (case kK => first | exact rfl | assumption); (case kr => tb_rel); (case q1 => assumption); (case q2 => assumption); (case q3 => first | assumption | omega | (constructor <;> omega)); (case q4 => assumption); (case q5 => assumption); (case q6 => first | assumption | omega | (constructor <;> omega)); (case q7 => first | assumption | omega | (constructor <;> omega)); (case kd => ktr_room); (case ku => ktr_units); k_whole; refine rC ?_; intro d9 vs9 k9 hi9 h9 tk9 off9 F9 N9; (dsimp only [List.cons_append, List.nil_append] at N9); (simp only [Offs, LCg.Off1, and_true] at off9); (try k_sweep))))
  k_with "call ref" => ((k_here; (with_reducible show wpAny _ _ (call (Value.ref 408) _) _ _ _); k_dflt (refine' use0 (whole_call ?q1 ?q2 ?q3 ?q4 ?q5) ?k1 ?k2 ?k3 ?k4 ?k6 ?kK ?kr ?kd ?ku ?_; (case k1 => k_asm); (case k2 => k_asm); (case k3 => k_asm); (case k4 => k_asm); (case k6 => k_asm); (case kK => first | exact rfl | assumption); (case kr => tb_rel); (case q1 => assumption); (case q2 => first | assumption | omega | (constructor <;> omega)); (case q3 => assumption); (case q4 => first | assumption | omega | (constructor <;> omega)); (case q5 => first | assumption | omega | (constructor <;> omega)); (case kd => ktr_room); (case ku => ktr_units); k_whole; refine rC ?_; intro d9 vs9 k9 hi9 h9 tk9 off9 F9 N9; (dsimp only [List.cons_append, List.nil_append] at N9); (simp only [Offs, LCg.Off1, and_true] at off9); (try k_sweep))))
  k_with "call type:zip" => refine hold ?_
  k_steps
  · exact fin (muts' := []) (ex := []) hret keep (by assumption) (by assumption) (by assumption) (by assumption) (fun _ h => nomatch h) (fun _ h => nomatch h) (fun _ h => nomatch h) ⟨rfl, rfl, rfl⟩
  all_goals (try (exfalso; first | exact absurd (z1.symm.trans (by assumption)) (by decide) | exact absurd ((z2 (by assumption)).symm.trans (by assumption)) (by decide) | exact absurd ((z3 (by assumption)).symm.trans (by assumption)) (by decide)))
  all_goals refine go ?_
  all_goals refine' pc_zip (by rfl) (L2.at fun o e => Fr.keep (by k_asm) _ o e) (L3.at fun o e => Fr.keep (by k_asm) _ o e) i1 i2 (by k_asm) (by k_asm) (groundNe r1 (by k_asm)) (groundNe r2 (by k_asm)) (by omega) (fun o hl => if o > c ∧ absI hl < absI sh then some 1 else none) ?_ ?_
  all_goals first
    | (first | (refine rE ?_; intro g1 x y tx ty zs C oC D m₂ h9 tk9 own9 E' hmem' hC ha hb' kFr9 kNews9) | (rintro _ ⟨g1, rfl⟩ x y tx ty zs C oC D m₂ h9 tk9 own9 E' hmem' hC ha hb' kFr9 kNews9))
    | ((first | (refine rE ?_; intro g1 vs9 hvs9) | (rintro _ ⟨g1, rfl⟩ vs9 hvs9)); (have hz9 : ((cs.zip ts).filterMap fun p => if p.1 > c ∧ absI p.2 < absI sh then some (1 : Int) else none) = [] := List.filterMap_eq_nil_iff.mpr fun p hp => if_neg fun z => absurd (q4 p hp z.1) (Int.not_le.mpr z.2)); rw [hz9] at hvs9; cases hvs9)
  all_goals (try (have hm3 := hb2 _ (List.of_mem_zip hmem').2))
  all_goals (try ((try change wpAny _ _ _ _ _ _); k_fold))
  k_with_none
  k_with "call ref" => ((k_here; (with_reducible show wpAny _ _ (call (Value.ref 403) _) _ _ _); k_dflt (refine' use0 (lacks_call ?q1 ?q2 ?q3 ?q4 ?q5 ?q6 ?q7) ?k1 ?k2 ?k3 ?k4 ?k6 ?kK ?kr ?kd ?ku ?_; (case k1 => k_asm); (case k2 => k_asm); (case k3 => k_asm); (case k4 => k_asm); (case k6 => k_asm); (case kK => first | exact rfl | assumption); (case kr => tb_rel); (case q1 => assumption); (case q2 => assumption); (case q3 => first | assumption | omega | (constructor <;> omega)); (case q4 => assumption); (case q5 => assumption); (case q6 => first | assumption | omega | (constructor <;> omega)); (case q7 => first | assumption | omega | (constructor <;> omega)); (case kd => ktr_room); (case ku => ktr_units); k_whole; refine rC ?_; intro d9 vs9 k9 hi9 h9 tk9 off9 F9 N9; (dsimp only [List.cons_append, List.nil_append] at N9); (simp only [Offs, LCg.Off1, and_true] at off9); (try k_sweep))))
  k_with "call ref" => ((k_here; (with_reducible show wpAny _ _ (call (Value.ref 408) _) _ _ _); k_dflt (refine' use0 (whole_call ?q1 ?q2 ?q3 ?q4 ?q5) ?k1 ?k2 ?k3 ?k4 ?k6 ?kK ?kr ?kd ?ku ?_; (case k1 => k_asm); (case k2 => k_asm); (case k3 => k_asm); (case k4 => k_asm); (case k6 => k_asm); (case kK => first | exact rfl | assumption); (case kr => tb_rel); (case q1 => assumption); (case q2 => first | assumption | omega | (constructor <;> omega)); (case q3 => assumption); (case q4 => first | assumption | omega | (constructor <;> omega)); (case q5 => first | assumption | omega | (constructor <;> omega)); (case kd => ktr_room); (case ku => ktr_units); k_whole; refine rC ?_; intro d9 vs9 k9 hi9 h9 tk9 off9 F9 N9; (dsimp only [List.cons_append, List.nil_append] at N9); (simp only [Offs, LCg.Off1, and_true] at off9); (try k_sweep))))
  k_steps
  all_goals first
    | exact pc_end (by assumption) (by assumption) ⟨_, _, if_pos ⟨by assumption, by assumption⟩, rfl⟩
    | exact pc_end (by assumption) (by assumption) (if_neg (by dsimp only [absI]; omega))
    | exact pgs_end (_, _) (by assumption) (by assumption) (List.forall_mem_cons.mpr ⟨.tail _ (.tail _ (.head _)), List.forall_mem_cons.mpr ⟨.tail _ (.tail _ (.tail _ (.head _))), List.forall_mem_cons.mpr ⟨.tail _ (.tail _ (.tail _ (.tail _ (.head _)))), fun _ h => nomatch h⟩⟩⟩) (fun p hp => .tail _ (.tail _ (.tail _ (.tail _ (.tail _ hp))))) (by rfl) ⟨⟨_, by assumption⟩, ⟨_, by assumption⟩⟩ (fun _ h => nomatch h) (by ksw_same) trivial

theorem fresh_Cnear : True := by
  k_with_none
  w_top off
  trivial
noncomputable def wideV (cs ts : List Int) (size : Int) : List Int := (cs.zip ts).filterMap fun p => if p.2 > 1 then some (p.1 * size - p.2 * cs.sum) else none
/-- what near asks -/
structure NearOk (cs ts : List Int) (log size : Int) : Prop where
  many : (wholeV cs size).sum > size → (∀ p ∈ (wholeV cs size).zip ts, absI p.2 ≤ p.1) ∧ ∀ x ∈ wideV cs ts size, ∀ y ∈ wideV cs ts size, x - y ≤ cs.sum
  few : (wholeV cs size).sum ≤ size → (∀ x ∈ lacksV cs ts size, 0 - cs.sum < x ∧ x < cs.sum) ∧ ((wholeV cs (2 * size)).sum ≤ 2 * size → ∀ p ∈ ts.zip (normF cs (log + 1)), absI (absI p.2 - 2 * absI p.1) ≤ 2)

theorem newsNe {g h : Heap} {L b : Addr} {o' : Obj} {news : List (Addr × Obj)} (N : News g L h news) (hm : (b, o') ∈ news) : b ≠ L := (N _ hm).2.1
theorem near_call {w : World} {l1 l2 : Addr} {v1 v2 : List Value} {n1 n2 : Nat} {cs ts : List Int} {log : Int} {t : Tok} (i1 : IntsAre v1 cs) (i2 : IntsAre v2 ts) (hlen : cs.length < 1000) (hl2 : ts.length = cs.length) (hb : ∀ c ∈ cs, 0 ≤ c ∧ c ≤ 10000) (hb2 : ∀ c ∈ ts, -1000 ≤ c ∧ c ≤ 1000) (hs1 : 0 < cs.sum) (hs2 : cs.sum ≤ 10000000) (hg1 : 5 ≤ log) (hg2 : log ≤ 6)
    (nk : NormOk cs (log + 1)) (hb3 : ∀ c ∈ normF cs (log + 1), -1000 ≤ c ∧ c ≤ 1000) (ok : NearOk cs ts log (2 ^ log.toNat)) :
    Call w 418 [.ref l1, .ref l2, .int log t] 12 400 [(l1, listOf v1.toArray n1), (l2, listOf v2.toArray n2)] [] (P0 fun r ex => ex = [] ∧ r = .bool true) := by
  k_with_none
  k_with "call ref" => ((k_here; (with_reducible show wpAny _ _ (call (Value.ref 278) _) _ _ _); k_dflt (refine' use0 (lack_call ?q1 ?q2 ?q3 ?q4) ?k1 ?k2 ?k3 ?k4 ?k6 ?kK ?kr ?kd ?ku ?_; (case k1 => k_asm); (case k2 => k_asm); (case k3 => k_asm); (case k4 => k_asm); (case k6 => k_asm); (case kK => first | exact rfl | assumption); (case kr => tb_rel); (case q1 => assumption); (case q2 => assumption); (case q3 => assumption); (case q4 => first | assumption | (refine SD.Ok.hus ?_ _ ?_ <;> assumption)); (case kd => ktr_room); (case ku => ktr_units); k_whole; refine rA ?_; intro t9 h9 tk9 _ F9 N9; (dsimp only [List.nil_append] at N9); (try k_sweep))))
  k_with "call ref" => ((k_here; (with_reducible show wpAny _ _ (call (Value.ref 285) _) _ _ _); k_dflt (refine' use0 (most_call ?q1 ?q2 ?q3) ?k1 ?k2 ?k3 ?k4 ?k6 ?kK ?kr ?kd ?ku ?_; (case k1 => k_asm); (case k2 => k_asm); (case k3 => k_asm); (case k4 => k_asm); (case k6 => k_asm); (case kK => first | exact rfl | assumption); (case kr => tb_rel); (case q1 => assumption); (case q2 => assumption); (case q3 => assumption); (case kd => ktr_room); (case ku => ktr_units); k_whole; refine rA ?_; intro t9 h9 tk9 _ F9 N9; (dsimp only [List.nil_append] at N9); (try k_sweep))))
  k_with "call ref" => ((k_here; (with_reducible show wpAny _ _ (call (Value.ref 292) _) _ _ _); k_dflt (refine' use0 (least_call' ?q1 ?q2 ?q3 ?q4) ?k1 ?k2 ?k3 ?k4 ?k6 ?kK ?kr ?kd ?ku ?_; (case k1 => k_asm); (case k2 => k_asm); (case k3 => k_asm); (case k4 => k_asm); (case k6 => k_asm); (case kK => first | exact rfl | assumption); (case kr => tb_rel); (case q1 => assumption); (case q2 => assumption); (case q3 => assumption); (case q4 => assumption); (case kd => ktr_room); (case ku => ktr_units); k_whole; refine rA ?_; intro t9 h9 tk9 _ F9 N9; (dsimp only [List.nil_append] at N9); (try k_sweep))))
  k_with "call ref" => ((k_here; (with_reducible show wpAny _ _ (call (Value.ref 403) _) _ _ _); k_dflt (refine' use0 (lacks_call ?q1 ?q2 ?q3 ?q4 ?q5 ?q6 ?q7) ?k1 ?k2 ?k3 ?k4 ?k6 ?kK ?kr ?kd ?ku ?_; (case k1 => k_asm); (case k2 => k_asm); (case k3 => k_asm); (case k4 => k_asm); (case k6 => k_asm); (case kK => first | exact rfl | assumption); (case kr => tb_rel); (case q1 => assumption); (case q2 => assumption); (case q3 => first | assumption | omega | (constructor <;> omega)); (case q4 => assumption); (case q5 => assumption); (case q6 => first | assumption | omega | (constructor <;> omega)); (case q7 => first | assumption | omega | (constructor <;> omega)); (case kd => ktr_room); (case ku => ktr_units); k_whole; refine rC ?_; intro d9 vs9 k9 hi9 h9 tk9 off9 F9 N9; (dsimp only [List.cons_append, List.nil_append] at N9); (simp only [Offs, LCg.Off1, and_true] at off9); (try k_sweep))))
  k_with "call ref" => ((k_here; (with_reducible show wpAny _ _ (call (Value.ref 408) _) _ _ _); k_dflt (refine' use0 (whole_call ?q1 ?q2 ?q3 ?q4 ?q5) ?k1 ?k2 ?k3 ?k4 ?k6 ?kK ?kr ?kd ?ku ?_; (case k1 => k_asm); (case k2 => k_asm); (case k3 => k_asm); (case k4 => k_asm); (case k6 => k_asm); (case kK => first | exact rfl | assumption); (case kr => tb_rel); (case q1 => assumption); (case q2 => first | assumption | omega | (constructor <;> omega)); (case q3 => assumption); (case q4 => first | assumption | omega | (constructor <;> omega)); (case q5 => first | assumption | omega | (constructor <;> omega)); (case kd => ktr_room); (case ku => ktr_units); k_whole; refine rC ?_; intro d9 vs9 k9 hi9 h9 tk9 off9 F9 N9; (dsimp only [List.cons_append, List.nil_append] at N9); (simp only [Offs, LCg.Off1, and_true] at off9); (try k_sweep))))
  k_with "call ref" => ((k_here; (with_reducible show wpAny _ _ (call (Value.ref 318) _) _ _ _); k_dflt (refine' use0 (norm_call ?q1 ?q2) ?k1 ?k2 ?k3 ?k4 ?k6 ?kK ?kr ?kd ?ku ?_; (case k1 => k_asm); (case k2 => k_asm); (case k3 => k_asm); (case k4 => k_asm); (case k6 => k_asm); (case kK => first | exact rfl | assumption); (case kr => tb_rel); (case q1 => assumption); (case q2 => assumption); (case kd => ktr_room); (case ku => ktr_units); k_whole; refine rC ?_; intro d9 vs9 k9 hi9 h9 tk9 off9 F9 N9; (dsimp only [List.cons_append, List.nil_append] at N9); (simp only [Offs, LCg.Off1, and_true] at off9); (try k_sweep))))
  unfold Call
  k_fill
  intro dp un gd cn sc a ccd cl outer A₀ base h₀ L m
  refine ps5 ?_
  intro sH0 sG0 sD0 sT0 sO0 loose mean mg mb Q B F X N T hk hrd hd1 hu hret
  (try dsimp only at F)
  (try dsimp only at N)
  (try dsimp only at hrd)
  (try dsimp only at hret)
  k_dflt (refine' enterRC ?k1 ?k2 ?k3 ?k4 ?k5 ?kA ?kF ?kK ?k6 ?k7 ?k8 ?k9 ?kB ?kD ?_ ?c2 ?c3 ?c4; (case kA => exact rfl); (case kF => exact rfl); (case kK => assumption); (case k1 => k_asm); (case k2 => k_asm); (case k3 => k_asm); (case k4 => k_asm); (case k5 => k_asm); (case k6 => k_is); (case k7 => k_is); (case k8 => ktr_room); (case k9 => first | exact BindsTo.of_eq rfl | exact binds_K (by k_in) rfl (by k_is) rfl rfl rfl); (case kB => exact rfl); (case kD => decide +kernel); (case c2 => exact rfl); (case c3 => exact rfl); (case c4 => exact rfl); k_whole)
  intro g L1 h1 tk1 cells1 FG F1 N1 Y1 B1 X1 T1 keep hlt
  k_cells Y1
  (try dsimp only [List.cons_append, List.nil_append] at N1)
  (try dsimp only)
  (try ((try change wpAny _ _ _ _ _ _); k_fold))
  have R : ∀ z ∈ [(l1, listOf v1.toArray n1), (l2, listOf v2.toArray n2)], g.get? z.1 = some z.2 := fun x hx => keep _ _ (hrd x hx).2 (hrd x hx).1
  have r1 := R _ (.head _)
  try dsimp only at r1
  have r2 := R _ (.tail _ (.head _))
  try dsimp only at r2
  clear R
  have L2 : g.IsList l1 v1.toArray := ⟨_, r1, rfl, _, rfl⟩
  have L3 : g.IsList l2 v2.toArray := ⟨_, r2, rfl, _, rfl⟩
  have e1 := i1.length; have e2 := i2.length
  have hb9 : 0 < (2 : Int) ^ log.toNat ∧ (2 : Int) ^ log.toNat ≤ 64 := by
    rcases (by omega : log = 5 ∨ log = 6) with rfl | rfl <;> decide
  clear hrd hlt
  k_with "call type:zip" => refine hold ?_
  k_steps
  · rename IntsAre _ (wholeV _ _) => iw9
    have hm9 := (ok.many (by omega)).1
    have hm8 := (ok.many (by omega)).2
    refine go ?_
    refine pc_zip (by rfl) (by kmk_list) (by kmk_list) iw9 i2 (by k_asm) (by k_asm) (newsNe (by k_asm) (by k_mem)) (groundNe r2 (by k_asm)) (by simp only [wholeV, List.length_map]; omega) (fun wh sh => if absI sh > wh then some 1 else none) ?turn ?done
    case turn =>
      (first | (refine rE ?_; intro g1 x y tx ty zs C oC D m₂ h tk own E' hmem hC ha hb' kFr kNews) | (rintro _ ⟨g1, rfl⟩ x y tx ty zs C oC D m₂ h tk own E' hmem hC ha hb' kFr kNews))
      have hq2 := hb2 _ (List.of_mem_zip hmem).2
      have hq3 := hm9 _ hmem
      dsimp only [absI] at hq3
      try ((try change wpAny _ _ _ _ _ _); k_fold)
      k_with_none
      k_with "call ref" => ((k_here; (with_reducible show wpAny _ _ (call (Value.ref 278) _) _ _ _); k_dflt (refine' use0 (lack_call ?q1 ?q2 ?q3 ?q4) ?k1 ?k2 ?k3 ?k4 ?k6 ?kK ?kr ?kd ?ku ?_; (case k1 => k_asm); (case k2 => k_asm); (case k3 => k_asm); (case k4 => k_asm); (case k6 => k_asm); (case kK => first | exact rfl | assumption); (case kr => tb_rel); (case q1 => assumption); (case q2 => assumption); (case q3 => assumption); (case q4 => first | assumption | (refine SD.Ok.hus ?_ _ ?_ <;> assumption)); (case kd => ktr_room); (case ku => ktr_units); k_whole; refine rA ?_; intro t9 h9 tk9 _ F9 N9; (dsimp only [List.nil_append] at N9); (try k_sweep))))
      k_with "call ref" => ((k_here; (with_reducible show wpAny _ _ (call (Value.ref 285) _) _ _ _); k_dflt (refine' use0 (most_call ?q1 ?q2 ?q3) ?k1 ?k2 ?k3 ?k4 ?k6 ?kK ?kr ?kd ?ku ?_; (case k1 => k_asm); (case k2 => k_asm); (case k3 => k_asm); (case k4 => k_asm); (case k6 => k_asm); (case kK => first | exact rfl | assumption); (case kr => tb_rel); (case q1 => assumption); (case q2 => assumption); (case q3 => assumption); (case kd => ktr_room); (case ku => ktr_units); k_whole; refine rA ?_; intro t9 h9 tk9 _ F9 N9; (dsimp only [List.nil_append] at N9); (try k_sweep))))
      k_with "call ref" => ((k_here; (with_reducible show wpAny _ _ (call (Value.ref 292) _) _ _ _); k_dflt (refine' use0 (least_call' ?q1 ?q2 ?q3 ?q4) ?k1 ?k2 ?k3 ?k4 ?k6 ?kK ?kr ?kd ?ku ?_; (case k1 => k_asm); (case k2 => k_asm); (case k3 => k_asm); (case k4 => k_asm); (case k6 => k_asm); (case kK => first | exact rfl | assumption); (case kr => tb_rel); (case q1 => assumption); (case q2 => assumption); (case q3 => assumption); (case q4 => assumption); (case kd => ktr_room); (case ku => ktr_units); k_whole; refine rA ?_; intro t9 h9 tk9 _ F9 N9; (dsimp only [List.nil_append] at N9); (try k_sweep))))
      k_with "call ref" => ((k_here; (with_reducible show wpAny _ _ (call (Value.ref 403) _) _ _ _); k_dflt (refine' use0 (lacks_call ?q1 ?q2 ?q3 ?q4 ?q5 ?q6 ?q7) ?k1 ?k2 ?k3 ?k4 ?k6 ?kK ?kr ?kd ?ku ?_; (case k1 => k_asm); (case k2 => k_asm); (case k3 => k_asm); (case k4 => k_asm); (case k6 => k_asm); (case kK => first | exact rfl | assumption); (case kr => tb_rel); (case q1 => assumption); (case q2 => assumption); (case q3 => first | assumption | omega | (constructor <;> omega)); (case q4 => assumption); (case q5 => assumption); (case q6 => first | assumption | omega | (constructor <;> omega)); (case q7 => first | assumption | omega | (constructor <;> omega)); (case kd => ktr_room); (case ku => ktr_units); k_whole; refine rC ?_; intro d9 vs9 k9 hi9 h9 tk9 off9 F9 N9; (dsimp only [List.cons_append, List.nil_append] at N9); (simp only [Offs, LCg.Off1, and_true] at off9); (try k_sweep))))
      k_with "call ref" => ((k_here; (with_reducible show wpAny _ _ (call (Value.ref 408) _) _ _ _); k_dflt (refine' use0 (whole_call ?q1 ?q2 ?q3 ?q4 ?q5) ?k1 ?k2 ?k3 ?k4 ?k6 ?kK ?kr ?kd ?ku ?_; (case k1 => k_asm); (case k2 => k_asm); (case k3 => k_asm); (case k4 => k_asm); (case k6 => k_asm); (case kK => first | exact rfl | assumption); (case kr => tb_rel); (case q1 => assumption); (case q2 => first | assumption | omega | (constructor <;> omega)); (case q3 => assumption); (case q4 => first | assumption | omega | (constructor <;> omega)); (case q5 => first | assumption | omega | (constructor <;> omega)); (case kd => ktr_room); (case ku => ktr_units); k_whole; refine rC ?_; intro d9 vs9 k9 hi9 h9 tk9 off9 F9 N9; (dsimp only [List.cons_append, List.nil_append] at N9); (simp only [Offs, LCg.Off1, and_true] at off9); (try k_sweep))))
      k_with "call ref" => ((k_here; (with_reducible show wpAny _ _ (call (Value.ref 318) _) _ _ _); k_dflt (refine' use0 (norm_call ?q1 ?q2) ?k1 ?k2 ?k3 ?k4 ?k6 ?kK ?kr ?kd ?ku ?_; (case k1 => k_asm); (case k2 => k_asm); (case k3 => k_asm); (case k4 => k_asm); (case k6 => k_asm); (case kK => first | exact rfl | assumption); (case kr => tb_rel); (case q1 => assumption); (case q2 => assumption); (case kd => ktr_room); (case ku => ktr_units); k_whole; refine rC ?_; intro d9 vs9 k9 hi9 h9 tk9 off9 F9 N9; (dsimp only [List.cons_append, List.nil_append] at N9); (simp only [Offs, LCg.Off1, and_true] at off9); (try k_sweep))))
      k_steps
      all_goals first
        | exact pc_end (by assumption) (by assumption) (if_neg (by dsimp only [absI]; omega))
        | (exfalso; omega)
    (first | (refine rE ?_; intro g1 vs9 hvs9) | (rintro _ ⟨g1, rfl⟩ vs9 hvs9))
    have hz9 : (((wholeV cs (2 ^ log.toNat)).zip ts).filterMap fun p => if absI p.2 > p.1 then some (1 : Int) else none) = [] := List.filterMap_eq_nil_iff.mpr fun p hp => if_neg (Int.not_lt.mpr (hm9 p hp))
    rw [hz9] at hvs9; cases hvs9
    try ((try change wpAny _ _ _ _ _ _); k_fold)
    k_with "call type:zip" => refine hold ?_
    k_steps
    refine go ?_
    refine pc_zip (by rfl) (by kmk_list) (by kmk_list) i1 i2 (by k_asm) (by k_asm) (groundNe r1 (by k_asm)) (groundNe r2 (by k_asm)) (by omega) (fun c sh => if sh > 1 then some (c * 2 ^ log.toNat - sh * cs.sum) else none) ?turn1 ?done1
    case turn1 =>
      (first | (refine rE ?_; intro g1 x y tx ty zs C oC D m₂ h tk own E' hmem hC ha hb' kFr kNews) | (rintro _ ⟨g1, rfl⟩ x y tx ty zs C oC D m₂ h tk own E' hmem hC ha hb' kFr kNews))
      have hq2 := hb2 _ (List.of_mem_zip hmem).2
      have hq1 := hb _ (List.of_mem_zip hmem).1
      try ((try change wpAny _ _ _ _ _ _); k_fold)
      k_with_none
      k_with "call ref" => ((k_here; (with_reducible show wpAny _ _ (call (Value.ref 278) _) _ _ _); k_dflt (refine' use0 (lack_call ?q1 ?q2 ?q3 ?q4) ?k1 ?k2 ?k3 ?k4 ?k6 ?kK ?kr ?kd ?ku ?_; (case k1 => k_asm); (case k2 => k_asm); (case k3 => k_asm); (case k4 => k_asm); (case k6 => k_asm); (case kK => first | exact rfl | assumption); (case kr => tb_rel); (case q1 => assumption); (case q2 => assumption); (case q3 => assumption); (case q4 => first | assumption | (refine SD.Ok.hus ?_ _ ?_ <;> assumption)); (case kd => ktr_room); (case ku => ktr_units); k_whole; refine rA ?_; intro t9 h9 tk9 _ F9 N9; (dsimp only [List.nil_append] at N9); (try k_sweep))))
      k_with "call ref" => ((k_here; (with_reducible show wpAny _ _ (call (Value.ref 285) _) _ _ _); k_dflt (refine' use0 (most_call ?q1 ?q2 ?q3) ?k1 ?k2 ?k3 ?k4 ?k6 ?kK ?kr ?kd ?ku ?_; (case k1 => k_asm); (case k2 => k_asm); (case k3 => k_asm); (case k4 => k_asm); (case k6 => k_asm); (case kK => first | exact rfl | assumption); (case kr => tb_rel); (case q1 => assumption); (case q2 => assumption); (case q3 => assumption); (case kd => ktr_room); (case ku => ktr_units); k_whole; refine rA ?_; intro t9 h9 tk9 _ F9 N9; (dsimp only [List.nil_append] at N9); (try k_sweep))))
      k_with "call ref" => ((k_here; (with_reducible show wpAny _ _ (call (Value.ref 292) _) _ _ _); k_dflt (refine' use0 (least_call' ?q1 ?q2 ?q3 ?q4) ?k1 ?k2 ?k3 ?k4 ?k6 ?kK ?kr ?kd ?ku ?_; (case k1 => k_asm); (case k2 => k_asm); (case k3 => k_asm); (case k4 => k_asm); (case k6 => k_asm); (case kK => first | exact rfl | assumption); (case kr => tb_rel); (case q1 => assumption); (case q2 => assumption); (case q3 => assumption); (case q4 => assumption); (case kd => ktr_room); (case ku => ktr_units); k_whole; refine rA ?_; intro t9 h9 tk9 _ F9 N9; (dsimp only [List.nil_append] at N9); (try k_sweep))))
      k_with "call ref" => ((k_here; (with_reducible show wpAny _ _ (call (Value.ref 403) _) _ _ _); k_dflt (refine' use0 (lacks_call ?q1 ?q2 ?q3 ?q4 ?q5 ?q6 ?q7) ?k1 ?k2 ?k3 ?k4 ?k6 ?kK ?kr ?kd ?ku ?_; (case k1 => k_asm); (case k2 => k_asm); (case k3 => k_asm); (case k4 => k_asm); (case k6 => k_asm); (case kK => first | exact rfl | assumption); (case kr => tb_rel); (case q1 => assumption); (case q2 => assumption); (case q3 => first | assumption | omega | (constructor <;> omega)); (case q4 => assumption); (case q5 => assumption); (case q6 => first | assumption | omega | (constructor <;> omega)); (case q7 => first | assumption | omega | (constructor <;> omega)); (case kd => ktr_room); (case ku => ktr_units); k_whole; refine rC ?_; intro d9 vs9 k9 hi9 h9 tk9 off9 F9 N9; (dsimp only [List.cons_append, List.nil_append] at N9); (simp only [Offs, LCg.Off1, and_true] at off9); (try k_sweep))))
      k_with "call ref" => ((k_here; (with_reducible show wpAny _ _ (call (Value.ref 408) _) _ _ _); k_dflt (refine' use0 (whole_call ?q1 ?q2 ?q3 ?q4 ?q5) ?k1 ?k2 ?k3 ?k4 ?k6 ?kK ?kr ?kd ?ku ?_; (case k1 => k_asm); (case k2 => k_asm); (case k3 => k_asm); (case k4 => k_asm); (case k6 => k_asm); (case kK => first | exact rfl | assumption); (case kr => tb_rel); (case q1 => assumption); (case q2 => first | assumption | omega | (constructor <;> omega)); (case q3 => assumption); (case q4 => first | assumption | omega | (constructor <;> omega)); (case q5 => first | assumption | omega | (constructor <;> omega)); (case kd => ktr_room); (case ku => ktr_units); k_whole; refine rC ?_; intro d9 vs9 k9 hi9 h9 tk9 off9 F9 N9; (dsimp only [List.cons_append, List.nil_append] at N9); (simp only [Offs, LCg.Off1, and_true] at off9); (try k_sweep))))
      k_with "call ref" => ((k_here; (with_reducible show wpAny _ _ (call (Value.ref 318) _) _ _ _); k_dflt (refine' use0 (norm_call ?q1 ?q2) ?k1 ?k2 ?k3 ?k4 ?k6 ?kK ?kr ?kd ?ku ?_; (case k1 => k_asm); (case k2 => k_asm); (case k3 => k_asm); (case k4 => k_asm); (case k6 => k_asm); (case kK => first | exact rfl | assumption); (case kr => tb_rel); (case q1 => assumption); (case q2 => assumption); (case kd => ktr_room); (case ku => ktr_units); k_whole; refine rC ?_; intro d9 vs9 k9 hi9 h9 tk9 off9 F9 N9; (dsimp only [List.cons_append, List.nil_append] at N9); (simp only [Offs, LCg.Off1, and_true] at off9); (try k_sweep))))
      k_steps
      · exact pc_end (by assumption) (by assumption) ⟨_, _, if_pos (by omega), rfl⟩
      · exact pc_end (by assumption) (by assumption) (if_neg (by omega))
    (first | (refine rE ?_; intro g1 vs8 hvs8) | (rintro _ ⟨g1, rfl⟩ vs8 hvs8))
    replace hm8 : ∀ x ∈ (cs.zip ts).filterMap (fun p => if p.2 > 1 then some (p.1 * 2 ^ log.toNat - p.2 * cs.sum) else none), ∀ y ∈ (cs.zip ts).filterMap (fun p => if p.2 > 1 then some (p.1 * 2 ^ log.toNat - p.2 * cs.sum) else none), x - y ≤ cs.sum := hm8
    generalize (cs.zip ts).filterMap (fun p => if p.2 > 1 then some (p.1 * 2 ^ log.toNat - p.2 * cs.sum) else none) = wv at hvs8 hm8
    rcases wv with _ | ⟨y, r⟩
    all_goals (try ((try change wpAny _ _ _ _ _ _); k_fold))
    k_with_none
    k_with "call ref" => ((k_here; (with_reducible show wpAny _ _ (call (Value.ref 278) _) _ _ _); k_dflt (refine' use0 (lack_call ?q1 ?q2 ?q3 ?q4) ?k1 ?k2 ?k3 ?k4 ?k6 ?kK ?kr ?kd ?ku ?_; (case k1 => k_asm); (case k2 => k_asm); (case k3 => k_asm); (case k4 => k_asm); (case k6 => k_asm); (case kK => first | exact rfl | assumption); (case kr => tb_rel); (case q1 => assumption); (case q2 => assumption); (case q3 => assumption); (case q4 => first | assumption | (refine SD.Ok.hus ?_ _ ?_ <;> assumption)); (case kd => ktr_room); (case ku => ktr_units); k_whole; refine rA ?_; intro t9 h9 tk9 _ F9 N9; (dsimp only [List.nil_append] at N9); (try k_sweep))))
    k_with "call ref" => ((k_here; (with_reducible show wpAny _ _ (call (Value.ref 285) _) _ _ _); k_dflt (refine' use0 (most_call ?q1 ?q2 ?q3) ?k1 ?k2 ?k3 ?k4 ?k6 ?kK ?kr ?kd ?ku ?_; (case k1 => k_asm); (case k2 => k_asm); (case k3 => k_asm); (case k4 => k_asm); (case k6 => k_asm); (case kK => first | exact rfl | assumption); (case kr => tb_rel); (case q1 => assumption); (case q2 => assumption); (case q3 => assumption); (case kd => ktr_room); (case ku => ktr_units); k_whole; refine rA ?_; intro t9 h9 tk9 _ F9 N9; (dsimp only [List.nil_append] at N9); (try k_sweep))))
    k_with "call ref" => ((k_here; (with_reducible show wpAny _ _ (call (Value.ref 292) _) _ _ _); k_dflt (refine' use0 (least_call' ?q1 ?q2 ?q3 ?q4) ?k1 ?k2 ?k3 ?k4 ?k6 ?kK ?kr ?kd ?ku ?_; (case k1 => k_asm); (case k2 => k_asm); (case k3 => k_asm); (case k4 => k_asm); (case k6 => k_asm); (case kK => first | exact rfl | assumption); (case kr => tb_rel); (case q1 => assumption); (case q2 => assumption); (case q3 => assumption); (case q4 => assumption); (case kd => ktr_room); (case ku => ktr_units); k_whole; refine rA ?_; intro t9 h9 tk9 _ F9 N9; (dsimp only [List.nil_append] at N9); (try k_sweep))))
    k_with "call ref" => ((k_here; (with_reducible show wpAny _ _ (call (Value.ref 403) _) _ _ _); k_dflt (refine' use0 (lacks_call ?q1 ?q2 ?q3 ?q4 ?q5 ?q6 ?q7) ?k1 ?k2 ?k3 ?k4 ?k6 ?kK ?kr ?kd ?ku ?_; (case k1 => k_asm); (case k2 => k_asm); (case k3 => k_asm); (case k4 => k_asm); (case k6 => k_asm); (case kK => first | exact rfl | assumption); (case kr => tb_rel); (case q1 => assumption); (case q2 => assumption); (case q3 => first | assumption | omega | (constructor <;> omega)); (case q4 => assumption); (case q5 => assumption); (case q6 => first | assumption | omega | (constructor <;> omega)); (case q7 => first | assumption | omega | (constructor <;> omega)); (case kd => ktr_room); (case ku => ktr_units); k_whole; refine rC ?_; intro d9 vs9 k9 hi9 h9 tk9 off9 F9 N9; (dsimp only [List.cons_append, List.nil_append] at N9); (simp only [Offs, LCg.Off1, and_true] at off9); (try k_sweep))))
    k_with "call ref" => ((k_here; (with_reducible show wpAny _ _ (call (Value.ref 408) _) _ _ _); k_dflt (refine' use0 (whole_call ?q1 ?q2 ?q3 ?q4 ?q5) ?k1 ?k2 ?k3 ?k4 ?k6 ?kK ?kr ?kd ?ku ?_; (case k1 => k_asm); (case k2 => k_asm); (case k3 => k_asm); (case k4 => k_asm); (case k6 => k_asm); (case kK => first | exact rfl | assumption); (case kr => tb_rel); (case q1 => assumption); (case q2 => first | assumption | omega | (constructor <;> omega)); (case q3 => assumption); (case q4 => first | assumption | omega | (constructor <;> omega)); (case q5 => first | assumption | omega | (constructor <;> omega)); (case kd => ktr_room); (case ku => ktr_units); k_whole; refine rC ?_; intro d9 vs9 k9 hi9 h9 tk9 off9 F9 N9; (dsimp only [List.cons_append, List.nil_append] at N9); (simp only [Offs, LCg.Off1, and_true] at off9); (try k_sweep))))
    k_with "call ref" => ((k_here; (with_reducible show wpAny _ _ (call (Value.ref 318) _) _ _ _); k_dflt (refine' use0 (norm_call ?q1 ?q2) ?k1 ?k2 ?k3 ?k4 ?k6 ?kK ?kr ?kd ?ku ?_; (case k1 => k_asm); (case k2 => k_asm); (case k3 => k_asm); (case k4 => k_asm); (case k6 => k_asm); (case kK => first | exact rfl | assumption); (case kr => tb_rel); (case q1 => assumption); (case q2 => assumption); (case kd => ktr_room); (case ku => ktr_units); k_whole; refine rC ?_; intro d9 vs9 k9 hi9 h9 tk9 off9 F9 N9; (dsimp only [List.cons_append, List.nil_append] at N9); (simp only [Offs, LCg.Off1, and_true] at off9); (try k_sweep))))
    k_steps
    · exact fin (muts' := []) (ex := []) hret keep (by assumption) (by assumption) (by assumption) (by assumption) (fun _ h => nomatch h) (fun _ h => nomatch h) (fun _ h => nomatch h) ⟨rfl, rfl, rfl⟩
    · exfalso; exact List.cons_ne_nil y r (by first | assumption | (simp_all; done))
    · exact fin (muts' := []) (ex := []) hret keep (by assumption) (by assumption) (by assumption) (by assumption) (fun _ h => nomatch h) (fun _ h => nomatch h) (fun _ h => nomatch h) ⟨rfl, rfl, congrArg Value.bool (decide_eq_true (hm8 _ (by first | assumption | exact List.mem_cons.mpr (by assumption)) _ (by first | assumption | exact List.mem_cons.mpr (by assumption))))⟩
  rename IntsAre _ (lacksV _ _ _) => il9
  have hf9 := (ok.few (by omega)).1
  have hf8 := (ok.few (by omega)).2
  refine go ?_
  refine c1_src (by rfl) (by k_asm) (by k_asm) (src_led (by k_mem)) il9 (by have := List.length_filterMap_le (fun p : Int × Int => if p.1 > 0 then some (p.1 * 2 ^ log.toNat - absI p.2 * cs.sum) else none) (cs.zip ts); unfold lacksV; rw [List.length_zip] at this; omega) (fun x => if 0 - cs.sum < x ∧ x < cs.sum then none else some x) ?turn3 ?done3
  case turn3 =>
    (first | (refine rE ?_; intro g1 v tv zs I oI C oC D m₂ h tk E' hmem hC ha kFr kNews) | (rintro _ ⟨g1, rfl⟩ v tv zs I oI C oC D m₂ h tk E' hmem hC ha kFr kNews))
    have hq := hf9 _ hmem
    try ((try change wpAny _ _ _ _ _ _); k_fold)
    k_with_none
    k_with "call ref" => ((k_here; (with_reducible show wpAny _ _ (call (Value.ref 278) _) _ _ _); k_dflt (refine' use0 (lack_call ?q1 ?q2 ?q3 ?q4) ?k1 ?k2 ?k3 ?k4 ?k6 ?kK ?kr ?kd ?ku ?_; (case k1 => k_asm); (case k2 => k_asm); (case k3 => k_asm); (case k4 => k_asm); (case k6 => k_asm); (case kK => first | exact rfl | assumption); (case kr => tb_rel); (case q1 => assumption); (case q2 => assumption); (case q3 => assumption); (case q4 => first | assumption | (refine SD.Ok.hus ?_ _ ?_ <;> assumption)); (case kd => ktr_room); (case ku => ktr_units); k_whole; refine rA ?_; intro t9 h9 tk9 _ F9 N9; (dsimp only [List.nil_append] at N9); (try k_sweep))))
    k_with "call ref" => ((k_here; (with_reducible show wpAny _ _ (call (Value.ref 285) _) _ _ _); k_dflt (refine' use0 (most_call ?q1 ?q2 ?q3) ?k1 ?k2 ?k3 ?k4 ?k6 ?kK ?kr ?kd ?ku ?_; (case k1 => k_asm); (case k2 => k_asm); (case k3 => k_asm); (case k4 => k_asm); (case k6 => k_asm); (case kK => first | exact rfl | assumption); (case kr => tb_rel); (case q1 => assumption); (case q2 => assumption); (case q3 => assumption); (case kd => ktr_room); (case ku => ktr_units); k_whole; refine rA ?_; intro t9 h9 tk9 _ F9 N9; (dsimp only [List.nil_append] at N9); (try k_sweep))))
    k_with "call ref" => ((k_here; (with_reducible show wpAny _ _ (call (Value.ref 292) _) _ _ _); k_dflt (refine' use0 (least_call' ?q1 ?q2 ?q3 ?q4) ?k1 ?k2 ?k3 ?k4 ?k6 ?kK ?kr ?kd ?ku ?_; (case k1 => k_asm); (case k2 => k_asm); (case k3 => k_asm); (case k4 => k_asm); (case k6 => k_asm); (case kK => first | exact rfl | assumption); (case kr => tb_rel); (case q1 => assumption); (case q2 => assumption); (case q3 => assumption); (case q4 => assumption); (case kd => ktr_room); (case ku => ktr_units); k_whole; refine rA ?_; intro t9 h9 tk9 _ F9 N9; (dsimp only [List.nil_append] at N9); (try k_sweep))))
    k_with "call ref" => ((k_here; (with_reducible show wpAny _ _ (call (Value.ref 403) _) _ _ _); k_dflt (refine' use0 (lacks_call ?q1 ?q2 ?q3 ?q4 ?q5 ?q6 ?q7) ?k1 ?k2 ?k3 ?k4 ?k6 ?kK ?kr ?kd ?ku ?_; (case k1 => k_asm); (case k2 => k_asm); (case k3 => k_asm); (case k4 => k_asm); (case k6 => k_asm); (case kK => first | exact rfl | assumption); (case kr => tb_rel); (case q1 => assumption); (case q2 => assumption); (case q3 => first | assumption | omega | (constructor <;> omega)); (case q4 => assumption); (case q5 => assumption); (case q6 => first | assumption | omega | (constructor <;> omega)); (case q7 => first | assumption | omega | (constructor <;> omega)); (case kd => ktr_room); (case ku => ktr_units); k_whole; refine rC ?_; intro d9 vs9 k9 hi9 h9 tk9 off9 F9 N9; (dsimp only [List.cons_append, List.nil_append] at N9); (simp only [Offs, LCg.Off1, and_true] at off9); (try k_sweep))))
    k_with "call ref" => ((k_here; (with_reducible show wpAny _ _ (call (Value.ref 408) _) _ _ _); k_dflt (refine' use0 (whole_call ?q1 ?q2 ?q3 ?q4 ?q5) ?k1 ?k2 ?k3 ?k4 ?k6 ?kK ?kr ?kd ?ku ?_; (case k1 => k_asm); (case k2 => k_asm); (case k3 => k_asm); (case k4 => k_asm); (case k6 => k_asm); (case kK => first | exact rfl | assumption); (case kr => tb_rel); (case q1 => assumption); (case q2 => first | assumption | omega | (constructor <;> omega)); (case q3 => assumption); (case q4 => first | assumption | omega | (constructor <;> omega)); (case q5 => first | assumption | omega | (constructor <;> omega)); (case kd => ktr_room); (case ku => ktr_units); k_whole; refine rC ?_; intro d9 vs9 k9 hi9 h9 tk9 off9 F9 N9; (dsimp only [List.cons_append, List.nil_append] at N9); (simp only [Offs, LCg.Off1, and_true] at off9); (try k_sweep))))
    k_with "call ref" => ((k_here; (with_reducible show wpAny _ _ (call (Value.ref 318) _) _ _ _); k_dflt (refine' use0 (norm_call ?q1 ?q2) ?k1 ?k2 ?k3 ?k4 ?k6 ?kK ?kr ?kd ?ku ?_; (case k1 => k_asm); (case k2 => k_asm); (case k3 => k_asm); (case k4 => k_asm); (case k6 => k_asm); (case kK => first | exact rfl | assumption); (case kr => tb_rel); (case q1 => assumption); (case q2 => assumption); (case kd => ktr_room); (case ku => ktr_units); k_whole; refine rC ?_; intro d9 vs9 k9 hi9 h9 tk9 off9 F9 N9; (dsimp only [List.cons_append, List.nil_append] at N9); (simp only [Offs, LCg.Off1, and_true] at off9); (try k_sweep))))
    k_steps
    all_goals first
      | exact pc_end (by assumption) (by assumption) (if_pos hq)
      | (exfalso; omega)
  (first | (refine rE ?_; intro g1 ws hws) | (rintro _ ⟨g1, rfl⟩ ws hws))
  have hz9 : (lacksV cs ts (2 ^ log.toNat)).filterMap (fun x => if 0 - cs.sum < x ∧ x < cs.sum then none else some x) = [] := List.filterMap_eq_nil_iff.mpr fun x hx => if_pos (hf9 x hx)
  rw [hz9] at hws; cases hws
  try ((try change wpAny _ _ _ _ _ _); k_fold)
  k_with "call type:zip" => refine hold ?_
  k_steps
  · exact fin (muts' := []) (ex := []) hret keep (by assumption) (by assumption) (by assumption) (by assumption) (fun _ h => nomatch h) (fun _ h => nomatch h) (fun _ h => nomatch h) ⟨rfl, rfl, rfl⟩
  rename IntsAre _ (normF _ _) => in9
  have hf7 := hf8 (by omega)
  refine go ?_
  refine pc_zip (by rfl) (by kmk_list) (by kmk_list) i2 in9 (by k_asm) (by k_asm) (groundNe r2 (by k_asm)) (newsNe (by k_asm) (by k_mem)) (by omega) (fun sh o => if absI (absI o - 2 * absI sh) > 2 then some 1 else none) ?turn4 ?done4
  case turn4 =>
    (first | (refine rE ?_; intro g1 x y tx ty zs C oC D m₂ h tk own E' hmem hC ha hb' kFr kNews) | (rintro _ ⟨g1, rfl⟩ x y tx ty zs C oC D m₂ h tk own E' hmem hC ha hb' kFr kNews))
    have hq2 := hb2 _ (List.of_mem_zip hmem).1
    have hq3 := hb3 _ (List.of_mem_zip hmem).2
    have hq4 := hf7 _ hmem
    try ((try change wpAny _ _ _ _ _ _); k_fold)
    k_with_none
    k_with "call ref" => ((k_here; (with_reducible show wpAny _ _ (call (Value.ref 278) _) _ _ _); k_dflt (refine' use0 (lack_call ?q1 ?q2 ?q3 ?q4) ?k1 ?k2 ?k3 ?k4 ?k6 ?kK ?kr ?kd ?ku ?_; (case k1 => k_asm); (case k2 => k_asm); (case k3 => k_asm); (case k4 => k_asm); (case k6 => k_asm); (case kK => first | exact rfl | assumption); (case kr => tb_rel); (case q1 => assumption); (case q2 => assumption); (case q3 => assumption); (case q4 => first | assumption | (refine SD.Ok.hus ?_ _ ?_ <;> assumption)); (case kd => ktr_room); (case ku => ktr_units); k_whole; refine rA ?_; intro t9 h9 tk9 _ F9 N9; (dsimp only [List.nil_append] at N9); (try k_sweep))))
    k_with "call ref" => ((k_here; (with_reducible show wpAny _ _ (call (Value.ref 285) _) _ _ _); k_dflt (refine' use0 (most_call ?q1 ?q2 ?q3) ?k1 ?k2 ?k3 ?k4 ?k6 ?kK ?kr ?kd ?ku ?_; (case k1 => k_asm); (case k2 => k_asm); (case k3 => k_asm); (case k4 => k_asm); (case k6 => k_asm); (case kK => first | exact rfl | assumption); (case kr => tb_rel); (case q1 => assumption); (case q2 => assumption); (case q3 => assumption); (case kd => ktr_room); (case ku => ktr_units); k_whole; refine rA ?_; intro t9 h9 tk9 _ F9 N9; (dsimp only [List.nil_append] at N9); (try k_sweep))))
    k_with "call ref" => ((k_here; (with_reducible show wpAny _ _ (call (Value.ref 292) _) _ _ _); k_dflt (refine' use0 (least_call' ?q1 ?q2 ?q3 ?q4) ?k1 ?k2 ?k3 ?k4 ?k6 ?kK ?kr ?kd ?ku ?_; (case k1 => k_asm); (case k2 => k_asm); (case k3 => k_asm); (case k4 => k_asm); (case k6 => k_asm); (case kK => first | exact rfl | assumption); (case kr => tb_rel); (case q1 => assumption); (case q2 => assumption); (case q3 => assumption); (case q4 => assumption); (case kd => ktr_room); (case ku => ktr_units); k_whole; refine rA ?_; intro t9 h9 tk9 _ F9 N9; (dsimp only [List.nil_append] at N9); (try k_sweep))))
    k_with "call ref" => ((k_here; (with_reducible show wpAny _ _ (call (Value.ref 403) _) _ _ _); k_dflt (refine' use0 (lacks_call ?q1 ?q2 ?q3 ?q4 ?q5 ?q6 ?q7) ?k1 ?k2 ?k3 ?k4 ?k6 ?kK ?kr ?kd ?ku ?_; (case k1 => k_asm); (case k2 => k_asm); (case k3 => k_asm); (case k4 => k_asm); (case k6 => k_asm); (case kK => first | exact rfl | assumption); (case kr => tb_rel); (case q1 => assumption); (case q2 => assumption); (case q3 => first | assumption | omega | (constructor <;> omega)); (case q4 => assumption); (case q5 => assumption); (case q6 => first | assumption | omega | (constructor <;> omega)); (case q7 => first | assumption | omega | (constructor <;> omega)); (case kd => ktr_room); (case ku => ktr_units); k_whole; refine rC ?_; intro d9 vs9 k9 hi9 h9 tk9 off9 F9 N9; (dsimp only [List.cons_append, List.nil_append] at N9); (simp only [Offs, LCg.Off1, and_true] at off9); (try k_sweep))))
    k_with "call ref" => ((k_here; (with_reducible show wpAny _ _ (call (Value.ref 408) _) _ _ _); k_dflt (refine' use0 (whole_call ?q1 ?q2 ?q3 ?q4 ?q5) ?k1 ?k2 ?k3 ?k4 ?k6 ?kK ?kr ?kd ?ku ?_; (case k1 => k_asm); (case k2 => k_asm); (case k3 => k_asm); (case k4 => k_asm); (case k6 => k_asm); (case kK => first | exact rfl | assumption); (case kr => tb_rel); (case q1 => assumption); (case q2 => first | assumption | omega | (constructor <;> omega)); (case q3 => assumption); (case q4 => first | assumption | omega | (constructor <;> omega)); (case q5 => first | assumption | omega | (constructor <;> omega)); (case kd => ktr_room); (case ku => ktr_units); k_whole; refine rC ?_; intro d9 vs9 k9 hi9 h9 tk9 off9 F9 N9; (dsimp only [List.cons_append, List.nil_append] at N9); (simp only [Offs, LCg.Off1, and_true] at off9); (try k_sweep))))
    k_with "call ref" => ((k_here; (with_reducible show wpAny _ _ (call (Value.ref 318) _) _ _ _); k_dflt (refine' use0 (norm_call ?q1 ?q2) ?k1 ?k2 ?k3 ?k4 ?k6 ?kK ?kr ?kd ?ku ?_; (case k1 => k_asm); (case k2 => k_asm); (case k3 => k_asm); (case k4 => k_asm); (case k6 => k_asm); (case kK => first | exact rfl | assumption); (case kr => tb_rel); (case q1 => assumption); (case q2 => assumption); (case kd => ktr_room); (case ku => ktr_units); k_whole; refine rC ?_; intro d9 vs9 k9 hi9 h9 tk9 off9 F9 N9; (dsimp only [List.cons_append, List.nil_append] at N9); (simp only [Offs, LCg.Off1, and_true] at off9); (try k_sweep))))
    k_steps
    all_goals first
      | exact pc_end (by assumption) (by assumption) (if_neg (Int.not_lt.mpr hq4))
      | (exfalso; dsimp only [absI] at hq4; omega)
  (first | (refine rE ?_; intro g1 vs9 hvs9) | (rintro _ ⟨g1, rfl⟩ vs9 hvs9))
  have hz9 : ((ts.zip (normF cs (log + 1))).filterMap fun p => if absI (absI p.2 - 2 * absI p.1) > 2 then some (1 : Int) else none) = [] := List.filterMap_eq_nil_iff.mpr fun p hp => if_neg (Int.not_lt.mpr (hf7 p hp))
  rw [hz9] at hvs9; cases hvs9
  try ((try change wpAny _ _ _ _ _ _); k_fold)
  k_with_none
  k_with "call ref" => ((k_here; (with_reducible show wpAny _ _ (call (Value.ref 278) _) _ _ _); k_dflt (refine' use0 (lack_call ?q1 ?q2 ?q3 ?q4) ?k1 ?k2 ?k3 ?k4 ?k6 ?kK ?kr ?kd ?ku ?_; (case k1 => k_asm); (case k2 => k_asm); (case k3 => k_asm); (case k4 => k_asm); (case k6 => k_asm); (case kK => first | exact rfl | assumption); (case kr => tb_rel); (case q1 => assumption); (case q2 => assumption); (case q3 => assumption); (case q4 => first | assumption | (refine SD.Ok.hus ?_ _ ?_ <;> assumption)); (case kd => ktr_room); (case ku => ktr_units); k_whole; refine rA ?_; intro t9 h9 tk9 _ F9 N9; (dsimp only [List.nil_append] at N9); (try k_sweep))))
  k_with "call ref" => ((k_here; (with_reducible show wpAny _ _ (call (Value.ref 285) _) _ _ _); k_dflt (refine' use0 (most_call ?q1 ?q2 ?q3) ?k1 ?k2 ?k3 ?k4 ?k6 ?kK ?kr ?kd ?ku ?_; (case k1 => k_asm); (case k2 => k_asm); (case k3 => k_asm); (case k4 => k_asm); (case k6 => k_asm); (case kK => first | exact rfl | assumption); (case kr => tb_rel); (case q1 => assumption); (case q2 => assumption); (case q3 => assumption); (case kd => ktr_room); (case ku => ktr_units); k_whole; refine rA ?_; intro t9 h9 tk9 _ F9 N9; (dsimp only [List.nil_append] at N9); (try k_sweep))))
  k_with "call ref" => ((k_here; (with_reducible show wpAny _ _ (call (Value.ref 292) _) _ _ _); k_dflt (refine' use0 (least_call' ?q1 ?q2 ?q3 ?q4) ?k1 ?k2 ?k3 ?k4 ?k6 ?kK ?kr ?kd ?ku ?_; (case k1 => k_asm); (case k2 => k_asm); (case k3 => k_asm); (case k4 => k_asm); (case k6 => k_asm); (case kK => first | exact rfl | assumption); (case kr => tb_rel); (case q1 => assumption); (case q2 => assumption); (case q3 => assumption); (case q4 => assumption); (case kd => ktr_room); (case ku => ktr_units); k_whole; refine rA ?_; intro t9 h9 tk9 _ F9 N9; (dsimp only [List.nil_append] at N9); (try k_sweep))))
  k_with "call ref" => ((k_here; (with_reducible show wpAny _ _ (call (Value.ref 403) _) _ _ _); k_dflt (refine' use0 (lacks_call ?q1 ?q2 ?q3 ?q4 ?q5 ?q6 ?q7) ?k1 ?k2 ?k3 ?k4 ?k6 ?kK ?kr ?kd ?ku ?_; (case k1 => k_asm); (case k2 => k_asm); (case k3 => k_asm); (case k4 => k_asm); (case k6 => k_asm); (case kK => first | exact rfl | assumption); (case kr => tb_rel); (case q1 => assumption); (case q2 => assumption); (case q3 => first | assumption | omega | (constructor <;> omega)); (case q4 => assumption); (case q5 => assumption); (case q6 => first | assumption | omega | (constructor <;> omega)); (case q7 => first | assumption | omega | (constructor <;> omega)); (case kd => ktr_room); (case ku => ktr_units); k_whole; refine rC ?_; intro d9 vs9 k9 hi9 h9 tk9 off9 F9 N9; (dsimp only [List.cons_append, List.nil_append] at N9); (simp only [Offs, LCg.Off1, and_true] at off9); (try k_sweep))))
  k_with "call ref" => ((k_here; (with_reducible show wpAny _ _ (call (Value.ref 408) _) _ _ _); k_dflt (refine' use0 (whole_call ?q1 ?q2 ?q3 ?q4 ?q5) ?k1 ?k2 ?k3 ?k4 ?k6 ?kK ?kr ?kd ?ku ?_; (case k1 => k_asm); (case k2 => k_asm); (case k3 => k_asm); (case k4 => k_asm); (case k6 => k_asm); (case kK => first | exact rfl | assumption); (case kr => tb_rel); (case q1 => assumption); (case q2 => first | assumption | omega | (constructor <;> omega)); (case q3 => assumption); (case q4 => first | assumption | omega | (constructor <;> omega)); (case q5 => first | assumption | omega | (constructor <;> omega)); (case kd => ktr_room); (case ku => ktr_units); k_whole; refine rC ?_; intro d9 vs9 k9 hi9 h9 tk9 off9 F9 N9; (dsimp only [List.cons_append, List.nil_append] at N9); (simp only [Offs, LCg.Off1, and_true] at off9); (try k_sweep))))
  k_with "call ref" => ((k_here; (with_reducible show wpAny _ _ (call (Value.ref 318) _) _ _ _); k_dflt (refine' use0 (norm_call ?q1 ?q2) ?k1 ?k2 ?k3 ?k4 ?k6 ?kK ?kr ?kd ?ku ?_; (case k1 => k_asm); (case k2 => k_asm); (case k3 => k_asm); (case k4 => k_asm); (case k6 => k_asm); (case kK => first | exact rfl | assumption); (case kr => tb_rel); (case q1 => assumption); (case q2 => assumption); (case kd => ktr_room); (case ku => ktr_units); k_whole; refine rC ?_; intro d9 vs9 k9 hi9 h9 tk9 off9 F9 N9; (dsimp only [List.cons_append, List.nil_append] at N9); (simp only [Offs, LCg.Off1, and_true] at off9); (try k_sweep))))
  k_steps
  exact fin (muts' := []) (ex := []) hret keep (by assumption) (by assumption) (by assumption) (by assumption) (fun _ h => nomatch h) (fun _ h => nomatch h) (fun _ h => nomatch h) ⟨rfl, rfl, rfl⟩

theorem fresh_Pm1 : True := by
  k_with_none
  w_top off
  trivial
/-! the mending as steps on pairs of a count and a share -/
noncomputable def lk (size total : Int) (p : Int × Int) : Int := p.1 * size - p.2 * total
noncomputable def UpR (size total : Int) (P P' : List (Int × Int)) : Prop := ∃ pre c s post, P = pre ++ (c, s) :: post ∧ 0 < c ∧ (∀ q ∈ P, 0 < q.1 → lk size total q ≤ lk size total (c, s)) ∧ P' = pre ++ (c, s + 1) :: post
noncomputable def DnR (size total : Int) (P P' : List (Int × Int)) : Prop := ∃ pre c s post, P = pre ++ (c, s) :: post ∧ 1 < s ∧ (∀ q ∈ P, 1 < q.2 → lk size total (c, s) ≤ lk size total q) ∧ P' = pre ++ (c, s - 1) :: post
inductive Run (R : List (Int × Int) → List (Int × Int) → Prop) : Nat → List (Int × Int) → List (Int × Int) → Prop
  | nil (P) : Run R 0 P P
  | step {k P P' P''} : R P P' → Run R k P' P'' → Run R (k + 1) P P''
theorem Run.inv {R : List (Int × Int) → List (Int × Int) → Prop} {I : Nat → List (Int × Int) → Prop} (st : ∀ k P P', I (k + 1) P → R P P' → I k P') : ∀ {k P P'}, Run R k P P' → I k P → I 0 P'
  | _, _, _, .nil _, h => h
  | _, _, _, .step r r', h => Run.inv st r' (st _ _ _ h r)
theorem mem_swap {α : Type} {pre post : List α} {x y q : α} (h : q ∈ pre ++ y :: post) : q = y ∨ q ∈ pre ++ x :: post := by
  simp only [List.mem_append, List.mem_cons] at h ⊢
  rcases h with h | h | h
  · exact .inr (.inl h)
  · exact .inl h
  · exact .inr (.inr (.inr h))
theorem mem_mid {α : Type} {pre post : List α} {x : α} : x ∈ pre ++ x :: post := List.mem_append_right _ (.head _)

/-- shares go with counts -/
noncomputable def Wf (P : List (Int × Int)) : Prop := ∀ p ∈ P, 0 ≤ p.1 ∧ (p.1 = 0 → p.2 = 0) ∧ (0 < p.1 → 1 ≤ p.2)
noncomputable def Mono (P : List (Int × Int)) : Prop := ∀ p ∈ P, ∀ q ∈ P, p.1 < q.1 → p.2 ≤ q.2
theorem Wf.up {size total : Int} {P P' : List (Int × Int)} (W : Wf P) (h : UpR size total P P') : Wf P' := by
  obtain ⟨pre, c, s, post, rfl, hc, hm, rfl⟩ := h
  intro p hp
  rcases mem_swap (x := (c, s)) hp with rfl | hp
  · have := W _ mem_mid
    dsimp only at *; omega
  · exact W p hp
theorem Wf.dn {size total : Int} {P P' : List (Int × Int)} (W : Wf P) (h : DnR size total P P') : Wf P' := by
  obtain ⟨pre, c, s, post, rfl, hc, hm, rfl⟩ := h
  intro p hp
  rcases mem_swap (x := (c, s)) hp with rfl | hp
  · have := W _ mem_mid
    dsimp only at *; omega
  · exact W p hp
theorem lk_lt {size total c d s : Int} (h0 : 0 < size) (h : c < d) : lk size total (c, s) < lk size total (d, s) := by
  have := Int.mul_lt_mul_of_pos_right h h0
  unfold lk; dsimp only; omega
theorem lk_up {size total c s : Int} : lk size total (c, s + 1) = lk size total (c, s) - total := by
  unfold lk; dsimp only; rw [Int.add_mul]; omega
theorem lk_dn {size total c s : Int} : lk size total (c, s - 1) = lk size total (c, s) + total := by
  unfold lk; dsimp only; rw [Int.sub_mul]; omega
theorem Mono.up {size total : Int} {P P' : List (Int × Int)} (h0 : 0 < size) (M : Mono P) (h : UpR size total P P') : Mono P' := by
  obtain ⟨pre, c, s, post, rfl, hc, hm, rfl⟩ := h
  intro p hp q hq hpq
  rcases mem_swap (x := (c, s)) hp with rfl | hp
  · rcases mem_swap (x := (c, s)) hq with rfl | hq
    · dsimp only at hpq; omega
    · have h1 := M _ mem_mid q hq hpq
      obtain ⟨d, t⟩ := q
      dsimp only at *
      rcases Int.lt_or_eq_of_le h1 with h2 | h2
      · omega
      · subst h2
        have h3 := hm _ hq (by dsimp only; omega)
        have := lk_lt (total := total) (s := s) h0 hpq
        omega
  · rcases mem_swap (x := (c, s)) hq with rfl | hq
    · have h1 := M p hp _ mem_mid hpq
      dsimp only at *; omega
    · exact M p hp q hq hpq
theorem Mono.dn {size total : Int} {P P' : List (Int × Int)} (h0 : 0 < size) (M : Mono P) (h : DnR size total P P') : Mono P' := by
  obtain ⟨pre, c, s, post, rfl, hc, hm, rfl⟩ := h
  intro p hp q hq hpq
  rcases mem_swap (x := (c, s)) hq with rfl | hq
  · rcases mem_swap (x := (c, s)) hp with rfl | hp
    · dsimp only at hpq; omega
    · have h1 := M p hp _ mem_mid hpq
      obtain ⟨d, t⟩ := p
      dsimp only at *
      rcases Int.lt_or_eq_of_le h1 with h2 | h2
      · omega
      · subst h2
        have h3 := hm _ hp hc
        have := lk_lt (total := total) (s := t) h0 hpq
        omega
  · rcases mem_swap (x := (c, s)) hp with rfl | hp
    · have h1 := M _ mem_mid q hq hpq
      dsimp only at *; omega
    · exact M p hp q hq hpq

/-- the sums -/
noncomputable def sumS (P : List (Int × Int)) : Int := (P.map (·.2)).sum
noncomputable def sumC (P : List (Int × Int)) : Int := (P.map (·.1)).sum
theorem sumS_mid {pre post : List (Int × Int)} {c s : Int} : sumS (pre ++ (c, s) :: post) = sumS (pre ++ post) + s := by
  unfold sumS
  simp only [List.map_append, List.map_cons, List.sum_append, List.sum_cons]; omega
theorem sumC_mid {pre post : List (Int × Int)} {c s : Int} : sumC (pre ++ (c, s) :: post) = sumC (pre ++ post) + c := by
  unfold sumC
  simp only [List.map_append, List.map_cons, List.sum_append, List.sum_cons]; omega
theorem sum_up {size total : Int} {P P' : List (Int × Int)} (h : UpR size total P P') : sumS P' = sumS P + 1 ∧ sumC P' = sumC P ∧ P'.map (·.1) = P.map (·.1) := by
  obtain ⟨pre, c, s, post, rfl, hc, hm, rfl⟩ := h
  refine ⟨by rw [sumS_mid, sumS_mid]; omega, by rw [sumC_mid, sumC_mid], by simp⟩
theorem sum_dn {size total : Int} {P P' : List (Int × Int)} (h : DnR size total P P') : sumS P' = sumS P - 1 ∧ sumC P' = sumC P ∧ P'.map (·.1) = P.map (·.1) := by
  obtain ⟨pre, c, s, post, rfl, hc, hm, rfl⟩ := h
  refine ⟨by rw [sumS_mid, sumS_mid]; omega, by rw [sumC_mid, sumC_mid], by simp⟩
theorem sum_lk {size total : Int} (P : List (Int × Int)) : (P.map (lk size total)).sum = sumC P * size - sumS P * total := by
  induction P with
  | nil => simp [sumC, sumS]
  | cons p r ih =>
    have e1 : sumC (p :: r) = p.1 + sumC r := by simp [sumC]
    have e2 : sumS (p :: r) = p.2 + sumS r := by simp [sumS]
    rw [List.map_cons, List.sum_cons, ih, e1, e2, Int.add_mul, Int.add_mul]
    unfold lk; omega
theorem sum_neg {α : Type} {f : α → Int} (l : List α) (h : ∀ x ∈ l, f x ≤ 0) : (l.map f).sum ≤ 0 := by
  induction l with
  | nil => simp
  | cons x r ih =>
    have := h x (.head _); have := ih fun y hy => h y (.tail _ hy)
    simp only [List.map_cons, List.sum_cons]; omega
/-- each lack within one state -/
noncomputable def Few (size total : Int) (P : List (Int × Int)) : Prop := ∀ p ∈ P, 0 < p.1 → -total < lk size total p ∧ lk size total p < total
theorem Few.up {size total : Int} {P P' : List (Int × Int)} (ht : 0 < total) (W : Wf P) (hs : sumC P = total) (hz : sumS P < size) (M : Few size total P) (h : UpR size total P P') : Few size total P' := by
  have h1 := sum_lk (size := size) (total := total) P
  obtain ⟨pre, c, s, post, rfl, hc, hm, rfl⟩ := h
  have hpos : 0 < lk size total (c, s) := by
    apply Int.not_le.mp
    intro hn
    have := sum_neg (f := lk size total) (pre ++ (c, s) :: post) fun q hq => by
      have w := W q hq
      by_cases hq0 : 0 < q.1
      · exact Int.le_trans (hm q hq hq0) hn
      · have e1 : q.1 = 0 := by omega
        have e2 := w.2.1 e1
        unfold lk; rw [e1, e2]; omega
    rw [h1, hs, Int.mul_comm total size, ← Int.sub_mul] at this
    have h2 : 0 < size - sumS (pre ++ (c, s) :: post) := by omega
    have := Int.mul_pos h2 ht
    omega
  intro p hp hp0
  rcases mem_swap (x := (c, s)) hp with rfl | hp
  · have := M _ mem_mid hc
    rw [lk_up]; omega
  · exact M p hp hp0
/-- the lacks of those with more than one state lie within one state -/
noncomputable def Many (size total : Int) (P : List (Int × Int)) : Prop := ∀ p ∈ P, ∀ q ∈ P, 1 < p.2 → 1 < q.2 → lk size total p - lk size total q ≤ total
theorem Many.dn {size total : Int} {P P' : List (Int × Int)} (ht : 0 < total) (M : Many size total P) (h : DnR size total P P') : Many size total P' := by
  obtain ⟨pre, c, s, post, rfl, hc, hm, rfl⟩ := h
  intro p hp q hq hp1 hq1
  rcases mem_swap (x := (c, s)) hp with rfl | hp
  · rcases mem_swap (x := (c, s)) hq with rfl | hq
    · omega
    · have := hm q hq hq1
      rw [lk_dn]; omega
  · rcases mem_swap (x := (c, s)) hq with rfl | hq
    · have := M p hp _ mem_mid hp1 hc
      rw [lk_dn]; omega
    · exact M p hp q hq hp1 hq1
noncomputable def Below1 (f : Int → Int) (P : List (Int × Int)) : Prop := ∀ p ∈ P, p.2 ≤ f p.1
theorem Below1.dn {size total : Int} {f : Int → Int} {P P' : List (Int × Int)} (M : Below1 f P) (h : DnR size total P P') : Below1 f P' := by
  obtain ⟨pre, c, s, post, rfl, hc, hm, rfl⟩ := h
  intro p hp
  rcases mem_swap (x := (c, s)) hp with rfl | hp
  · have := M _ mem_mid
    dsimp only at *; omega
  · exact M p hp

/-! the row of lacks, whatever the order -/
noncomputable def lks (size total : Int) (P : List (Int × Int)) : List Int := P.filterMap fun p => if p.1 > 0 then some (lk size total p) else none
noncomputable def keys (total : Int) : Int → Nat → List Int
  | _, 0 => []
  | x, n + 1 => x :: keys total (x + total) n
noncomputable def kys (size total : Int) (P : List (Int × Int)) : List Int := P.flatMap fun p => keys total (lk size total p) (p.2 - 1).toNat
theorem keys_ge {total : Int} (ht : 0 < total) : ∀ (n : Nat) (x y : Int), y ∈ keys total x n → x ≤ y ∧ 0 < n
  | 0, _, _, h => nomatch h
  | n + 1, x, y, h => by
    rcases List.mem_cons.mp h with rfl | h
    · exact ⟨Int.le_refl _, Nat.succ_pos _⟩
    · have := keys_ge ht n _ _ h
      exact ⟨by omega, Nat.succ_pos _⟩
theorem lks_mid {size total : Int} {pre post : List (Int × Int)} {c s : Int} (hc : 0 < c) : (lks size total (pre ++ (c, s) :: post)).Perm (lk size total (c, s) :: lks size total (pre ++ post)) := by
  unfold lks
  rw [List.filterMap_append, List.filterMap_cons, List.filterMap_append]
  simp only [gt_iff_lt, hc, if_true]
  exact List.perm_middle
theorem kys_mid {size total : Int} {pre post : List (Int × Int)} {c s : Int} : (kys size total (pre ++ (c, s) :: post)).Perm (keys total (lk size total (c, s)) (s - 1).toNat ++ kys size total (pre ++ post)) := by
  unfold kys
  rw [List.flatMap_append, List.flatMap_cons, List.flatMap_append, ← List.append_assoc, ← List.append_assoc]
  exact List.perm_append_comm.append_right _
theorem lks_mem {size total : Int} {P : List (Int × Int)} {y : Int} (h : y ∈ lks size total P) : ∃ p ∈ P, 0 < p.1 ∧ lk size total p = y := by
  obtain ⟨p, hp, he⟩ := List.mem_filterMap.mp h
  split at he
  · cases he; exact ⟨p, hp, by assumption, rfl⟩
  · cases he
theorem up_perm {size total : Int} {P P' Q Q' : List (Int × Int)} (h : (lks size total P).Perm (lks size total Q)) (hP : UpR size total P P') (hQ : UpR size total Q Q') : (lks size total P').Perm (lks size total Q') := by
  obtain ⟨pre, c, s, post, rfl, hc, hm, rfl⟩ := hP
  obtain ⟨pre2, c2, s2, post2, rfl, hc2, hm2, rfl⟩ := hQ
  have a1 := lks_mid (size := size) (total := total) (pre := pre) (post := post) (s := s) hc
  have a2 := lks_mid (size := size) (total := total) (pre := pre2) (post := post2) (s := s2) hc2
  have b1 := lks_mid (size := size) (total := total) (pre := pre) (post := post) (s := s + 1) hc
  have b2 := lks_mid (size := size) (total := total) (pre := pre2) (post := post2) (s := s2 + 1) hc2
  have e : lk size total (c, s) = lk size total (c2, s2) := by
    apply Int.le_antisymm
    · have := (h.mem_iff).mp ((a1.mem_iff).mpr (.head _))
      obtain ⟨p, hp, hp0, hpe⟩ := lks_mem this
      rw [← hpe]; exact hm2 p hp hp0
    · have := (h.mem_iff).mpr ((a2.mem_iff).mpr (.head _))
      obtain ⟨p, hp, hp0, hpe⟩ := lks_mem this
      rw [← hpe]; exact hm p hp hp0
  have z := (a1.symm.trans (h.trans a2))
  rw [e] at z
  refine b1.trans (List.Perm.trans ?_ b2.symm)
  rw [lk_up, lk_up, e]
  exact z.cons_inv.cons _
theorem kys_mem {size total : Int} (ht : 0 < total) {P : List (Int × Int)} {y : Int} (h : y ∈ kys size total P) : ∃ p ∈ P, 1 < p.2 ∧ lk size total p ≤ y := by
  obtain ⟨p, hp, he⟩ := List.mem_flatMap.mp h
  have := keys_ge ht _ _ _ he
  exact ⟨p, hp, by omega, this.1⟩
theorem dn_perm {size total : Int} {P P' Q Q' : List (Int × Int)} (ht : 0 < total) (WP : Wf P) (WQ : Wf Q) (h : (lks size total P).Perm (lks size total Q)) (hk : (kys size total P).Perm (kys size total Q)) (hP : DnR size total P P') (hQ : DnR size total Q Q') :
    (lks size total P').Perm (lks size total Q') ∧ (kys size total P').Perm (kys size total Q') := by
  obtain ⟨pre, c, s, post, rfl, hs, hm, rfl⟩ := hP
  obtain ⟨pre2, c2, s2, post2, rfl, hs2, hm2, rfl⟩ := hQ
  have hc : 0 < c := by have := WP _ mem_mid; dsimp only at this; omega
  have hc2 : 0 < c2 := by have := WQ _ mem_mid; dsimp only at this; omega
  have a1 := lks_mid (size := size) (total := total) (pre := pre) (post := post) (s := s) hc
  have a2 := lks_mid (size := size) (total := total) (pre := pre2) (post := post2) (s := s2) hc2
  have b1 := lks_mid (size := size) (total := total) (pre := pre) (post := post) (s := s - 1) hc
  have b2 := lks_mid (size := size) (total := total) (pre := pre2) (post := post2) (s := s2 - 1) hc2
  have k1 := kys_mid (size := size) (total := total) (pre := pre) (post := post) (c := c) (s := s)
  have k2 := kys_mid (size := size) (total := total) (pre := pre2) (post := post2) (c := c2) (s := s2)
  have j1 := kys_mid (size := size) (total := total) (pre := pre) (post := post) (c := c) (s := s - 1)
  have j2 := kys_mid (size := size) (total := total) (pre := pre2) (post := post2) (c := c2) (s := s2 - 1)
  have n1 : (s - 1).toNat = (s - 1 - 1).toNat + 1 := by omega
  have n2 : (s2 - 1).toNat = (s2 - 1 - 1).toNat + 1 := by omega
  rw [n1] at k1
  rw [n2] at k2
  rw [lk_dn] at j1 j2
  simp only [keys, List.cons_append] at k1 k2
  have e : lk size total (c, s) = lk size total (c2, s2) := by
    apply Int.le_antisymm
    · have := (hk.mem_iff).mpr ((k2.mem_iff).mpr (.head _))
      obtain ⟨p, hp, hp0, hpe⟩ := kys_mem ht this
      exact Int.le_trans (hm p hp hp0) hpe
    · have := (hk.mem_iff).mp ((k1.mem_iff).mpr (.head _))
      obtain ⟨p, hp, hp0, hpe⟩ := kys_mem ht this
      exact Int.le_trans (hm2 p hp hp0) hpe
  constructor
  · have z := (a1.symm.trans (h.trans a2))
    rw [e] at z
    refine b1.trans (List.Perm.trans ?_ b2.symm)
    rw [lk_dn, lk_dn, e]
    exact z.cons_inv.cons _
  · have z := (k1.symm.trans (hk.trans k2))
    rw [e] at z
    refine j1.trans (List.Perm.trans ?_ j2.symm)
    rw [e]
    exact z.cons_inv
theorem run_up_perm {size total : Int} {k : Nat} {P P' Q Q' : List (Int × Int)} (h : (lks size total P).Perm (lks size total Q)) (a : Run (UpR size total) k P P') (b : Run (UpR size total) k Q Q') : (lks size total P').Perm (lks size total Q') := by
  induction a generalizing Q with
  | nil => cases b; exact h
  | step r _ ih => cases b with
    | step r' b => exact ih (up_perm h r r') b
theorem run_dn_perm {size total : Int} (ht : 0 < total) {k : Nat} {P P' Q Q' : List (Int × Int)} (w : Wf P) (w' : Wf Q) (h : (lks size total P).Perm (lks size total Q)) (hk : (kys size total P).Perm (kys size total Q)) (a : Run (DnR size total) k P P') (b : Run (DnR size total) k Q Q') : (lks size total P').Perm (lks size total Q') := by
  induction a generalizing Q with
  | nil => cases b; exact h
  | step r _ ih => cases b with
    | step r' b =>
      have z := dn_perm ht w w' h hk r r'
      exact ih (w.dn r) (w'.dn r') z.1 z.2 b

theorem fresh_Pm2 : True := by
  k_with_none
  w_top off
  trivial
/-! what the program's mending does, as steps on pairs -/
theorem zip_set : ∀ (cs sh : List Int) (i : Nat) (v : Int), i < cs.length → sh.length = cs.length → ∃ pre post, cs.zip sh = pre ++ (cs.getD i 0, sh.getD i 0) :: post ∧ cs.zip (sh.set i v) = pre ++ (cs.getD i 0, v) :: post
  | [], _, _, _, h, _ => absurd h (Nat.not_lt_zero _)
  | _ :: _, [], _, _, _, h => by simp at h
  | c :: cs, s :: sh, 0, v, _, _ => ⟨[], cs.zip sh, rfl, rfl⟩
  | c :: cs, s :: sh, i + 1, v, h, hl => by
    obtain ⟨pre, post, e1, e2⟩ := zip_set cs sh i v (by simpa using h) (by simpa using hl)
    refine ⟨(c, s) :: pre, post, ?_, ?_⟩
    · rw [List.zip_cons_cons, e1]; rfl
    · rw [List.set_cons_succ, List.zip_cons_cons, e2]; rfl
theorem zip_mem {cs sh : List Int} (hl : sh.length = cs.length) {q : Int × Int} (h : q ∈ cs.zip sh) : ∃ i : Nat, i < cs.length ∧ q = (cs.getD i 0, sh.getD i 0) := by
  obtain ⟨i, hi, rfl⟩ := List.mem_iff_getElem.mp h
  rw [List.length_zip] at hi
  refine ⟨i, by omega, ?_⟩
  rw [List.getElem_zip]
  have h1 : i < cs.length := by omega
  have h2 : i < sh.length := by omega
  simp [List.getD, h1, h2]
theorem mem_zip {cs sh : List Int} (hl : sh.length = cs.length) {i : Nat} (h : i < cs.length) : (cs.getD i 0, sh.getD i 0) ∈ cs.zip sh := by
  have h2 : i < sh.length := by omega
  refine List.mem_iff_getElem.mpr ⟨i, by rw [List.length_zip]; omega, ?_⟩
  rw [List.getElem_zip]
  simp [List.getD, h, h2]
theorem mostV_max {L : Int → Int} {us : List Int} : ∀ u ∈ us, L u ≤ L (mostV L us) := by
  have key : ∀ (l : List Int) (f : Int), L f ≤ L (l.foldl (mostStep L) f) ∧ ∀ u ∈ l, L u ≤ L (l.foldl (mostStep L) f) := by
    intro l
    induction l with
    | nil => intro f; exact ⟨Int.le_refl _, fun _ h => nomatch h⟩
    | cons x r ih =>
      intro f
      obtain ⟨h1, h2⟩ := ih (mostStep L f x)
      have h3 : L f ≤ L (mostStep L f x) ∧ L x ≤ L (mostStep L f x) := by unfold mostStep; split <;> omega
      rw [List.foldl_cons]
      refine ⟨Int.le_trans h3.1 h1, fun u hu => ?_⟩
      rcases List.mem_cons.mp hu with rfl | hu
      · exact Int.le_trans h3.2 h1
      · exact h2 u hu
  exact (key us _).2
noncomputable def leastInv (L W : Int → Int) (f : Option Int) (done : List Int) : Prop := match f with
  | none => ∀ u ∈ done, ¬ W u > 1
  | some i => i ∈ done ∧ W i > 1 ∧ ∀ u ∈ done, W u > 1 → L i ≤ L u
theorem least_key {L W : Int → Int} : ∀ (l : List Int) (f : Option Int) (done : List Int), leastInv L W f done → leastInv L W (l.foldl (leastStep L W) f) (done ++ l)
  | [], f, done, h => by simpa using h
  | x :: r, f, done, h => by
    have z : leastInv L W (leastStep L W f x) (done ++ [x]) := by
      unfold leastStep
      rcases f with _ | i
      · dsimp only
        split
        · refine ⟨by simp, by assumption, fun u hu hw => ?_⟩
          rcases List.mem_append.mp hu with hu | hu
          · exact absurd hw (h u hu)
          · rw [List.mem_singleton.mp hu]; exact Int.le_refl _
        · intro u hu
          rcases List.mem_append.mp hu with hu | hu
          · exact h u hu
          · rw [List.mem_singleton.mp hu]; assumption
      · dsimp only
        obtain ⟨h1, h2, h3⟩ := h
        split
        · rename_i hc
          refine ⟨by simp, hc.1, fun u hu hw => ?_⟩
          rcases List.mem_append.mp hu with hu | hu
          · have := h3 u hu hw; omega
          · rw [List.mem_singleton.mp hu]; exact Int.le_refl _
        · refine ⟨List.mem_append_left _ h1, h2, fun u hu hw => ?_⟩
          rcases List.mem_append.mp hu with hu | hu
          · exact h3 u hu hw
          · rw [List.mem_singleton.mp hu] at hw ⊢; omega
    have := least_key r _ _ z
    rw [List.append_assoc] at this
    exact this
theorem leastV_inv {L W : Int → Int} (us : List Int) : leastInv L W (leastV L W us) us := by
  have := least_key (L := L) (W := W) us none [] (fun _ h => nomatch h)
  rw [List.nil_append] at this
  exact this
theorem usedI_iff {cs : List Int} {u : Int} : u ∈ usedI cs ↔ ∃ i : Nat, i < cs.length ∧ u = i ∧ 0 < cs.getD i 0 := by
  unfold usedI enumI
  constructor
  · intro h
    obtain ⟨p, hp, he⟩ := List.mem_filterMap.mp h
    obtain ⟨i, hi, rfl⟩ := List.mem_map.mp hp
    rw [List.mem_range] at hi
    dsimp only at he
    split at he
    · cases he; exact ⟨i, hi, rfl, by assumption⟩
    · cases he
  · rintro ⟨i, hi, rfl, h⟩
    refine List.mem_filterMap.mpr ⟨((i : Int), cs.getD i 0), List.mem_map.mpr ⟨i, List.mem_range.mpr hi, rfl⟩, ?_⟩
    exact if_pos h
theorem up_bridge {cs sh : List Int} {size total : Int} (hl : sh.length = cs.length) (hne : usedI cs ≠ []) : UpR size total (cs.zip sh) (cs.zip (upStep cs (usedI cs) size total sh)) := by
  have hm := mostV_mem (L := lackV cs sh size total) hne
  have hx := mostV_max (L := lackV cs sh size total) (us := usedI cs)
  unfold upStep
  generalize mostV (lackV cs sh size total) (usedI cs) = m at hm hx
  obtain ⟨i, hi, rfl, hp⟩ := usedI_iff.mp hm
  rw [Int.toNat_natCast]
  obtain ⟨pre, post, e1, e2⟩ := zip_set cs sh i (sh.getD i 0 + 1) hi hl
  refine ⟨pre, _, _, post, e1, hp, fun q hq hq0 => ?_, e2⟩
  obtain ⟨j, hj, rfl⟩ := zip_mem hl hq
  exact hx j (usedI_iff.mpr ⟨j, hj, rfl, hq0⟩)
theorem up_run {cs : List Int} {size total : Int} (hne : usedI cs ≠ []) : ∀ (k : Nat) (sh : List Int), sh.length = cs.length → Run (UpR size total) k (cs.zip sh) (cs.zip (upV cs (usedI cs) size total k sh))
  | 0, _, _ => .nil _
  | k + 1, sh, hl => .step (up_bridge hl hne) (up_run hne k _ ((List.length_set ..).trans hl))
theorem least_bridge {cs sh : List Int} {size total i : Int} (hl : sh.length = cs.length) (h : leastAt cs (usedI cs) size total sh = some i) (W : Wf (cs.zip sh)) : i ∈ usedI cs ∧ DnR size total (cs.zip sh) (cs.zip (downStep sh i)) := by
  have hv := leastV_inv (L := lackV cs sh size total) (W := fun u => sh.getD u.toNat 0) (usedI cs)
  unfold leastAt at h
  rw [h] at hv
  obtain ⟨hm, hw, hx⟩ := hv
  refine ⟨hm, ?_⟩
  obtain ⟨k, hk, rfl, hp⟩ := usedI_iff.mp hm
  unfold downStep
  rw [Int.toNat_natCast]
  obtain ⟨pre, post, e1, e2⟩ := zip_set cs sh k (sh.getD k 0 - 1) hk hl
  refine ⟨pre, _, _, post, e1, hw, fun q hq hq0 => ?_, e2⟩
  have hq1 : 0 < q.1 := by have := W q hq; omega
  obtain ⟨j, hj, rfl⟩ := zip_mem hl hq
  exact hx j (usedI_iff.mpr ⟨j, hj, rfl, hq1⟩) hq0
theorem used_count : ∀ (P : List (Int × Int)), Wf P → (∀ p ∈ P, ¬ p.2 > 1) → sumS P ≤ ((usedC (P.map (·.1))).length : Int)
  | [], _, _ => by simp [sumS, usedC]
  | p :: r, W, h => by
    have ih := used_count r (fun q hq => W q (.tail _ hq)) (fun q hq => h q (.tail _ hq))
    have h1 := h p (.head _)
    have h2 := W p (.head _)
    have e1 : sumS (p :: r) = p.2 + sumS r := by simp [sumS]
    rw [e1, List.map_cons]
    unfold usedC at ih ⊢
    rw [List.filterMap_cons]
    split
    · rename_i he
      split at he
      · cases he
      · have := h2.2.1 (by omega); omega
    · simp only [List.length_cons]; omega
theorem zip_fst {cs sh : List Int} (hl : sh.length = cs.length) : (cs.zip sh).map (·.1) = cs := by
  rw [show ((fun p : Int × Int => p.1)) = Prod.fst from rfl, List.map_fst_zip (by omega)]
theorem zip_snd {cs sh : List Int} (hl : sh.length = cs.length) : (cs.zip sh).map (·.2) = sh := by
  rw [show ((fun p : Int × Int => p.2)) = Prod.snd from rfl, List.map_snd_zip (by omega)]
theorem down_run {cs : List Int} {size total : Int} (hu : ((usedC cs).length : Int) ≤ size) : ∀ (k : Nat) (sh : List Int), sh.length = cs.length → Wf (cs.zip sh) → sh.sum = size + k →
    downOk cs (usedI cs) size total k sh ∧ Run (DnR size total) k (cs.zip sh) (cs.zip (downV cs (usedI cs) size total k sh))
  | 0, _, _, _, _ => ⟨trivial, .nil _⟩
  | k + 1, sh, hl, W, hs => by
    have hv := leastV_inv (L := lackV cs sh size total) (W := fun u => sh.getD u.toNat 0) (usedI cs)
    cases e : leastAt cs (usedI cs) size total sh with
    | none =>
      exfalso
      unfold leastAt at e
      rw [e] at hv
      have := used_count (cs.zip sh) W fun p hp hgt => by
        have hq1 : 0 < p.1 := by have := W p hp; omega
        obtain ⟨j, hj, rfl⟩ := zip_mem hl hp
        exact hv j (usedI_iff.mpr ⟨j, hj, rfl, hq1⟩) hgt
      rw [zip_fst hl] at this
      unfold sumS at this
      rw [zip_snd hl] at this
      omega
    | some i =>
      obtain ⟨hi, hR⟩ := least_bridge hl e W
      have hl2 : (downStep sh i).length = cs.length := (List.length_set ..).trans hl
      have hsum := (sum_dn hR).1
      unfold sumS at hsum
      rw [zip_snd hl, zip_snd hl2] at hsum
      obtain ⟨z1, z2⟩ := down_run hu k (downStep sh i) hl2 (W.dn hR) (by omega)
      refine ⟨⟨i, e, hi, z1⟩, .step hR ?_⟩
      show Run _ k _ (cs.zip (downV cs (usedI cs) size total k (downStep sh ((leastAt cs (usedI cs) size total sh).getD 0))))
      rw [e]
      exact z2
theorem initV_get {cs : List Int} {size total : Int} : ∀ (us sh : List Int), (∀ u ∈ us, 0 ≤ u) → ∀ i : Nat, i < sh.length → (us.foldl (initStep cs size total) sh).getD i 0 = if (i : Int) ∈ us then max 1 (cs.getD i 0 * size / total) else sh.getD i 0
  | [], _, _, _, _ => by simp
  | u :: r, sh, h, i, hi => by
    rw [List.foldl_cons, initV_get r _ (fun v hv => h v (.tail _ hv)) i (by unfold initStep; rw [List.length_set]; exact hi)]
    have h0 := h u (.head _)
    by_cases h1 : (i : Int) ∈ r
    · rw [if_pos h1, if_pos (.tail _ h1)]
    · rw [if_neg h1]
      by_cases h2 : (i : Int) = u
      · subst h2
        rw [if_pos (.head _)]
        unfold initStep
        simp [List.getD, hi]
      · have h3 : ¬ (i : Int) ∈ u :: r := fun q => by
          rcases List.mem_cons.mp q with q | q
          · exact h2 q
          · exact h1 q
        rw [if_neg h3]
        unfold initStep
        have h4 : u.toNat ≠ i := by omega
        simp [List.getD, h4]
theorem ext_getD {a b : List Int} (hl : a.length = b.length) (h : ∀ i : Nat, i < b.length → a.getD i 0 = b.getD i 0) : a = b := by
  refine List.ext_getElem hl fun i h1 h2 => ?_
  have := h i h2
  simpa [List.getD, h1, h2] using this
theorem initV_whole (cs : List Int) (size : Int) : initV cs size cs.sum = wholeV cs size := by
  refine ext_getD (by rw [initV_length]; simp [wholeV]) fun i hi => ?_
  have hi' : i < cs.length := by simpa [wholeV] using hi
  unfold initV
  rw [initV_get _ _ (fun u hu => by obtain ⟨j, _, rfl, _⟩ := usedI_iff.mp hu; omega) i (by simpa using hi')]
  have e1 : (wholeV cs size).getD i 0 = if cs.getD i 0 > 0 then max 1 (cs.getD i 0 * size / cs.sum) else 0 := by
    unfold wholeV
    simp [List.getD, hi']
  rw [e1]
  by_cases h : cs.getD i 0 > 0
  · rw [if_pos h, if_pos (usedI_iff.mpr ⟨i, hi', rfl, h⟩)]
  · rw [if_neg h, if_neg]
    · simp [List.getD, hi']
    · intro q
      obtain ⟨j, _, e, hp⟩ := usedI_iff.mp q
      have : i = j := by omega
      subst this
      exact h hp

theorem fresh_Pm3 : True := by
  k_with_none
  w_top off
  trivial
/-! what normalize gives answers as the law asks -/
noncomputable def wh (size total c : Int) : Int := if c > 0 then max 1 (c * size / total) else 0
theorem zip_whole (cs : List Int) (size : Int) : cs.zip (wholeV cs size) = cs.map fun c => (c, wh size cs.sum c) := by
  have := List.zip_map' (f := fun c : Int => c) (g := wh size cs.sum) (l := cs)
  rw [List.map_id'] at this
  exact this
theorem wholeV_length (cs : List Int) (size : Int) : (wholeV cs size).length = cs.length := by simp [wholeV]
theorem some_pos {cs : List Int} (h : 0 < cs.sum) : ∃ c ∈ cs, 0 < c := by
  apply Classical.byContradiction
  intro hn
  have := sum_neg (f := fun c : Int => c) cs fun c hc => Int.not_lt.mp fun h0 => hn ⟨c, hc, h0⟩
  rw [List.map_id'] at this
  omega
theorem le_sumS : ∀ {P : List (Int × Int)}, Wf P → ∀ p ∈ P, 0 ≤ p.2 ∧ p.2 ≤ sumS P ∧ 0 ≤ sumS P
  | p :: r, W, q, hq => by
    have e1 : sumS (p :: r) = p.2 + sumS r := by simp [sumS]
    have hp := W p (.head _)
    have h0 : 0 ≤ sumS r := by
      rcases r with _ | ⟨x, r'⟩
      · simp [sumS]
      · exact (le_sumS (fun y hy => W y (.tail _ hy)) x (.head _)).2.2
    rcases List.mem_cons.mp hq with rfl | hq
    · omega
    · have := le_sumS (fun y hy => W y (.tail _ hy)) q hq; omega
section
variable {cs : List Int} {size : Int}
theorem wf_whole (hb : ∀ c ∈ cs, 0 ≤ c) : Wf (cs.zip (wholeV cs size)) := by
  rw [zip_whole]
  intro p hp
  obtain ⟨c, hc, rfl⟩ := List.mem_map.mp hp
  have := hb c hc
  unfold wh
  dsimp only
  split <;> omega
theorem mono_whole (hb : ∀ c ∈ cs, 0 ≤ c) (h0 : 0 < size) (hs : 0 < cs.sum) : Mono (cs.zip (wholeV cs size)) := by
  rw [zip_whole]
  intro p hp q hq hpq
  obtain ⟨c, hc, rfl⟩ := List.mem_map.mp hp
  obtain ⟨d, hd, rfl⟩ := List.mem_map.mp hq
  dsimp only at hpq ⊢
  have := hb c hc
  have h1 : c * size / cs.sum ≤ d * size / cs.sum := Int.ediv_le_ediv hs (Int.mul_le_mul_of_nonneg_right (by omega) (by omega))
  unfold wh
  split <;> split <;> omega
theorem wh_lk {c total : Int} (hc : 0 < c) (h0 : 0 < size) (ht : 0 < total) : (-total < lk size total (c, wh size total c) ∧ lk size total (c, wh size total c) < total) ∧ (1 < wh size total c → 0 ≤ lk size total (c, wh size total c)) := by
  have h1 := Int.mul_ediv_self_le (x := c * size) (k := total) (by omega)
  have h2 := Int.lt_mul_ediv_self_add (x := c * size) ht
  have h3 := Int.mul_pos hc h0
  have h4 : 0 ≤ c * size / total := Int.ediv_nonneg (by omega) (by omega)
  unfold lk wh
  dsimp only
  rw [if_pos hc]
  rcases Int.lt_or_eq_of_le h4 with h5 | h5
  · have e : max 1 (c * size / total) = c * size / total := by omega
    rw [e, Int.mul_comm _ total]
    refine ⟨by omega, fun _ => by omega⟩
  · have e : max 1 (c * size / total) = 1 := by omega
    rw [e]
    rw [← h5] at h2
    refine ⟨by omega, fun h => by omega⟩
theorem few_whole (h0 : 0 < size) (hs : 0 < cs.sum) : Few size cs.sum (cs.zip (wholeV cs size)) := by
  rw [zip_whole]
  intro p hp hp0
  obtain ⟨c, hc, rfl⟩ := List.mem_map.mp hp
  exact (wh_lk hp0 h0 hs).1
theorem many_whole (hb : ∀ c ∈ cs, 0 ≤ c) (h0 : 0 < size) (hs : 0 < cs.sum) : Many size cs.sum (cs.zip (wholeV cs size)) := by
  have W := wf_whole (size := size) hb
  rw [zip_whole] at W ⊢
  intro p hp q hq hp1 hq1
  have wp := W p hp
  have wq := W q hq
  obtain ⟨c, hc, rfl⟩ := List.mem_map.mp hp
  obtain ⟨d, hd, rfl⟩ := List.mem_map.mp hq
  dsimp only at wp wq hp1 hq1
  have h1 := wh_lk (size := size) (total := cs.sum) (c := c) (by omega) h0 hs
  have h2 := (wh_lk (size := size) (total := cs.sum) (c := d) (by omega) h0 hs).2 hq1
  omega
end
/-- the pairs when all is mended -/
noncomputable def nP (cs : List Int) (size : Int) : List (Int × Int) := cs.zip (normSh cs size)
theorem normSh_length (cs : List Int) (size : Int) : (normSh cs size).length = cs.length := by
  unfold normSh; rw [mendV_length, initV_length]
/-- counts that may be spread over size states -/
structure Fair (cs : List Int) (size : Int) : Prop where
  b : ∀ c ∈ cs, 0 ≤ c
  pos : 0 < cs.sum
  used : ((usedC cs).length : Int) ≤ size
  sz : 0 < size
section
variable {cs : List Int} {size : Int}
theorem Fair.upos (f : Fair cs size) : usedI cs ≠ [] := by
  obtain ⟨c, hc, h0⟩ := some_pos f.pos
  obtain ⟨i, hi, rfl⟩ := List.mem_iff_getElem.mp hc
  have : (i : Int) ∈ usedI cs := usedI_iff.mpr ⟨i, hi, rfl, by simpa [List.getD, hi] using h0⟩
  intro q; rw [q] at this; cases this
theorem Fair.n0 (f : Fair cs size) : 0 < (usedC cs).length := by
  obtain ⟨c, hc, h0⟩ := some_pos f.pos
  refine List.length_pos_iff.mpr fun q => ?_
  have : c ∈ usedC cs := List.mem_filterMap.mpr ⟨c, hc, if_pos h0⟩
  rw [q] at this; cases this
theorem sum_zip {sh : List Int} (hl : sh.length = cs.length) : sumS (cs.zip sh) = sh.sum ∧ sumC (cs.zip sh) = cs.sum := by
  unfold sumS sumC
  rw [zip_snd hl, zip_fst hl]; exact ⟨rfl, rfl⟩
theorem Fair.down (f : Fair cs size) : downOk cs (usedI cs) size cs.sum ((initV cs size cs.sum).sum - size).toNat (initV cs size cs.sum) := by
  by_cases h : (initV cs size cs.sum).sum ≤ size
  · rw [show ((initV cs size cs.sum).sum - size).toNat = 0 by omega]; trivial
  · exact (down_run f.used _ _ (initV_length ..) (by rw [initV_whole]; exact wf_whole f.b) (by omega)).1
/-- the mending goes up -/
theorem Fair.run_up (f : Fair cs size) (h : (wholeV cs size).sum ≤ size) : Run (UpR size cs.sum) (size - (wholeV cs size).sum).toNat (cs.zip (wholeV cs size)) (nP cs size) := by
  unfold nP normSh mendV
  rw [initV_whole]
  rw [show ((wholeV cs size).sum - size).toNat = 0 by omega]
  exact up_run f.upos _ _ (wholeV_length ..)
/-- the mending goes down -/
theorem Fair.run_dn (f : Fair cs size) (h : (wholeV cs size).sum > size) : Run (DnR size cs.sum) ((wholeV cs size).sum - size).toNat (cs.zip (wholeV cs size)) (nP cs size) := by
  unfold nP normSh mendV
  rw [initV_whole]
  rw [show (size - (wholeV cs size).sum).toNat = 0 by omega]
  exact (down_run f.used _ _ (wholeV_length ..) (wf_whole f.b) (by omega)).2
structure Spread (cs : List Int) (size : Int) (P : List (Int × Int)) : Prop where
  wf : Wf P
  mono : Mono P
  fst : P.map (·.1) = cs
  sum : sumS P = size
  few : (wholeV cs size).sum ≤ size → Few size cs.sum P
  many : (wholeV cs size).sum > size → Many size cs.sum P ∧ Below1 (wh size cs.sum) P
theorem Fair.spread (f : Fair cs size) : Spread cs size (nP cs size) := by
  have hz := sum_zip (cs := cs) (wholeV_length cs size)
  by_cases h : (wholeV cs size).sum ≤ size
  · have z := Run.inv (R := UpR size cs.sum) (I := fun k P => Wf P ∧ Mono P ∧ P.map (·.1) = cs ∧ sumC P = cs.sum ∧ sumS P + k = size ∧ Few size cs.sum P) (by
      rintro k P P' ⟨h1, h2, h3, h4, h5, h6⟩ r
      obtain ⟨s1, s2, s3⟩ := sum_up r
      exact ⟨h1.up r, h2.up f.sz r, s3.trans h3, s2.trans h4, by omega, h6.up f.pos h1 h4 (by omega) r⟩) (f.run_up h)
      ⟨wf_whole f.b, mono_whole f.b f.sz f.pos, zip_fst (wholeV_length ..), hz.2, by rw [hz.1]; omega, few_whole f.sz f.pos⟩
    obtain ⟨h1, h2, h3, h4, h5, h6⟩ := z
    exact ⟨h1, h2, h3, by omega, fun _ => h6, fun q => by omega⟩
  · have z := Run.inv (R := DnR size cs.sum) (I := fun k P => Wf P ∧ Mono P ∧ P.map (·.1) = cs ∧ sumS P = size + k ∧ Many size cs.sum P ∧ Below1 (wh size cs.sum) P) (by
      rintro k P P' ⟨h1, h2, h3, h5, h6, h7⟩ r
      obtain ⟨s1, s2, s3⟩ := sum_dn r
      exact ⟨h1.dn r, h2.dn f.sz r, s3.trans h3, by omega, h6.dn f.pos r, h7.dn r⟩) (f.run_dn (by omega))
      ⟨wf_whole f.b, mono_whole f.b f.sz f.pos, zip_fst (wholeV_length ..), by rw [hz.1]; omega, many_whole f.b f.sz f.pos, by
        rw [zip_whole]; intro p hp; obtain ⟨c, hc, rfl⟩ := List.mem_map.mp hp; exact Int.le_refl _⟩
    obtain ⟨h1, h2, h3, h5, h6, h7⟩ := z
    exact ⟨h1, h2, h3, by omega, fun q => by omega, fun _ => ⟨h6, h7⟩⟩
end
theorem normOk_of {cs : List Int} {log : Int} (l1 : 5 ≤ log) (l2 : log ≤ 7) (hb : ∀ c ∈ cs, 0 ≤ c ∧ c ≤ 10000) (hl : cs.length < 1000) (hs : cs.sum ≤ 10000000) (f : Fair cs (2 ^ log.toNat)) : NormOk cs log :=
  ⟨l1, l2, hb, hl, f.pos, hs, f.n0, f.used, f.upos, f.down⟩
/-- what is told of a pair -/
noncomputable def tell (size total : Int) (p : Int × Int) : Int := if p.2 = 1 ∧ lk size total p < 0 then -1 else p.2
theorem toldV_tell {cs sh : List Int} {size total : Int} (hl : sh.length = cs.length) : toldV cs sh size total = (cs.zip sh).map (tell size total) := by
  refine List.ext_getElem (by simp [toldV, enumI]; omega) fun i h1 h2 => ?_
  have h3 : i < sh.length := by simpa [toldV, enumI] using h1
  have h4 : i < cs.length := by omega
  simp only [toldV, enumI, List.getElem_map, List.getElem_range, List.getElem_zip]
  unfold toldOne tell lackV lk
  simp [List.getD, h3, h4]
theorem normF_tell (cs : List Int) (log : Int) : normF cs log = (nP cs (2 ^ log.toNat)).map (tell (2 ^ log.toNat) cs.sum) := toldV_tell (normSh_length ..)
theorem normF_length (cs : List Int) (log : Int) : (normF cs log).length = cs.length := by
  rw [normF_tell, List.length_map]; unfold nP; rw [List.length_zip, normSh_length]; omega
theorem tell_abs {size total : Int} {p : Int × Int} (h : 0 ≤ p.2) : absI (tell size total p) = p.2 := by
  unfold tell absI
  split
  · rw [if_pos (by decide)]; omega
  · rw [if_neg (by omega)]
theorem zip_told {cs : List Int} {log : Int} (S : Spread cs (2 ^ log.toNat) (nP cs (2 ^ log.toNat))) : cs.zip (normF cs log) = (nP cs (2 ^ log.toNat)).map fun p => (p.1, tell (2 ^ log.toNat) cs.sum p) := by
  have := List.zip_map' (f := fun p : Int × Int => p.1) (g := tell (2 ^ log.toNat) cs.sum) (l := nP cs (2 ^ log.toNat))
  rw [S.fst, ← normF_tell] at this
  exact this
theorem fm_congr {α β : Type} {f g : α → Option β} : ∀ {l : List α}, (∀ x ∈ l, f x = g x) → l.filterMap f = l.filterMap g
  | [], _ => rfl
  | x :: r, h => by rw [List.filterMap_cons, List.filterMap_cons, h x (.head _), fm_congr fun y hy => h y (.tail _ hy)]
theorem lacks_lks {cs : List Int} {log : Int} (S : Spread cs (2 ^ log.toNat) (nP cs (2 ^ log.toNat))) : lacksV cs (normF cs log) (2 ^ log.toNat) = lks (2 ^ log.toNat) cs.sum (nP cs (2 ^ log.toNat)) := by
  unfold lacksV lks
  rw [zip_told S, List.filterMap_map]
  refine fm_congr fun p hp => ?_
  simp only [Function.comp_apply]
  rw [tell_abs (le_sumS S.wf p hp).1]
  rfl

theorem fresh_Pm4 : True := by
  k_with_none
  w_top off
  trivial
section
variable {cs : List Int} {log : Int}
theorem told_ok (f : Fair cs (2 ^ log.toNat)) : ToldOk cs (normF cs log) (2 ^ log.toNat) := by
  have S := f.spread
  refine ⟨normF_length .., ?_, ?_⟩
  · rw [normF_tell, List.map_map]
    have e : (nP cs (2 ^ log.toNat)).map (absI ∘ tell (2 ^ log.toNat) cs.sum) = (nP cs (2 ^ log.toNat)).map (·.2) := List.map_congr_left fun p hp => tell_abs (le_sumS S.wf p hp).1
    rw [e]; exact S.sum
  · rw [zip_told S]
    intro p hp
    obtain ⟨r, hr, rfl⟩ := List.mem_map.mp hp
    have w := S.wf r hr
    have h0 := (le_sumS S.wf r hr).1
    have ha := tell_abs (size := 2 ^ log.toNat) (total := cs.sum) h0
    dsimp only
    rw [ha]
    refine ⟨?_, ?_, ?_, fun q hq hgt => ?_⟩
    · unfold tell; split <;> omega
    · unfold tell; split <;> omega
    · have e : r.2 = 1 → (lk (2 ^ log.toNat) cs.sum r < 0 ↔ r.1 * 2 ^ log.toNat < cs.sum) := fun e => by unfold lk; rw [e]; omega
      unfold tell
      split
      · rename_i h
        exact ⟨fun _ => ⟨h.1, (e h.1).mp h.2⟩, fun _ => rfl⟩
      · rename_i h
        exact ⟨fun q => by omega, fun q => absurd ⟨q.1, (e q.1).mpr q.2⟩ h⟩
    · obtain ⟨r', hr', rfl⟩ := List.mem_map.mp hq
      rw [tell_abs (le_sumS S.wf r' hr').1]
      exact S.mono r hr r' hr' hgt
theorem told_bound (f : Fair cs (2 ^ log.toNat)) : ∀ t ∈ normF cs log, -1 ≤ t ∧ t ≤ 2 ^ log.toNat := by
  have S := f.spread
  rw [normF_tell]
  intro t ht
  obtain ⟨r, hr, rfl⟩ := List.mem_map.mp ht
  have h := le_sumS S.wf r hr
  rw [S.sum] at h
  unfold tell; split <;> omega
theorem pow_more (h : 0 ≤ log) : (2 : Int) ^ (log + 1).toNat = 2 * 2 ^ log.toNat := by
  rw [Int.toNat_add h (by decide), Int.pow_add, Int.mul_comm]; rfl
theorem near_ok (hlog : 0 ≤ log) (f : Fair cs (2 ^ log.toNat)) (f2 : Fair cs (2 ^ (log + 1).toNat)) : NearOk cs (normF cs log) log (2 ^ log.toNat) := by
  have S := f.spread
  constructor
  · intro hm
    obtain ⟨M, B⟩ := S.many hm
    constructor
    · have e : (wholeV cs (2 ^ log.toNat)).zip (normF cs log) = (nP cs (2 ^ log.toNat)).map fun p => (wh (2 ^ log.toNat) cs.sum p.1, tell (2 ^ log.toNat) cs.sum p) := by
        have := List.zip_map' (f := fun p : Int × Int => wh (2 ^ log.toNat) cs.sum p.1) (g := tell (2 ^ log.toNat) cs.sum) (l := nP cs (2 ^ log.toNat))
        rw [← this, ← normF_tell]
        congr 1
        have e2 : (nP cs (2 ^ log.toNat)).map (fun p => wh (2 ^ log.toNat) cs.sum p.1) = ((nP cs (2 ^ log.toNat)).map (·.1)).map (wh (2 ^ log.toNat) cs.sum) := by rw [List.map_map]; rfl
        rw [e2, S.fst]; rfl
      rw [e]
      intro p hp
      obtain ⟨r, hr, rfl⟩ := List.mem_map.mp hp
      dsimp only
      rw [tell_abs (le_sumS S.wf r hr).1]
      exact B r hr
    · have key : ∀ x ∈ wideV cs (normF cs log) (2 ^ log.toNat), ∃ p ∈ nP cs (2 ^ log.toNat), 1 < p.2 ∧ lk (2 ^ log.toNat) cs.sum p = x := by
        intro x hx
        unfold wideV at hx
        rw [zip_told S, List.filterMap_map] at hx
        obtain ⟨p, hp, he⟩ := List.mem_filterMap.mp hx
        simp only [Function.comp_apply] at he
        split at he
        · rename_i h
          have ht : tell (2 ^ log.toNat) cs.sum p = p.2 := by
            unfold tell at h ⊢
            split at h
            · omega
            · rw [if_neg (by assumption)]
          rw [ht] at he h
          cases he
          exact ⟨p, hp, h, rfl⟩
        · cases he
      intro x hx y hy
      obtain ⟨p, hp, hp1, rfl⟩ := key x hx
      obtain ⟨q, hq, hq1, rfl⟩ := key y hy
      exact M p hp q hq hp1 hq1
  · intro hf
    have F := S.few hf
    constructor
    · rw [lacks_lks S]
      intro x hx
      obtain ⟨p, hp, hp0, rfl⟩ := lks_mem hx
      have := F p hp hp0
      omega
    · intro hf2
      have S2 := f2.spread
      have F2 := S2.few (by rw [pow_more hlog]; exact hf2)
      intro p hp
      obtain ⟨i, hi, rfl⟩ := zip_mem ((normF_length cs (log + 1)).trans (normF_length cs log).symm) hp
      rw [normF_length] at hi
      have l1 : i < (nP cs (2 ^ log.toNat)).length := by unfold nP; rw [List.length_zip, normSh_length]; omega
      have l2 : i < (nP cs (2 ^ (log + 1).toNat)).length := by unfold nP; rw [List.length_zip, normSh_length]; omega
      have e1 : (normF cs log).getD i 0 = tell (2 ^ log.toNat) cs.sum (nP cs (2 ^ log.toNat))[i] := by rw [normF_tell]; simp [List.getD, l1]
      have e2 : (normF cs (log + 1)).getD i 0 = tell (2 ^ (log + 1).toNat) cs.sum (nP cs (2 ^ (log + 1).toNat))[i] := by rw [normF_tell]; simp [List.getD, l2]
      have m1 := List.getElem_mem l1
      have m2 := List.getElem_mem l2
      have q1 : (nP cs (2 ^ log.toNat))[i].1 = cs[i] := by simp only [nP, List.getElem_zip]
      have q2 : (nP cs (2 ^ (log + 1).toNat))[i].1 = cs[i] := by simp only [nP, List.getElem_zip]
      dsimp only
      rw [e1, e2, tell_abs (le_sumS S.wf _ m1).1, tell_abs (le_sumS S2.wf _ m2).1]
      have w1 := S.wf _ m1
      have w2 := S2.wf _ m2
      have b1 := F _ m1
      have b2 := F2 _ m2
      generalize (nP cs (2 ^ log.toNat))[i] = a at *
      generalize (nP cs (2 ^ (log + 1).toNat))[i] = b at *
      obtain ⟨c, s⟩ := a
      obtain ⟨d, o⟩ := b
      dsimp only at *
      have hd : d = c := q2.trans q1.symm
      subst hd
      by_cases hc : 0 < d
      · have b1' := b1 hc
        have b2' := b2 hc
        unfold lk at b1' b2'
        dsimp only at b1' b2'
        rw [pow_more hlog] at b2'
        have ht := f.pos
        generalize cs.sum = t at *
        generalize (2 : Int) ^ log.toNat = z at *
        have g1 : d * (2 * z) = 2 * (d * z) := by rw [Int.mul_left_comm]
        rw [g1] at b2'
        have g2 : (o - 2 * s) * t = o * t - 2 * (s * t) := by rw [Int.sub_mul, Int.mul_assoc]
        have h3 : (o - 2 * s) * t < 3 * t ∧ (-3) * t < (o - 2 * s) * t := by
          rw [g2]; generalize o * t = ot at *; generalize s * t = st at *; generalize d * z = dz at *; omega
        have h4 := Int.lt_of_mul_lt_mul_right h3.1 (by omega)
        have h5 := Int.lt_of_mul_lt_mul_right h3.2 (by omega)
        unfold absI; split <;> omega
      · have : d = 0 := by omega
        have := w1.2.1 this
        have := w2.2.1 ‹_›
        unfold absI; split <;> omega
end
theorem perm_sum {a b : List Int} (h : a.Perm b) : a.sum = b.sum := by
  induction h with
  | nil => rfl
  | cons x _ ih => simp only [List.sum_cons, ih]
  | swap x y l => simp only [List.sum_cons]; omega
  | trans _ _ ih1 ih2 => exact ih1.trans ih2
theorem Fair.perm {cs ds : List Int} {size : Int} (h : cs.Perm ds) (f : Fair cs size) : Fair ds size :=
  ⟨fun c hc => f.b c (h.mem_iff.mpr hc), by rw [← perm_sum h]; exact f.pos, by
    have : (usedC cs).Perm (usedC ds) := h.filterMap _
    rw [← this.length_eq]; exact f.used, f.sz⟩
theorem lacks_perm {cs ds : List Int} {log : Int} (h : cs.Perm ds) (f : Fair cs (2 ^ log.toNat)) : (lacksV cs (normF cs log) (2 ^ log.toNat)).Perm (lacksV ds (normF ds log) (2 ^ log.toNat)) := by
  have f' := f.perm h
  have S := f.spread
  have S' := f'.spread
  rw [lacks_lks S, lacks_lks S']
  have hs := perm_sum h
  have hw : (wholeV cs (2 ^ log.toNat)).Perm (wholeV ds (2 ^ log.toNat)) := by unfold wholeV; rw [hs]; exact h.map _
  have hws := perm_sum hw
  have h0 : (cs.zip (wholeV cs (2 ^ log.toNat))).Perm (ds.zip (wholeV ds (2 ^ log.toNat))) := by rw [zip_whole, zip_whole, hs]; exact h.map _
  have hl : (lks (2 ^ log.toNat) cs.sum (cs.zip (wholeV cs (2 ^ log.toNat)))).Perm (lks (2 ^ log.toNat) cs.sum (ds.zip (wholeV ds (2 ^ log.toNat)))) := h0.filterMap _
  have hk : (kys (2 ^ log.toNat) cs.sum (cs.zip (wholeV cs (2 ^ log.toNat)))).Perm (kys (2 ^ log.toNat) cs.sum (ds.zip (wholeV ds (2 ^ log.toNat)))) := h0.flatMap_right _
  by_cases hz : (wholeV cs (2 ^ log.toNat)).sum ≤ 2 ^ log.toNat
  · have r1 := f.run_up hz
    have r2 := f'.run_up (by rw [← hws]; exact hz)
    rw [← hws, ← hs] at r2
    rw [← hs]
    exact run_up_perm hl r1 r2
  · have r1 := f.run_dn (by omega)
    have r2 := f'.run_dn (by rw [← hws]; omega)
    rw [← hws, ← hs] at r2
    rw [← hs]
    exact run_dn_perm f.pos (wf_whole f.b) (wf_whole f'.b) hl hk r1 r2

theorem fresh_Pm5 : True := by
  k_with_none
  w_top off
  trivial
/-! counts times a number; the law's own counts -/
theorem getD_map {f : Int → Int} (h0 : f 0 = 0) (l : List Int) (i : Nat) : (l.map f).getD i 0 = f (l.getD i 0) := by
  by_cases h : i < l.length
  · simp [List.getD, h]
  · have h2 : l.length ≤ i := by omega
    simp [List.getD, h2, h0]
section
variable {k : Int} (hk : 0 < k)
include hk
theorem times_pos {c : Int} : c * k > 0 ↔ c > 0 := ⟨fun h => Int.pos_of_mul_pos_left h hk, fun h => Int.mul_pos h hk⟩
theorem usedI_times (cs : List Int) : usedI (cs.map fun c => c * k) = usedI cs := by
  unfold usedI enumI
  rw [List.filterMap_map, List.filterMap_map, List.length_map]
  refine fm_congr fun i _ => ?_
  simp only [Function.comp_apply]
  rw [getD_map (f := fun c => c * k) (Int.zero_mul k)]
  by_cases h : cs.getD i 0 > 0
  · rw [if_pos h, if_pos ((times_pos hk).mpr h)]
  · rw [if_neg h, if_neg fun q => h ((times_pos hk).mp q)]
theorem mostV_times (L : Int → Int) (us : List Int) : mostV (fun i => k * L i) us = mostV L us := by
  unfold mostV
  congr 1
  funext f s
  unfold mostStep
  have : k * L s > k * L f ↔ L s > L f := ⟨fun h => Int.lt_of_mul_lt_mul_left h (Int.le_of_lt hk), fun h => Int.mul_lt_mul_of_pos_left h hk⟩
  by_cases h : L s > L f
  · rw [if_pos h, if_pos (this.mpr h)]
  · rw [if_neg h, if_neg fun q => h (this.mp q)]
theorem leastV_times (L W : Int → Int) (us : List Int) : leastV (fun i => k * L i) W us = leastV L W us := by
  unfold leastV
  congr 1
  funext f s
  unfold leastStep
  rcases f with _ | g
  · rfl
  · dsimp only
    have : k * L s < k * L g ↔ L s < L g := ⟨fun h => Int.lt_of_mul_lt_mul_left h (Int.le_of_lt hk), fun h => Int.mul_lt_mul_of_pos_left h hk⟩
    by_cases h : W s > 1 ∧ L s < L g
    · rw [if_pos h, if_pos ⟨h.1, this.mpr h.2⟩]
    · rw [if_neg h, if_neg fun q => h ⟨q.1, this.mp q.2⟩]
theorem lackV_times (cs sh : List Int) (size total : Int) : lackV (cs.map fun c => c * k) sh size (total * k) = fun i => k * lackV cs sh size total i := by
  funext i
  unfold lackV
  rw [getD_map (f := fun c => c * k) (Int.zero_mul k), Int.mul_sub]
  congr 1
  · rw [Int.mul_right_comm, Int.mul_comm]
  · rw [← Int.mul_assoc, Int.mul_comm]
theorem upV_times (cs us : List Int) (size total : Int) : ∀ (n : Nat) (sh : List Int), upV (cs.map fun c => c * k) us size (total * k) n sh = upV cs us size total n sh
  | 0, _ => rfl
  | n + 1, sh => by
    have e : upStep (cs.map fun c => c * k) us size (total * k) sh = upStep cs us size total sh := by
      unfold upStep; rw [lackV_times hk, mostV_times hk]
    show upV _ us size (total * k) n (upStep (cs.map fun c => c * k) us size (total * k) sh) = upV cs us size total n (upStep cs us size total sh)
    rw [e, upV_times cs us size total n]
theorem downV_times (cs us : List Int) (size total : Int) : ∀ (n : Nat) (sh : List Int), downV (cs.map fun c => c * k) us size (total * k) n sh = downV cs us size total n sh
  | 0, _ => rfl
  | n + 1, sh => by
    have e : leastAt (cs.map fun c => c * k) us size (total * k) sh = leastAt cs us size total sh := by
      unfold leastAt; rw [lackV_times hk, leastV_times hk]
    show downV _ us size (total * k) n (downStep sh ((leastAt (cs.map fun c => c * k) us size (total * k) sh).getD 0)) = downV cs us size total n (downStep sh ((leastAt cs us size total sh).getD 0))
    rw [e, downV_times cs us size total n]
theorem sum_times (cs : List Int) : (cs.map fun c => c * k).sum = cs.sum * k := by
  induction cs with
  | nil => simp
  | cons c r ih => simp only [List.map_cons, List.sum_cons, ih, Int.add_mul]
theorem initV_times (cs : List Int) (size total : Int) : initV (cs.map fun c => c * k) size (total * k) = initV cs size total := by
  unfold initV
  rw [usedI_times hk, List.map_map]
  have e : initStep (cs.map fun c => c * k) size (total * k) = initStep cs size total := by
    funext sh u
    unfold initStep
    rw [getD_map (f := fun c => c * k) (Int.zero_mul k), Int.mul_right_comm, Int.mul_ediv_mul_of_pos_left _ _ hk]
  rw [e]
  congr 1
theorem toldV_times (cs sh : List Int) (size total : Int) : toldV (cs.map fun c => c * k) sh size (total * k) = toldV cs sh size total := by
  unfold toldV
  refine List.map_congr_left fun p _ => ?_
  unfold toldOne
  rw [lackV_times hk]
  have : k * lackV cs sh size total p.1 < 0 ↔ lackV cs sh size total p.1 < 0 := ⟨fun h => Int.lt_of_mul_lt_mul_left (a := k) (by rw [Int.mul_zero]; exact h) (Int.le_of_lt hk), fun h => by have := Int.mul_lt_mul_of_pos_left h hk; rwa [Int.mul_zero] at this⟩
  by_cases h : p.2 = 1 ∧ lackV cs sh size total p.1 < 0
  · rw [if_pos h, if_pos ⟨h.1, this.mpr h.2⟩]
  · rw [if_neg h, if_neg fun q => h ⟨q.1, this.mp q.2⟩]
theorem normF_times (cs : List Int) (log : Int) : normF (cs.map fun c => c * k) log = normF cs log := by
  unfold normF normSh mendV
  rw [sum_times hk, usedI_times hk, initV_times hk, upV_times hk, downV_times hk, toldV_times hk]
theorem usedC_times (cs : List Int) : (usedC (cs.map fun c => c * k)).length = (usedC cs).length := by
  unfold usedC
  rw [List.filterMap_map]
  induction cs with
  | nil => rfl
  | cons c r ih =>
    rw [List.filterMap_cons, List.filterMap_cons]
    simp only [Function.comp_apply]
    by_cases h : c > 0
    · rw [if_pos h, if_pos ((times_pos hk).mpr h)]; simp only [List.length_cons, ih]
    · rw [if_neg h, if_neg fun q => h ((times_pos hk).mp q)]; exact ih
theorem Fair.times {cs : List Int} {size : Int} (f : Fair cs size) : Fair (cs.map fun c => c * k) size :=
  ⟨fun c hc => by obtain ⟨d, hd, rfl⟩ := List.mem_map.mp hc; exact Int.mul_nonneg (f.b d hd) (Int.le_of_lt hk), by rw [sum_times hk]; exact Int.mul_pos f.pos hk, by rw [usedC_times hk]; exact f.used, f.sz⟩
end
theorem usedC_le (cs : List Int) : (usedC cs).length ≤ cs.length := List.length_filterMap_le ..
theorem sum_le {cs : List Int} {m : Int} (h : ∀ c ∈ cs, c ≤ m) : cs.sum ≤ m * cs.length := by
  induction cs with
  | nil => simp
  | cons c r ih =>
    have := h c (.head _)
    have := ih fun x hx => h x (.tail _ hx)
    simp only [List.sum_cons, List.length_cons]
    rw [show ((r.length + 1 : Nat) : Int) = (r.length : Int) + 1 from rfl, Int.mul_add]; omega
theorem sum_ge {cs : List Int} (h : ∀ c ∈ cs, 0 ≤ c) : 0 ≤ cs.sum ∧ ∀ c ∈ cs, c ≤ cs.sum := by
  induction cs with
  | nil => exact ⟨by simp, fun _ h => nomatch h⟩
  | cons c r ih =>
    have h1 := h c (.head _)
    obtain ⟨h2, h3⟩ := ih fun x hx => h x (.tail _ hx)
    simp only [List.sum_cons]
    refine ⟨by omega, fun x hx => ?_⟩
    rcases List.mem_cons.mp hx with rfl | hx
    · omega
    · have := h3 x hx; omega
theorem Good.fair {cs : List Int} (G : Good cs) {size : Int} (h : 32 ≤ size) : Fair cs size := by
  refine ⟨fun c hc => (G.each c hc).1, ?_, ?_, by omega⟩
  · obtain ⟨xs, c, rfl, hc⟩ := G.last
    have := (sum_ge fun c hc => (G.each c hc).1).2 c (List.mem_append_right _ (.head _))
    omega
  · have := usedC_le cs
    have := G.len
    omega
theorem Good.sum_le {cs : List Int} (G : Good cs) : cs.sum ≤ 14368 := by
  have h1 := Mine.sum_le (m := 449) fun c hc => (G.each c hc).2
  have h2 := G.len
  omega
theorem pow_5 {log : Int} (h1 : 5 ≤ log) (h2 : log ≤ 7) : 32 ≤ (2 : Int) ^ log.toNat ∧ (2 : Int) ^ log.toNat ≤ 128 := by
  rcases (by omega : log = 5 ∨ log = 6 ∨ log = 7) with rfl | rfl | rfl <;> decide
theorem Good.norm {cs : List Int} (G : Good cs) {log : Int} (h1 : 5 ≤ log) (h2 : log ≤ 7) : NormOk cs log := by
  refine normOk_of h1 h2 (fun c hc => by have := G.each c hc; omega) (by have := G.len; omega) (by have := G.sum_le; omega) (G.fair (pow_5 h1 h2).1)
theorem Good.norm_times {cs : List Int} (G : Good cs) {log k : Int} (h1 : 5 ≤ log) (h2 : log ≤ 7) (hk : 0 < k) (hk2 : k ≤ 8) : NormOk (cs.map fun c => c * k) log := by
  have key : ∀ c ∈ cs.map fun c => c * k, 0 ≤ c ∧ c ≤ 3592 := fun c hc => by
    obtain ⟨d, hd, rfl⟩ := List.mem_map.mp hc
    have := G.each d hd
    refine ⟨Int.mul_nonneg this.1 (Int.le_of_lt hk), ?_⟩
    have := Int.mul_le_mul this.2 hk2 (by omega) (by decide)
    omega
  refine normOk_of h1 h2 (fun c hc => by have := key c hc; omega) (by have := G.len; rw [List.length_map]; omega) ?_ ((G.fair (pow_5 h1 h2).1).times hk)
  have h1 := Mine.sum_le (m := 3592) fun c hc => (key c hc).2
  have h2 := G.len
  rw [List.length_map] at h1
  omega
theorem Good.norm_perm {cs ds : List Int} (h : cs.Perm ds) (G : Good cs) {log : Int} (h1 : 5 ≤ log) (h2 : log ≤ 7) : NormOk ds log :=
  normOk_of h1 h2 (fun c hc => by have := G.each c (h.mem_iff.mpr hc); omega) (by have := G.len; rw [← h.length_eq]; omega) (by have := G.sum_le; rw [← perm_sum h]; omega) ((G.fair (pow_5 h1 h2).1).perm h)
/-- as many used symbols as states -/
theorem all_one : ∀ {P : List (Int × Int)}, (∀ p ∈ P, 1 ≤ p.2) → sumS P ≤ P.length → ∀ p ∈ P, p.2 = 1
  | p :: r, h, hs, q, hq => by
    have e1 : sumS (p :: r) = p.2 + sumS r := by simp [sumS]
    have h1 := h p (.head _)
    have h2 : (r.length : Int) ≤ sumS r := by
      clear hq hs e1
      induction r with
      | nil => simp [sumS]
      | cons x r ih =>
        have e2 : sumS (x :: r) = x.2 + sumS r := by simp [sumS]
        have := h x (.tail _ (.head _))
        have := ih fun y hy => h y (by rcases List.mem_cons.mp hy with rfl | hy; exact .head _; exact .tail _ (.tail _ hy))
        simp only [List.length_cons]; omega
    simp only [List.length_cons] at hs
    rcases List.mem_cons.mp hq with rfl | hq
    · omega
    · exact all_one (fun y hy => h y (.tail _ hy)) (by omega) q hq
theorem used_ones {us : List Int} (hl : us.length = 32) (hp : ∀ u ∈ us, 0 < u) : (normF us 5).map absI = List.replicate 32 1 := by
  have f : Fair us (2 ^ (5 : Int).toNat) := by
    have e : (2 : Int) ^ (5 : Int).toNat = 32 := by decide
    rw [e]
    refine ⟨fun c hc => by have := hp c hc; omega, ?_, by have := usedC_le us; omega, by decide⟩
    rcases us with _ | ⟨u, r⟩
    · cases hl
    · have := (sum_ge fun c hc => Int.le_of_lt (hp c hc)).2 u (.head _)
      have := hp u (.head _); omega
  have S := f.spread
  have hlen : (nP us (2 ^ (5 : Int).toNat)).length = 32 := by unfold nP; rw [List.length_zip, normSh_length]; omega
  have h1 : ∀ p ∈ nP us (2 ^ (5 : Int).toNat), 1 ≤ p.2 := fun p hp' => by
    have hm : p.1 ∈ us := by rw [← S.fst]; exact List.mem_map_of_mem hp'
    exact (S.wf p hp').2.2 (hp _ hm)
  have h2 := all_one h1 (by rw [S.sum, hlen]; decide)
  rw [normF_tell, List.map_map, List.eq_replicate_iff]
  refine ⟨by rw [List.length_map, hlen], fun b hb => ?_⟩
  obtain ⟨p, hp', rfl⟩ := List.mem_map.mp hb
  rw [Function.comp_apply, tell_abs (le_sumS S.wf p hp').1, h2 p hp']
theorem used_norm {us : List Int} (hl : us.length = 32) (hp : ∀ u ∈ us, 0 < u ∧ u ≤ 449) : NormOk us 5 := by
  refine normOk_of (by decide) (by decide) (fun c hc => by have := hp c hc; omega) (by omega) (by have := Mine.sum_le (m := 449) fun c hc => (hp c hc).2; omega) ?_
  rw [show (2 : Int) ^ (5 : Int).toNat = 32 from rfl]
  refine ⟨fun c hc => by have := hp c hc; omega, ?_, by have := usedC_le us; omega, by decide⟩
  rcases us with _ | ⟨u, r⟩
  · cases hl
  · have := (sum_ge fun c hc => Int.le_of_lt (hp c hc).1).2 u (.head _)
    have := hp u (.head _); omega

theorem fresh_R1 : True := by
  k_with_none
  w_top off
  trivial
section
variable {M : Model} {A : Around} {s : Shared} {env : Env}
theorem execs_consR {st : Stmt} {rest : List Stmt} {Q : Flow → Shared → Prop} (h : wpR M A (exec st env) (fun f s' => match f with | .next => wpR M A (execs rest env) Q s' | f => Q f s') s) : wpR M A (execs (st :: rest) env) Q s := by
  rw [execs_cons]
  refine wpR_bind (wpR_mono h fun f s' h' => ?_)
  cases f <;> first | exact h' | exact wpR_pure h'
theorem IfR {test : PySem.Expr} {body orelse : List Stmt} {pos : Pos} {Q : Flow → Shared → Prop}
    (h : wpR M A (isTrue test env (eval test env)) (fun b s₂ => if b = true then wpR M A (execs body env) Q s₂ else wpR M A (execs orelse env) Q s₂) s) : wpR M A (exec (.If test body orelse pos) env) Q s := by
  rw [exec_If]
  exact wpR_bind (wpR_standAt (wpR_bind (wpR_mono h fun b s₂ h₂ => wpR_if h₂)))
theorem AssignR {x : Str} {pos' pos : Pos} {value : PySem.Expr} {Q : Flow → Shared → Prop}
    (h : wpR M A (eval value env) (fun v s₁ => wpAny M A (storeName env x v) (fun _ => Q .next) (fun _ _ => False) s₁) s)
    (hs : swapsWith value (some (.Name x pos')) pos.line env = pure false := by rfl) : wpR M A (exec (.Assign [.Name x pos'] value pos) env) Q s := fun Γ p hΓ hb hc => by
  simp only [exec_Assign_Name env x pos' value pos hs, Sem.wp_bind', Sem.wp_cmd_standAt, Sem.wp_bindName, Sem.wp_pure']
  exact Sem.wp_mono M Γ _ (fun v p₁ s₁ h₁ => h₁ Γ _ hΓ) (fun _ _ _ h' => h') _ _ (h Γ _ hΓ hb hc)
theorem AssignAttrR {o value : PySem.Expr} {attr : Str} {pos' pos : Pos} {Q : Flow → Shared → Prop}
    (h : wpR M A (eval value env) (fun v s₁ => wpAny M A (eval o env) (fun ov s₂ => wpAny M A (setAttr ov attr v) (fun _ => Q .next) (fun _ _ => False) s₂) (fun _ _ => False) s₁) s)
    (hs : swapsWith value (some (.Attribute o attr pos')) pos.line env = pure false := by rfl) : wpR M A (exec (.Assign [.Attribute o attr pos'] value pos) env) Q s := fun Γ p hΓ hb hc => by
  simp only [plainObj_exec_Assign_Attribute o attr pos' value pos hs, assign_Attribute, Sem.wp_bind', Sem.wp_holding, Sem.wp_cmd_standAt, Sem.wp_release, Sem.wp_pure']
  exact Sem.wp_mono M Γ _ (fun v p₁ s₁ h₁ => Sem.wp_mono M Γ _ (fun ov _ s₂ h₂ => h₂ Γ _ hΓ) (fun _ _ _ h' => h') _ _ (h₁ Γ p₁ hΓ)) (fun _ _ _ h' => h') _ _ (h Γ _ hΓ hb hc)
theorem CallR_ {func : PySem.Expr} {args : List PySem.Expr} {pos : Pos} {Q : Value → Shared → Prop}
    (h : wpAny M A (eval func env) (fun f s₁ => wpR M A (callWith pos f [] (backTo pos (starEach args env)) []) Q s₁) (fun _ _ => False) s)
    (he : eval (.Call func args [] pos) env = (do callWith pos (← eval func env) [] (backTo pos (starEach args env)) (backToKw pos (keywordEach [] env))) := by rfl) : wpR M A (eval (.Call func args [] pos) env) Q s := by
  rw [he]; exact wpR_bind (wpR_of h)
theorem MethodCallR {o : PySem.Expr} {name : Str} {apos pos : Pos} {args : List PySem.Expr} {pl : Sem Bool} {Q : Value → Shared → Prop}
    (h : wpAny M A (eval o env) (fun ov s₁ => wpAny M A (getMethod ov name pl) (fun fx s₂ => wpR M A (callWith pos fx.1 fx.2 (backTo pos (starEach args env)) []) Q s₂) (fun _ _ => False) s₁) (fun _ _ => False) s)
    (he : eval (.Call (.Attribute o name apos) args [] pos) env = (do
      let ov ← eval o env
      standAt apos.atName
      let (f, first) ← holding [ov] (getMethod ov name pl)
      callWith pos f first (backTo pos (starEach args env)) []) := by rfl) : wpR M A (eval (.Call (.Attribute o name apos) args [] pos) env) Q s := by
  rw [he]
  exact wpR_bind (wpR_of (wpAny_mono h (fun ov s₁ h₁ => wpR_bind (wpR_standAt (wpR_bind (wpR_holding (wpR_of (wpAny_mono h₁ (fun fx s₂ h₂ => h₂) fun _ _ x => x)))))) fun _ _ x => x))
theorem splicedR {x : Sem Value} {rest : List (Bool × Sem Value)} {Q : List Value → Shared → Prop}
    (h : wpR M A x (fun v s₁ => wpAny M A (spliced rest) (fun vs s₂ => Q (v :: vs) s₂) (fun _ _ => False) s₁) s) : wpR M A (spliced ((false, x) :: rest)) Q s := by
  rw [spliced]
  refine wpR_bind (wpR_mono h fun v s₁ h₁ => ?_)
  simp only [Bool.false_eq_true, if_false]
  exact wpR_bind (wpR_pure (wpR_bind (wpR_holding (wpR_of (wpAny_mono h₁ (fun vs s₂ h₂ => wpR_pure h₂) fun _ _ x => x)))))
theorem evalArgsR {f : Value} {x : Sem Value} {rest : List (Bool × Sem Value)} {Q : Args → Shared → Prop}
    (h : wpR M A (spliced ((false, x) :: rest)) (fun vs s' => Q ⟨vs, []⟩ s') s) : wpR M A (evalArgs f true ((false, x) :: rest) []) Q s := by
  unfold evalArgs
  show wpR M A (spliced ((false, x) :: rest) >>= _) Q s
  refine wpR_bind (wpR_mono h fun vs s' h' => ?_)
  refine wpR_holding ?_
  exact wpR_bind (wpR_pure (wpR_bind (wpR_pure (wpR_pure h'))))
theorem keepR {α : Type} {vs : List Value} {m : Sem α} {Q : α → Shared → Prop} (h : wpR M A m Q s) : wpR M A (m.keep vs) Q s := fun Γ p hΓ hb hc => by rw [Sem.wp_keep]; exact h Γ p hΓ hb hc
theorem callWith_ofR {pos : Pos} {f : Value} {first : List Value} {P : Heap → Prop} {args : List (Bool × Sem Value)} {Q : Value → Shared → Prop} (hplain : args.any (·.1) = false)
    (hk : ∀ h, P h → ∃ k, (k = Keeper.frame ∨ k = Keeper.machine ∨ k = Keeper.boundFrame) ∧ Looks M h (keeperOf f) k)
    (h : wpR M A (evalArgs f true args []) (fun a s₁ => P s₁.heap ∧ wpR M A (call f (first ++ a.pos) a.kw) Q s₁) s) : wpR M A (callWith pos f first args []) Q s := by
  unfold callWith
  refine wpR_bind (wpR_holding (wpR_mono h fun a s₁ h₁ => wpR_bind (wpR_standAt ?_)))
  obtain ⟨k, hk', L⟩ := hk _ h₁.1
  simp only [hplain, List.any_nil, Bool.or_false]
  refine wpR_bind (wpR_of (L.here ?_))
  have tail : ∀ {t : Sem Value}, wpR M A t Q s₁ → wpR M A (t >>= fun r => holding [r] point >>= fun _ => pure r) Q s₁ :=
    fun ht => wpR_bind (wpR_mono ht fun r s₂ hr => wpR_bind (wpR_holding (wpR_point (wpR_pure hr))))
  have marked (mk : Value) : wpR M A (callMarked mk f (first ++ a.pos) a.kw) Q s₁ := by unfold callMarked; exact keepR h₁.2
  rcases hk' with rfl | rfl | rfl <;> dsimp only <;> first | exact tail h₁.2 | (split <;> first | exact tail h₁.2 | exact tail (marked _))
/-- a call of a def or a class of the fragment, its arguments plain -/
theorem callWithR {K : Frag} {h₀ : Heap} {pos : Pos} {f : Value} {first : List Value} {e : PySem.Expr} {rest : List PySem.Expr} {Q : Value → Shared → Prop} (_X : K.In h₀) (hk : keepIn K f = true)
    (h : wpAny M A (spliced (backTo pos (starEach (e :: rest) env))) (fun vs s₁ => K.In s₁.heap ∧ wpR M A (call f (first ++ vs)) Q s₁) (fun _ _ => False) s)
    (he : starEach (e :: rest) env = (false, eval e env) :: starEach rest env := by rfl) (hplain : (backTo pos (starEach rest env)).any (·.1) = false := by rfl) :
    wpR M A (callWith pos f first (backTo pos (starEach (e :: rest) env)) []) Q s := by
  rw [he] at h ⊢
  exact callWith_ofR (by show (false || (backTo pos (starEach rest env)).any (·.1)) = false; rw [hplain]; rfl) (keeps_K hk) (evalArgsR (wpR_of h))
/-- the same where the first argument is not plain -/
theorem callWithR1 {K : Frag} {h₀ : Heap} {pos : Pos} {f : Value} {first : List Value} {e : PySem.Expr} {rest : List PySem.Expr} {Q : Value → Shared → Prop} (_X : K.In h₀) (hk : keepIn K f = true)
    (h : wpR M A (eval e env) (fun v s₁ => wpAny M A (spliced (backTo pos (starEach rest env))) (fun vs s₂ => K.In s₂.heap ∧ wpR M A (call f (first ++ v :: vs)) Q s₂) (fun _ _ => False) s₁) s)
    (he : starEach (e :: rest) env = (false, eval e env) :: starEach rest env := by rfl) (hplain : (backTo pos (starEach rest env)).any (·.1) = false := by rfl) (hb : backTo pos ((false, eval e env) :: starEach rest env) = (false, eval e env) :: backTo pos (starEach rest env) := by rfl) :
    wpR M A (callWith pos f first (backTo pos (starEach (e :: rest) env)) []) Q s := by
  rw [he, hb]
  exact callWith_ofR (by show (false || (backTo pos (starEach rest env)).any (·.1)) = false; rw [hplain]; rfl) (keeps_K hk) (evalArgsR (splicedR h))
theorem callWithR0 {K : Frag} {pos : Pos} {f : Value} {first : List Value} {Q : Value → Shared → Prop} (X : K.In s.heap) (hk : keepIn K f = true)
    (h : wpR M A (call f (first ++ [])) Q s) : wpR M A (callWith pos f first (backTo pos (starEach [] env)) []) Q s :=
  callWith_ofR rfl (keeps_K hk) (wpR_of (evalArgs_nil3 ⟨X, h⟩))
end
section
variable {prog : Program} {w : World} {A : Around} {s : Shared} {env : Env}
theorem ExprR {e : PySem.Expr} {pos : Pos} {Q : Flow → Shared → Prop} (h : wpR (model prog w) A (eval e env) (fun _ => Q .next) s)
    (hi : interactive env = false := by rfl) (hs : swapsWith e none pos.line env = pure false := by rfl) : wpR (model prog w) A (exec (.Expr e pos) env) Q s := by
  rw [exec_Expr env e pos hi hs]
  exact wpR_bind (wpR_standAt (wpR_bind (wpR_mono h fun v s' h' => wpR_of (wpAny_dropValue h'))))
theorem WhileR {test : PySem.Expr} {body : List Stmt} {pos : Pos} {Q : Flow → Shared → Prop} (hA : A.mark none = A) (I : Nat → Shared → Prop)
    (turn : ∀ n s, I n s → wpR (model prog w) A (isTrue test env (eval test env)) (fun b s₂ => if b = true then wpR (model prog w) A (execs body env) (fun f s₃ => match f with
            | .next | .cont => ∃ m, m < n ∧ I m s₃
            | .brk => Q .next s₃
            | .ret v => Q (.ret v) s₃) s₂ else Q .next s₂) s)
    (n : Nat) (h : I n s) : wpR (model prog w) A (exec (.While test body [] pos) env) Q s := by
  rw [exec_While]
  refine wpR_bind (wpR_standAt ?_)
  unfold runOwn
  refine wpR_onRaise (wpR_run ?_)
  rw [hA]
  refine codeR_loop rfl rfl I (fun n s hI => ?_) n h
  show wpR _ A ((whileTurn test body [] env).onRaise (fun x => do noteFrame x env; theTreesLotGoes x)) _ s
  refine wpR_onRaise ?_
  simp only [whileTurn]
  refine wpR_bind (wpR_mono (turn n s hI) fun b s₂ h₂ => ?_)
  cases b with
  | false =>
    simp only [Bool.false_eq_true, if_false] at h₂ ⊢
    exact wpR_bind (wpR_of (wpAny_execs_nil (wpR_pure h₂)))
  | true =>
    simp only [if_true] at h₂ ⊢
    refine wpR_bind (wpR_mono h₂ fun f s₃ h₃ => ?_)
    cases f with
    | next => exact wpR_pure ⟨rfl, h₃⟩
    | cont => exact wpR_pure ⟨rfl, h₃⟩
    | brk => exact wpR_pure h₃
    | ret v => exact wpR_pure h₃
theorem codeR_func {body : List Stmt} {R : Flow → Shared → Prop} (h : wpR (model prog w) (A.deeper env) (execs body env) (fun f s' => R (.ret (match f with | .ret v => v | _ => .none)) s') s) : codeR (model prog w) A (.func body env) R s := by
  refine codeR_of_tree rfl ?_
  show wpR _ (A.deeper env) (do point; match ← (execs body env).onRaise (leaving env) with | .ret v => ret v | _ => ret .none) _ s
  refine wpR_bind (wpR_point (wpR_bind (wpR_onRaise (wpR_mono h fun f s' h' => ?_))))
  cases f <;> exact wpR_pure h'
theorem codeR_call_function {a : Addr} {args : Args} {o : Obj} {fd : FuncData} {body : List Stmt} {R : Flow → Shared → Prop} (hroom : A.depth < recursionLimit) (ho : s.heap.get? a = some o)
    (hd' : o.data = .func fd) (hco : fd.scope.isCoroutine = false) (hgen : fd.scope.isGenerator = false) (hbody : fd.body = .stmts body) (hcd : s.heap.CodeRec fd.code fd.qualname)
    (h : wpAny (model prog w) A.in1 (bindArgs fd args) (fun binds s₁ => wpAny (model prog w) A.in1 (newFunctionEnv fd.scope fd.globals fd.closure binds (fd.qualname ++ ".<locals>.") (some a) fd.code none fd.builtins)
        (fun env s₂ => s₂.heap.NoLimit ∧ codeR (model prog w) A (.func body env) R s₂) (fun _ _ => False) s₁) (fun _ _ => False) s) : codeR (model prog w) A (.call (.ref a) args) R s := by
  refine codeR_of_tree rfl (wpR_of ?_)
  show wpAny _ A.in1 (callAny (.ref a) args) _ _ s
  simp only [callAny]
  refine wpAny_bind (wpAny_load ho ?_)
  refine hideG fun G9 k9 => ?_
  obtain ⟨c, oc, vs, tq, hc, hoc, hdc, hq⟩ := hcd
  refine k9 ?_
  clear k9 G9
  simp only [hd', callFunction, hco, hgen, hbody, hc]
  rw [hc] at h
  refine wpAny_bind (m := field (.ref c) 1) (wpAny_field hoc hdc hq (wpAny_bind (wpAny_pure ?_)))
  exact wpAny_bind (wpAny_mono h (fun binds s₁ h₁ => wpAny_bind (wpAny_mono h₁ (fun env s₂ h₂ => wpAny_bind (wpAny_enterFrame h₂.1 hroom (wpAny_pure (And.intro rfl h₂.2)))) fun _ _ h' => h')) fun _ _ h' => h')
end

theorem fresh_R2 : True := by
  k_with_none
  w_top off
  trivial
section
variable {prog : Program} {w : World} {A₀ A : Around} {s : Shared} {base h₀ : Heap} {outer : List Env} {L : Addr} {m mg mb : Str → Option Value} {env : Env} {muts : List (Addr × Obj)} {K : Frag} {p : Program} {loose : List Str} {mean : ExcName → Option Value}
  {Q : Value → Shared → Prop} {name qual : Str} {params : Arguments} {body : List Stmt} {scope : Scope} {dV kV doc pm cdv ct oc : Value} {an od : Option Addr} {osl : Array (Option Value)} {f : Addr} {args : Args} {binds : List (Str × Value)}
/-- the answer of a call, as a result -/
noncomputable abbrev okR (Q : Value → Shared → Prop) : Result → Shared → Prop := fun r s' => match r with | .ok (.ret v) => Q v s' | _ => False
noncomputable abbrev flR (Q : Value → Shared → Prop) : Flow → Shared → Prop := fun f s' => match f with | .ret v => Q v s' | _ => False

theorem codeR_call_def {R : Flow → Shared → Prop} {a : Addr} {o : Obj} {fd : FuncData} {body : List Stmt} {args : Args} {binds : List (Str × Value)}
    (hroom : A.depth < recursionLimit) (ho : s.heap.get? a = some o) (hdata : o.data = .func fd) (hlim : s.heap.NoLimit) (hcd : s.heap.CodeRec fd.code fd.qualname)
    (hbody : fd.body = .stmts body) (hbind : BindsTo s fd args binds) (hcell : ∀ x ∈ fd.scope.names, x.2 ≠ .cell) (hloc : ∀ x ∈ binds, fd.scope.names.lookup x.1 = some .local)
    (h : ∀ h₀, h₀.Ns s.heap.objs.size (fun x => binds.reverse.lookup x) → (∀ b o, s.heap.get? b = some o → h₀.get? b = some o) →
      wpR (model prog w) (A.deeper (callEnv fd s.heap.objs.size a)) (execs body (callEnv fd s.heap.objs.size a)) (fun f s' => R (.ret (match f with | .ret v => v | _ => .none)) s') { s with heap := h₀, toks := s.toks + binds.length })
    (hco : fd.scope.isCoroutine = false) (hgen : fd.scope.isGenerator = false) (hk : fd.scope.kind = .function) : codeR (model prog w) A (.call (.ref a) args) R s := by
  refine codeR_call_function hroom ho hdata hco hgen hbody hcd (hbind _ _ _ _ ?_)
  refine wpAny_newFunctionEnv hcell hloc (fun h₀ hns₀ hsb₀ => ⟨hlim.fresh _ hsb₀, codeR_func (h h₀ hns₀ fun b o e => ?_)⟩) hk
  exact hsb₀.extBut b o (Nat.ne_of_lt (Heap.lt_size e)) (Heap.get?_push_of_some _ e)

theorem enterRR (B : Below A₀ base outer h₀) (F : Fr h₀ L s.heap m) (X₀ : K.In h₀) (N : News h₀ L s.heap muts) (T : Top p loose mean mg mb h₀) (hA : A.frames = some (env :: outer)) (hf : env.frame = some L) (hke : env.scope.kind = .function)
    (ho : K.lookup f = some ⟨oc, od, .func (fnOf name qual params body scope dV kV doc pm an cdv ct), osl⟩) (hcd : codeIn K cdv qual = true) (hroom : A.depth < recursionLimit)
    (hbind : BindsTo s (fnOf name qual params body scope dV kV doc pm an cdv ct) args binds) (hloc : ∀ y ∈ binds, scope.names.lookup y.1 = some .local)
    (h : ∀ g L' h₁, Fr h₀ L g m → Fr g L' h₁ (fun y => binds.reverse.lookup y) → News g L' h₁ muts → Below A base (env :: outer) g → K.In g → Top p loose mean mg mb g → (∀ b o, b ∉ muts.map (·.1) → s.heap.get? b = some o → g.get? b = some o) → (∀ q ∈ muts, q.1 < L') →
      wpR (model prog w) (A.deeper (envOf qual scope L' f cdv)) (execs body (envOf qual scope L' f cdv)) (fun fl s' => LeaveK h₀ L m g (okR Q) (match fl with | .ret v => v | _ => .none) s') { s with heap := h₁, toks := s.toks + binds.length })
    (hco : scope.isCoroutine = false) (hgen : scope.isGenerator = false) (hk : scope.kind = .function)
    (hcell : ∀ x ∈ scope.names, x.2 ≠ .cell) : codeR (model prog w) A (.call (.ref f) args) (flR Q) s := by
  obtain ⟨FG, BG, st, lv⟩ := groundX (R := okR Q) B F N hA hf hke
  refine codeR_call_def (fd := fnOf name qual params body scope dV kV doc pm an cdv ct) (body := body) (binds := binds) hroom ((X₀.keeps F.keep) _ _ ho) rfl (T.nolimit.keeps F.keep) (codeRec_of (X₀.keeps F.keep) hcd) rfl hbind hcell hloc (fun h₁ hns hk₁ => ?_) hco hgen hk
  exact wpR_mono (h _ s.heap.objs.size h₁ FG ⟨hns, fun b o e => hk₁ b o (of_hideAll _ e), Nat.le_of_eq (hideAll_size _ _)⟩
    (fun q hq => ⟨hk₁ _ _ (N q hq).1, Nat.ne_of_lt (Heap.lt_size (N q hq).1), hideAll_none _ (List.mem_map_of_mem hq)⟩) BG (X₀.keeps st) (T.keeps st) (fun b o hb e => hideAll_get _ e hb) (fun q hq => Heap.lt_size (N q hq).1)) (fun fl s' hl => lv _ _ hl)

theorem enterRRC (B : Below A₀ base outer h₀) (F : Fr h₀ L s.heap m) (X₀ : K.In h₀) (N : News h₀ L s.heap muts) (T : Top p loose mean mg mb h₀) (hA : A.frames = some (env :: outer)) (hf : env.frame = some L) (hke : env.scope.kind = .function)
    (ho : K.lookup f = some ⟨oc, od, .func (fnOf name qual params body scope dV kV doc pm an cdv ct), osl⟩) (hcd : codeIn K cdv qual = true) (hroom : A.depth < recursionLimit)
    (hbind : BindsTo s (fnOf name qual params body scope dV kV doc pm an cdv ct) args binds) (hkind : (binds.all fun y => scope.names.lookup y.1 == some .local || scope.names.lookup y.1 == some .cell) = true)
    (hnd : ((cellsFrom 0 scope.names []).map (·.1)).Nodup)
    (h : ∀ g L' h₁ tk cells, Fr h₀ L g m → Fr g L' h₁ (bindL (envOfC qual scope L' f cdv).kindOf binds fun _ => none) → News g L' h₁ (cells ++ muts) →
      CellsAre (bindC (envOfC qual scope L' f cdv).kindOf binds fun _ => none) (cellsFrom (L' + 1) scope.names []) cells → Below A base (env :: outer) g → K.In g → Top p loose mean mg mb g → (∀ b o, b ∉ muts.map (·.1) → s.heap.get? b = some o → g.get? b = some o) → (∀ q ∈ muts, q.1 < L') →
      wpR (model prog w) (A.deeper (envOfC qual scope L' f cdv)) (execs body (envOfC qual scope L' f cdv)) (fun fl s' => LeaveK h₀ L m g (okR Q) (match fl with | .ret v => v | _ => .none) s') { s with heap := h₁, toks := tk })
    (hco : scope.isCoroutine = false) (hgen : scope.isGenerator = false) (hk : scope.kind = .function) : codeR (model prog w) A (.call (.ref f) args) (flR Q) s := by
  obtain ⟨FG, BG, st, lv⟩ := groundX (R := okR Q) B F N hA hf hke
  refine codeR_call_function hroom ((X₀.keeps F.keep) _ _ ho) rfl hco hgen rfl (codeRec_of (X₀.keeps F.keep) hcd) (hbind _ _ _ _ ?_)
  refine wpAny_newFunctionEnv_cells hk (kindsX hkind _) fun env' he s' x => ?_
  subst he
  refine ⟨(T.nolimit.keeps F.keep).keeps x.toInCall.keep, codeR_func ?_⟩
  obtain ⟨h₁, tk, rfl, _⟩ := x.done
  have hk₁ := x.toInCall.keep
  obtain ⟨cells, NC, Y⟩ := Cl.news (h₀ := s.heap) (Nat.le_refl _) fun n c hm => ⟨x.cell n c (lookup_of_mem_nodup (cellsFrom_names scope.names 0 (s.heap.objs.size + 1) [] [] rfl ▸ hnd) hm), x.above n c hm⟩
  refine wpR_mono (h _ s.heap.objs.size h₁ tk cells FG ⟨x.toInCall.ns, fun b o e => hk₁ b o (of_hideAll _ e), Nat.le_of_eq (hideAll_size _ _)⟩ (fun q hq => ?_) Y BG (X₀.keeps st) (T.keeps st) (fun b o hb e => hideAll_get _ e hb) (fun q hq => Heap.lt_size (N q hq).1)) (fun fl s' hl => lv _ _ hl)
  rcases List.mem_append.mp hq with hq | hq
  · refine ⟨(NC q hq).1, (NC q hq).2.1, ?_⟩
    cases e : (hideAll s.heap (muts.map (·.1))).get? q.1 with
    | none => rfl
    | some o => have := of_hideAll _ e; rw [(NC q hq).2.2] at this; cases this
  · exact ⟨hk₁ _ _ (N q hq).1, Nat.ne_of_lt (Heap.lt_size (N q hq).1), hideAll_none _ (List.mem_map_of_mem hq)⟩
end

/-- what a call of the def at f does, on a clear stack -/
noncomputable def CallR (w : World) (f : Addr) (args : List Value) (c1 c2 : Nat) (reads muts : List (Addr × Obj)) (post : Value → List (Addr × Obj) → List (Addr × Obj) → Prop) : Prop :=
  ∀ (dp un : Nat) (gd : Option (List Code)) (cn : Str) (cs : Scope) (a : Addr) (ccd : Value) (cl : List (Str × Addr)) (outer : List Env) (A₀ : Around) (base h₀ : Heap) (L : Addr) (m : Str → Option Value) (s : Shared)
    (loose : List Str) (mean : ExcName → Option Value) (mg mb : Str → Option Value) (Q : Value → Shared → Prop),
    Below A₀ base outer h₀ → Fr h₀ L s.heap m → (hd.heap_1 w.params).In h₀ → News h₀ L s.heap muts → Top hd.view_1 loose mean mg mb h₀ → cs.kind = .function →
    (∀ x ∈ reads, s.heap.get? x.1 = some x.2 ∧ x.1 ∉ muts.map (·.1)) → dp + c1 < recursionLimit → un + c2 < cLine →
    (∀ (r : Value) (muts' ex : List (Addr × Obj)) (h' : Heap) (tk' : Nat), post r muts' ex → Fr h₀ L h' m → News h₀ L h' (ex ++ muts') → (∀ b o, b ∉ muts.map (·.1) → s.heap.get? b = some o → h'.get? b = some o) → (∀ x ∈ ex, ∀ b o, s.heap.get? b = some o → b ≠ x.1) → Q r { s with heap := h', toks := tk' }) →
    codeR (model PySem.Challenge.rw_pq1220_01.row.prog w) (ktrTop dp un gd cn cs L a ccd cl outer) (.call (.ref f) ⟨args, []⟩) (flR Q) s

theorem fresh_R3 : True := by
  k_with_none
  w_top off
  trivial
theorem clear_typeCall (args : Args) : holdsB (.builtin "type.__call__" args) = false := by
  dsimp only [holdsB]
  decide +kernel
section
variable {prog : Program} {w : World} {A : Around} {s : Shared}
theorem codeR_call_builtin_at {id : String} {args : Args} {b : Builtin} {R : Flow → Shared → Prop} (hb0 : holdsB (.builtin id args) = false) (hq : (Code.builtin id args).quiet = true) (hb : entryFor table id = some b)
    (h : wpAny (model prog w) A.in1 (checkBuiltinCall id args) (fun _ s₁ => wpR (model prog w) (A.under (.builtin id args)) (b args)
      (fun fin s' => match fin with | .done f => R f s' | .again c' => c'.quiet = true ∧ codeR (model prog w) A c' R s') s₁) (fun _ _ => False) s) : codeR (model prog w) A (.call (.builtin id) args) R s := by
  refine codeR_of_tree rfl (wpR_of ?_)
  show wpAny _ A.in1 (do checkBuiltinCall id args; again (.builtin id args)) _ _ s
  refine wpAny_bind (wpAny_mono h (fun _ s₁ h₁ => wpAny_pure (And.intro hq (codeR_of_tree hb0 ?_))) fun _ _ h' => h')
  show wpR _ _ (match entryFor table id with | some b => b args | none => unsupported ((withoutEnding? id "#data").getD id)) _ s₁
  rw [hb]; exact h₁
end
section
variable {prog : Program} {w : World} {A : Around} {C : Addr} {h : Heap} {g : Array GenState} {d : Drawn} {t : Nat} {os : OsState} {Q : Value → Shared → Prop}
theorem make_coreR {rest : List Value} {init : Value} (Y : Makes (model prog w) h C) (hi : Looks (model prog w) h (typeLookup (.ref C) "__init__") (some init))
    (hb : ∀ self, Looks (model prog w) h (bindSpecial init self) (init, [self])) (hne : (some init != some (Value.builtin "object.__init__")) = true ∨ (rest = [] ∧ ([] : List (Str × Value)) = []))
    (hq : codeR (model prog w) (A.under (.builtin "type.__call__" ⟨.ref C :: rest, []⟩)) (.call init ⟨.ref (h.objs.size + 1) :: rest, []⟩) (fun f s' => f = .ret .none ∧ Q (.ref (h.objs.size + 1)) s') ⟨(h.push emptyDict).push (instObj C h.objs.size), g, d, t, os⟩) :
    codeR (model prog w) A (.call (.ref C) ⟨rest, []⟩) (flR Q) ⟨h, g, d, t, os⟩ := by
  have Y' := Y
  refine hideG fun G9 k9 => ?_
  obtain ⟨⟨oc, od, cd, sl, hC, e1, e2, e4⟩, made, base, self, top, call, typ⟩ := Y
  refine k9 ?_
  clear k9 G9
  refine codeR_of_tree rfl (wpR_of ?_)
  show wpAny _ _ (callAny (.ref C) _) _ _ _
  refine nd_load hC ?_
  show wpAny _ _ (callAny.viaDunder (.ref C) _) _ _ _
  unfold callAny.viaDunder
  refine wpAny_bind (call.at ?_)
  dsimp only
  rw [tc_bind]
  refine wpAny_bind (wpAny_pure (wpAny_bind (wpAny_pure ?_)))
  refine wpAny_pure (a := Fin.again (.call (.builtin "type.__call__") ⟨.ref C :: rest, []⟩)) (And.intro rfl ?_)
  refine codeR_call_builtin_at (clear_typeCall _) (Code.quiet_builtin _ (by decide +kernel)) entry_typeCall (check_slot tc_kind tc_split typ (tc_args _ _ _) ?_)
  unfold Builtin.«type.__call__»
  have hm : Looks (model prog w) h (mroOf (.ref C)) cd.mro := ((Looks.ld (part := none) hC).andThen .now).andThen .now
  have hn : (Value.ref C == Value.type "type") = false := rfl
  simp only [hn, e4, Bool.false_eq_true, if_false]
  refine wpR_bind (wpR_of (hm.here ?_))
  simp only [e4, Bool.false_eq_true, if_false]
  refine wpR_bind (wpR_of (made.here ?_))
  dsimp only
  refine wpR_bind (wpR_pure (wpR_bind (wpR_holding (wpR_of (wpAny_call (new_K Y' hi hne ?_))))))
  have k : ∀ b o, h.get? b = some o → ((h.push emptyDict).push (instObj C h.objs.size)).get? b = some o := fun b o e => Heap.get?_push_of_some _ (Heap.get?_push_of_some _ e)
  have hx : ((h.push emptyDict).push (instObj C h.objs.size)).get? (h.objs.size + 1) = some (instObj C h.objs.size) := by heap_get
  have t1 : Looks (model prog w) ((h.push emptyDict).push (instObj C h.objs.size)) (typeOf (.ref (h.objs.size + 1))) (.ref C) := (Looks.ld hx).andThen .now
  have s1 := self.keeps k
  have i1 := hi.keeps k
  have b1 := (hb (.ref (h.objs.size + 1))).keeps k
  dsimp only
  refine wpR_bind (wpR_of ?_)
  unfold isInstance
  repeat lk
  simp only [Bool.not_true, Bool.false_eq_true, if_false]
  refine wpR_bind (wpR_holding ?_)
  unfold callSpecial? specialOf
  refine wpR_bind (wpR_of ?_)
  repeat lk
  dsimp only
  refine wpR_holding (wpR_bind (wpR_of (b1.here ?_)))
  dsimp only
  refine wpR_bind (wpR_call (codeR_mono hq fun f s' z => ?_))
  obtain ⟨rfl, z⟩ := z
  exact wpR_pure (wpR_pure z)
/-- a class of the fragment is called; its __init__ runs on a clear stack -/
theorem call_clsR {K : Frag} {h₀ : Heap} {L : Addr} {m : Str → Option Value} {news : List (Addr × Obj)} {s : Shared} {pos : List Value} {fI : Addr} (F : Fr h₀ L s.heap m) (X₀ : K.In h₀) (N : News h₀ L s.heap news) (hm : makesIn K C = true) (hi : findIn K (.ref C) "__init__" = some (some (.ref fI))) (hf : isFn K (.ref fI) = true)
    (h : ∀ x dx h', Fr h₀ L h' m → News h₀ L h' ((x, instObj C dx) :: (dx, dictOf [] 0) :: news) → (∀ p ∈ news, p.1 < dx) → dx < x →
      codeR (model prog w) (A.under (.builtin "type.__call__" ⟨.ref C :: pos, []⟩)) (.call (.ref fI) ⟨.ref x :: pos, []⟩) (fun f s' => f = .ret .none ∧ Q (.ref x) s') { s with heap := h' }) :
    wpR (model prog w) A (call (.ref C) pos) Q s := by
  refine hideG fun G9 k9 => ?_
  obtain ⟨hh, g, d, t, os⟩ := s
  refine k9 ?_
  clear k9 G9
  have X := X₀.keeps F.keep
  refine wpR_call (make_coreR (makes_of X hm) (looks_findIn X hi) (fun self => bind_fn X self (beq_iff_eq.mp hf)) (.inl rfl) (h _ hh.objs.size _ ((F.push _).push _) ?_ (fun p hp => Heap.lt_size (N p hp).1) (Nat.lt_succ_self _)))
  have := (N.push F emptyDict).push (F.push _) (instObj C hh.objs.size)
  rwa [Heap.size_push] at this
end

theorem fresh_R4 : True := by
  k_with_none
  w_top off
  trivial
theorem ba_owner : Manifest.owners.lookup (String.ofList ['y', 'a', 'r', 'r', 'a', 'e', 't', 'y', 'b'].reverse) = some Manifest.sig_bytearray := by kernel_rfl
theorem ba_getattribute : typeLookup (.type "bytearray") "__getattribute__" = pure (some (.builtin "bytearray.__getattribute__")) := by rw [typeLookup_type, builtinLookup_eq_fast]; kernel_rfl
theorem ba_canon : (Manifest.canonical "bytearray.__getattribute__" != "object.__getattribute__") = false := by decide +kernel
theorem ba_getattr : typeLookup (.type "bytearray") "__getattr__" = pure none := by rw [typeLookup_type, builtinLookup_eq_fast]; kernel_rfl
theorem ba_slot_append : Slot "bytearray" "append" "bytearray.append" :=
  .of (owner := "bytearray") (n := "append") (by rw [typeLookup_type, builtinLookup_eq_fast]; kernel_rfl) (by decide +kernel) (by decide +kernel) (by decide +kernel)
    (by first | exact .inl (by decide +kernel) | exact .inr (by decide +kernel)) (by rw [isSubtype_type]; kernel_rfl)
theorem ba_type_append : typeOf (.builtin "bytearray.append") = pure (.type "method_descriptor") := by show builtinType _ = _; rw [builtinType_eq_fast]; kernel_rfl
theorem ba_entry_append : entryFor table "bytearray.append" = some Builtin.«bytearray.append» := entryFor_of_tree (by kernel_rfl)
theorem ba_args_append (a b : Value) : argsOk "bytearray.append" ⟨[a, b], []⟩ := by
  unfold argsOk; rw [signature?_of (id := "bytearray.append") (n := ['d', 'n', 'e', 'p', 'p', 'a']) (o := ['y', 'a', 'r', 'r', 'a', 'e', 't', 'y', 'b']) (by kernel_rfl) ba_owner]; kernel_rfl
theorem ba_mro : mroOf (.type "bytearray") = pure [.type "bytearray", .type "object"] := by rw [mroOf_type]; kernel_rfl
theorem ba_lookup_new : typeLookup (.type "bytearray") "__new__" = pure (some (.builtin "bytearray.__new__")) := by rw [typeLookup_type, builtinLookup_eq_fast]; kernel_rfl
theorem ba_made : Bind.madeBy (.type "bytearray") = pure (some "bytearray.__new__") := madeBy_type ba_mro ba_lookup_new (by decide +kernel)
theorem ba_slot_init : Slot "bytearray" "__init__" "bytearray.__init__" :=
  .of (owner := "bytearray") (n := "__init__") (by rw [typeLookup_type, builtinLookup_eq_fast]; kernel_rfl) (by decide +kernel) (by decide +kernel) (by decide +kernel)
    (by first | exact .inl (by decide +kernel) | exact .inr (by decide +kernel)) (by rw [isSubtype_type]; kernel_rfl)
theorem ba_entry_init : entryFor table "bytearray.__init__" = some Builtin.«bytearray.__init__» := entryFor_of_tree (by kernel_rfl)
theorem ba_args_init (a : Value) : argsOk "bytearray.__init__" ⟨[a], []⟩ := by
  unfold argsOk; rw [signature?_of (id := "bytearray.__init__") (n := ['_', '_', 't', 'i', 'n', 'i', '_', '_']) (o := ['y', 'a', 'r', 'r', 'a', 'e', 't', 'y', 'b']) (by kernel_rfl) ba_owner]; kernel_rfl
theorem ba_sub : isSubtype (.type "bytearray") (.type "bytearray") = pure true := by rw [isSubtype_type]; kernel_rfl
theorem ba_typeCall : checkTypeCall "bytearray" ⟨[], []⟩ = pure () := by kernel_rfl
theorem ba_newCall : checkBuiltinCall "bytearray.__new__" ⟨[.type "bytearray"], []⟩ = pure () := by kernel_rfl
theorem ba_entry_new : entryFor table "bytearray.__new__" = some Builtin.«list.__new__» := entryFor_alias (id' := "list.__new__") (by kernel_rfl) (by first | rfl | decide +kernel) (by decide +kernel) (by kernel_rfl)
theorem ba_plain_new : plainId "bytearray.__new__" = true := by decide +kernel
theorem ba_buffer : typeLookup (.type "bytearray") "__buffer__" = pure (some (.builtin "bytearray.__buffer__")) := by rw [typeLookup_type, builtinLookup_eq_fast]; kernel_rfl
theorem ba_release : typeLookup (.type "bytearray") "__release_buffer__" = pure (some (.builtin "bytearray.__release_buffer__")) := by rw [typeLookup_type, builtinLookup_eq_fast]; kernel_rfl
theorem ba_no_bytes : typeLookup (.type "bytearray") "__bytes__" = pure none := by rw [typeLookup_type, builtinLookup_eq_fast]; kernel_rfl
theorem ba_no_index : typeLookup (.type "bytearray") "__index__" = pure none := by rw [typeLookup_type, builtinLookup_eq_fast]; kernel_rfl
theorem ba_split_new : ("bytearray.__new__".splitOn ".__new__").headD "" = "bytearray" := by simp +decide [String.splitOn, String.splitOnAux]

/-- a bytearray -/
noncomputable abbrev baOf (b : Array UInt8) : Obj := { cls := .type "bytearray", data := .bytearray b }
section
variable {prog : Program} {w : World} {A : Around} {E : Value → Shared → Prop} {s : Shared}
theorem ba_getMethod {M : Model} {b : Addr} {o : Obj} {pl : Sem Bool} {Q : Value × List Value → Shared → Prop} (ho : s.heap.get? b = some o) (hc : o.cls = .type "bytearray") (hd : o.dict = none)
    (h : Q (.builtin "bytearray.append", [.ref b]) s) : wpAny M A (getMethod (.ref b) "append" pl) Q E s := by
  have hT : s.TypeIs (.ref b) "bytearray" := ⟨o, ho, hc⟩
  unfold getMethod
  refine wpAny_bind (wpAny_specialOf hT ba_getattribute ?_)
  show wpAny M A (if (Manifest.canonical "bytearray.__getattribute__" != "object.__getattribute__") = true then _ else _) Q E s
  rw [ba_canon, if_neg Bool.false_ne_true]
  refine wpAny_bind (wpAny_specialOf hT ba_getattr ?_)
  refine wpAny_bind (wpAny_specialOf hT ba_slot_append.lookup ?_)
  refine wpAny_bind (wpAny_of_eq ba_type_append ?_)
  refine wpAny_bind (wpAny_load ho ?_)
  rw [hd]
  exact wpAny_bind (wpAny_rule (wpAny_pure h))
theorem ba_new {Q₁ : Value → Shared → Prop} (h : Q₁ (.ref s.heap.objs.size) { s with heap := s.heap.push (baOf #[]) }) :
    codeAny (model prog w) A (.call (.builtin "bytearray.__new__") ⟨[.type "bytearray"], []⟩) (wants Q₁ E) s := by
  refine codeAny_of_tree ?_
  show wpAny _ A.in1 (do checkBuiltinCall "bytearray.__new__" ⟨[.type "bytearray"], []⟩; again (.builtin "bytearray.__new__" ⟨[.type "bytearray"], []⟩)) _ _ s
  refine wpAny_bind (wpAny_of_eq ba_newCall (wpAny_pure ⟨plainId_quiet ba_plain_new _, codeAny_builtin_stack ba_entry_new rfl fun p st => ?_⟩))
  rw [Around.under_plainId ba_plain_new _]
  have hsub := ba_sub
  have hown := ba_split_new
  obtain ⟨hp, g, d, tk, os⟩ := s
  simp only [hown]
  wp_walk
  exact h
end
theorem ba_exported {M : Model} {A : Around} {s : Shared} {v : Value} {Q : Bool → Shared → Prop} (h : Q false s) : wpR M A (Builtin.Bytes.exported v) Q s := by
  intro Γ p hΓ hb hc
  unfold Builtin.Bytes.exported
  have key : ∀ (l : List (Code × Pos)) (f : Code × Pos → Bool), (∀ x, holdsB x.1 = false → f x = false) → Clear l → l.any f = false := fun l f hf hl => by
    rw [List.any_eq_false]
    intro x hx
    rw [hf x (hl x hx)]; exact Bool.false_ne_true
  show Q (List.any ((Γ.code, p) :: Γ.below) _) s
  rw [key]
  · exact h
  · rintro ⟨c, q⟩ hx
    have hx' : holdsB c = false := hx
    clear hx
    rcases c with _ | _ | _ | _ | _ | _ | _ | ⟨id, args⟩ | _ | _ | _ | _ | _ | _ | _ | _
    all_goals try rfl
    rename_i id args
    dsimp only [holdsB] at hx'
    simp only [Bool.or_eq_false_iff, beq_eq_false_iff_ne, ne_eq] at hx'
    obtain ⟨⟨⟨⟨⟨n1, n2⟩, n3⟩, n4⟩, n5⟩, n6⟩ := hx'
    rcases args with ⟨_ | ⟨v1, l⟩, kw⟩
    all_goals delta Builtin.Bytes.exported.match_1
    all_goals with_unfolding_all refine (dif_neg n1).trans ?_
    all_goals with_unfolding_all refine (dif_neg n2).trans ?_
    all_goals with_unfolding_all refine (dif_neg n3).trans ?_
    all_goals with_unfolding_all refine (dif_neg n4).trans ?_
    all_goals with_unfolding_all refine (dif_neg n5).trans ?_
    · rfl
    · with_unfolding_all show (Builtin.Bytes.sameRef v1 v && Builtin.Bytes.decodersThatHold.contains id) = false
      rw [n6, Bool.and_false]
  · intro x hx
    rcases List.mem_cons.mp hx with rfl | hx
    · exact hb
    · exact hc x hx

theorem fresh_R5 : True := by
  k_with_none
  w_top off
  trivial
theorem wpR_iff {α : Type} {M : Model} {A : Around} {s : Shared} {c : Bool} {a b : Sem α} {Q : α → Shared → Prop} (hc : c = false) (h : wpR M A b Q s) : wpR M A (if c = true then a else b) Q s := by
  subst hc; exact h
theorem ba_called : TypeCalled "bytearray" "bytearray.__new__" "bytearray.__init__" := ⟨by decide +kernel, by decide +kernel, ⟨_, _, ba_mro⟩, ba_made, by decide +kernel, ba_sub, ba_slot_init⟩
theorem clear_ba_append (args : Args) : holdsB (.builtin "bytearray.append" args) = false := by
  dsimp only [holdsB]
  decide +kernel
theorem clear_ba_init (args : Args) : holdsB (.builtin "bytearray.__init__" args) = false := by
  dsimp only [holdsB]
  decide +kernel
theorem codeR_builtin {prog : Program} {w : World} {A : Around} {s : Shared} {id : String} {args : Args} {b : Builtin} {R : Flow → Shared → Prop} (hb0 : holdsB (.builtin id args) = false) (hb : entryFor table id = some b)
    (h : wpR (model prog w) (A.under (.builtin id args)) (b args) (fun fin s' => match fin with | .done f => R f s' | .again c' => c'.quiet = true ∧ codeR (model prog w) A c' R s') s) : codeR (model prog w) A (.builtin id args) R s := by
  refine codeR_of_tree hb0 ?_
  show wpR _ _ (match entryFor table id with | some b => b args | none => unsupported ((withoutEnding? id "#data").getD id)) _ s
  rw [hb]; exact h
theorem ba_ownRelease {M : Model} {A : Around} {s : Shared} {E : Value → Shared → Prop} {v : Value} {Q : Bool → Shared → Prop} (hT : s.TypeIs v "bytearray") (h : Q false s) : wpAny M A (Builtin.Bytes.ownRelease v) Q E s := by
  unfold Builtin.Bytes.ownRelease Builtin.Bytes.slotIsOwn
  refine wpAny_bind (wpAny_bind (wpAny_specialOf hT ba_release ?_))
  have h1 : (!("bytearray.__release_buffer__" : String).endsWith ("." ++ "__release_buffer__")) = false := by decide +kernel
  have h2 : ("bytearray.__release_buffer__" : String).dropRight (("__release_buffer__" : String).length + 1) = "bytearray" := by decide +kernel
  dsimp only
  rw [h2]
  refine bm_if_false h1 (wpAny_isInstance hT ba_sub ?_)
  exact wpAny_pure h
theorem ba_optional : Builtin.Bytes.bindOptional "bytearray.__init__" "bytearray" ["source", "encoding", "errors"] [] [] = pure [none, none, none] := by kernel_rfl
theorem ba_resize {M : Model} {A : Around} {s : Shared} {b : Addr} {arr : Array UInt8} {Q : Unit → Shared → Prop} (hb : s.heap.get? b = some (baOf arr)) (h : Q () s) : wpR M A (Builtin.Bytes.checkResize (.ref b)) Q s := by
  unfold Builtin.Bytes.checkResize
  refine wpR_bind (wpR_bind (ba_exported ?_))
  show wpR M A (Builtin.Bytes.exportsOf (.ref b) >>= fun n => pure (decide (n > 0))) _ s
  refine wpR_bind (wpR_of ?_)
  unfold Builtin.Bytes.exportsOf
  refine wpAny_bind (wpAny_load hb (wpAny_pure (wpR_pure (wpR_iff (c := _) rfl (wpR_pure h)))))
theorem ba_append {prog : Program} {w : World} {A : Around} {s : Shared} {b : Addr} {arr : Array UInt8} {v : Int} {t : Tok} {Q : Value → Shared → Prop} (hb : s.heap.get? b = some (baOf arr)) (h0 : 0 ≤ v) (h1 : v < 256) (hsz : arr.size < 1000000)
    (h : ∀ h', h'.get? b = some (baOf (arr.push v.toNat.toUInt8)) → Heap.SameBut b s.heap h' → Q .none { s with heap := h' }) : wpR (model prog w) A (call (.builtin "bytearray.append") [.ref b, .int v t]) Q s := by
  have hT : s.TypeIs (.ref b) "bytearray" := ⟨_, hb, rfl⟩
  refine wpR_call (codeR_call_builtin_at (clear_ba_append _) (plainId_quiet ba_slot_append.plain _) ba_entry_append ?_)
  refine ba_slot_append.check _ _ _ _ _ _ _ _ hT (ba_args_append _ _) ?_
  show wpR _ _ (Builtin.Bytes.byteValue (.int v t) >>= fun c => Builtin.Bytes.checkResize (.ref b) >>= fun _ => Builtin.Bytes.write (.ref b) (·.push c) >>= fun _ => ret .none) _ _
  refine wpR_bind (wpR_of ?_)
  unfold Builtin.Bytes.byteValue
  refine wpAny_bind (wpAny_of_eq (rfl : asIndex (.int v t) = pure v) ?_)
  have hc : (decide (v < 0) || decide (v ≥ 256)) = false := by rw [decide_eq_false (by omega), decide_eq_false (by omega)]; rfl
  simp only [hc, Bool.false_eq_true, if_false]
  refine wpAny_pure (wpR_bind (ba_resize hb (wpR_bind (wpR_of ?_))))
  show wpAny _ _ (updateBytearray b (·.push v.toNat.toUInt8)) _ _ _
  unfold updateBytearray
  refine wpAny_bind (wpAny_load hb ?_)
  show wpAny _ _ (update b (Obj.mapBytearray (·.push v.toNat.toUInt8)) >>= fun _ => lookBehind b) _ _ _
  refine wpAny_bind (wpAny_update hb ?_)
  have hb₂ : (s.heap.update b (Obj.mapBytearray (·.push v.toNat.toUInt8))).get? b = some (baOf (arr.push v.toNat.toUInt8)) := Heap.get?_update_self (Obj.mapBytearray (·.push v.toNat.toUInt8)) hb rfl
  refine wpAny_lookBehind hb₂ ?_ ?_
  · show (if (arr.push v.toNat.toUInt8).size > sizeLine then some "bytearray:memory" else none) = none
    rw [if_neg]
    rw [Array.size_push, sizeLine_eq]
    omega
  · exact wpR_pure (h _ hb₂ (Heap.SameBut.update ..))
theorem ba_call {prog : Program} {w : World} {A : Around} {s : Shared} {Q : Value → Shared → Prop} (h : ∀ h', h'.get? s.heap.objs.size = some (baOf #[]) → Heap.SameBut s.heap.objs.size (s.heap.push (baOf #[])) h' → Q (.ref s.heap.objs.size) { s with heap := h' }) :
    wpR (model prog w) A (call (.type "bytearray") []) Q s := by
  refine wpR_call (codeR_of_tree rfl (wpR_of ?_))
  show wpAny _ _ (callAny (.type "bytearray") _) _ _ _
  refine wpAny_pure ⟨Code.quiet_builtin _ (by decide +kernel), codeR_builtin (clear_typeCall _) F.entry_type_call ?_⟩
  rw [Around.under_plain (weight_type_call_type "bytearray" [] []) rfl]
  unfold Builtin.«type.__call__»
  have hn : (Value.type "bytearray" == Value.type "type") = false := by decide +kernel
  simp only [hn, Bool.false_eq_true, if_false]
  refine wpR_iff (c := _) ba_called.canCreate ?_
  refine wpR_bind (wpR_of (wpAny_of_eq ba_typeCall ?_))
  refine wpR_bind (wpR_of (wpAny_of_eq ba_mro ?_))
  refine wpR_iff (c := _) rfl ?_
  refine wpR_bind (wpR_of (wpAny_of_eq ba_made ?_))
  dsimp only
  refine wpR_bind (wpR_pure (wpR_bind (wpR_holding (wpR_of (wpAny_call (codeAny_mono (ba_new (Q₁ := fun v s' => v = .ref s.heap.objs.size ∧ s' = { s with heap := s.heap.push (baOf #[]) }) (E := fun _ _ => False) ⟨rfl, rfl⟩) fun r s₁ hr => ?_))))))
  cases r with
  | error e => exact False.elim hr
  | ok fl => cases fl with
    | ret v =>
      obtain ⟨rfl, rfl⟩ := hr
      have hB : (s.heap.push (baOf #[])).get? s.heap.objs.size = some (baOf #[]) := Heap.get?_push_size _ rfl
      have hT : Shared.TypeIs { s with heap := s.heap.push (baOf #[]) } (.ref s.heap.objs.size) "bytearray" := ⟨_, hB, rfl⟩
      dsimp only
      refine wpR_bind (wpR_of (wpAny_isInstance hT ba_sub ?_))
      simp only [Bool.not_true, Bool.false_eq_true, if_false]
      refine wpR_bind (wpR_holding ?_)
      unfold callSpecial?
      refine wpR_bind (wpR_of (wpAny_specialOf hT ba_slot_init.lookup ?_))
      dsimp only
      refine wpR_holding (wpR_bind (wpR_of (wpAny_of_eq (ba_slot_init.bind _) ?_)))
      dsimp only
      refine wpR_bind (wpR_call (codeR_call_builtin_at (clear_ba_init _) (plainId_quiet ba_slot_init.plain _) ba_entry_init ?_))
      refine ba_slot_init.check _ _ _ _ _ _ _ _ hT (ba_args_init _) ?_
      unfold Builtin.«bytearray.__init__»
      dsimp only [List.nil_append, List.append_nil]
      refine wpR_bind (wpR_of (ba_ownRelease hT ?_))
      refine wpR_iff (c := _) rfl ?_
      refine wpR_bind (wpR_of (wpAny_of_eq ba_optional ?_))
      dsimp only
      refine wpR_bind (wpR_of (wpAny_of_eq (rfl : Builtin.Bytes.checkCodecArg "bytearray.__init__" "bytearray" "encoding" none = pure ()) ?_))
      refine wpR_bind (wpR_of (wpAny_of_eq (rfl : Builtin.Bytes.checkCodecArg "bytearray.__init__" "bytearray" "errors" none = pure ()) ?_))
      refine wpR_bind (wpR_bind (ba_exported ?_))
      show wpR _ _ (Builtin.Bytes.exportsOf (.ref s.heap.objs.size) >>= fun n => pure (decide (n > 0))) _ _
      refine wpR_bind (wpR_of ?_)
      unfold Builtin.Bytes.exportsOf
      refine wpAny_bind (wpAny_load hB (wpAny_pure (wpR_pure (wpR_iff (c := _) rfl (wpR_bind (wpR_of ?_))))))
      show wpAny _ _ (updateBytearray s.heap.objs.size (fun _ => #[])) _ _ _
      unfold updateBytearray
      refine wpAny_bind (wpAny_load hB ?_)
      show wpAny _ _ (update s.heap.objs.size (Obj.mapBytearray (fun _ => #[])) >>= fun _ => lookBehind s.heap.objs.size) _ _ _
      refine wpAny_bind (wpAny_update hB ?_)
      have hB₂ : ((s.heap.push (baOf #[])).update s.heap.objs.size (Obj.mapBytearray (fun _ => #[]))).get? s.heap.objs.size = some (baOf #[]) := Heap.get?_update_self (Obj.mapBytearray (fun _ => #[])) hB rfl
      refine wpAny_lookBehind hB₂ rfl ?_
      dsimp only
      simp only [Option.isSome_none, Bool.false_eq_true, if_false]
      exact wpR_bind (wpR_pure (wpR_pure (wpR_pure (wpR_pure (h _ hB₂ (Heap.SameBut.update ..))))))
    | _ => exact False.elim hr

theorem fresh_R6 : True := by
  k_with_none
  w_top off
  trivial
section
variable {prog : Program} {w : World} {A : Around} {E : Value → Shared → Prop} {s : Shared}
theorem ba_ownBuffer {M : Model} {v : Value} {Q : Bool → Shared → Prop} (hT : s.TypeIs v "bytearray") (h : Q true s) : wpAny M A (Builtin.Bytes.slotIsOwn v "__buffer__") Q E s := by
  unfold Builtin.Bytes.slotIsOwn
  refine wpAny_bind (wpAny_specialOf hT ba_buffer ?_)
  have h1 : (!("bytearray.__buffer__" : String).endsWith ("." ++ "__buffer__")) = false := by decide +kernel
  have h2 : ("bytearray.__buffer__" : String).dropRight (("__buffer__" : String).length + 1) = "bytearray" := by decide +kernel
  dsimp only
  rw [h2]
  exact bm_if_false h1 (wpAny_isInstance hT ba_sub h)
/-- bytes of a bytearray -/
theorem ba_bytes_new {b : Addr} {arr : Array UInt8} {Q : Value → Shared → Prop} (hb : s.heap.get? b = some (baOf arr)) (hz : arr.size ≤ sizeLine) (hQ : ∀ t k, Q (.bytes arr t) { s with toks := k }) :
    codeAny (model prog w) A (.call (.builtin "bytes.__new__") ⟨[.type "bytes", .ref b], []⟩) (wants Q E) s := by
  refine codeAny_of_tree ?_
  show wpAny _ A.in1 (do checkBuiltinCall "bytes.__new__" ⟨[.type "bytes", .ref b], []⟩; again (.builtin "bytes.__new__" ⟨[.type "bytes", .ref b], []⟩)) _ _ s
  refine wpAny_bind (wpAny_of_eq (F.bm_newCall _) (wpAny_pure ⟨plainId_quiet F.bm_plain _, codeAny_builtin F.bm_entry ?_⟩))
  rw [Around.under_plainId F.bm_plain _]
  have hT : s.TypeIs (.ref b) "bytearray" := ⟨_, hb, rfl⟩
  unfold Builtin.«bytes.__new__»
  refine wpAny_bind (wpAny_of_eq (a := true) rfl ?_)
  refine bm_if_false rfl ?_
  refine wpAny_bind (wpAny_of_eq F.bm_sub ?_)
  refine bm_if_false rfl ?_
  refine wpAny_bind (wpAny_of_eq (F.bm_bind _) ?_)
  refine wpAny_bind (wpAny_of_eq (a := ()) rfl ?_)
  refine wpAny_bind (wpAny_of_eq (a := ()) rfl ?_)
  refine bm_if_false rfl ?_
  refine wpAny_bind (wpAny_specialOf hT ba_no_bytes ?_)
  refine wpAny_bind (wpAny_bind ?_)
  show wpAny _ _ (load b >>= _) _ _ _
  refine wpAny_bind (wpAny_load hb ?_)
  refine wpAny_pure (wpAny_pure ?_)
  refine bm_if_false rfl ?_
  refine wpAny_bind (wpAny_specialOf hT ba_no_index ?_)
  refine bm_if_true rfl ?_
  first
    | show wpAny _ _ (Builtin.Bytes.buffer? "bytes.__new__" (.ref b) true >>= _) _ _ _
    | (refine wpAny_bind ?_; show wpAny _ _ (Builtin.Bytes.buffer? "bytes.__new__" (.ref b) true >>= _) _ _ _)
  refine wpAny_bind ?_
  unfold Builtin.Bytes.buffer?
  refine wpAny_bind (wpAny_specialOf hT ba_buffer ?_)
  dsimp only
  refine wpAny_bind (ba_ownBuffer hT ?_)
  refine bm_if_false rfl ?_
  refine wpAny_bind (wpAny_specialOf hT ba_buffer ?_)
  show wpAny _ _ (Builtin.Bytes.ownRelease (.ref b) >>= _) _ _ _
  refine wpAny_bind (ba_ownRelease hT ?_)
  refine bm_if_false rfl ?_
  refine wpAny_bind ?_
  unfold Builtin.Bytes.payload Builtin.Bytes.payload?
  refine wpAny_bind (wpAny_bind (wpAny_load hb ?_))
  refine wpAny_pure (wpAny_pure ?_)
  refine wpAny_pure ?_
  dsimp only
  refine wpAny_bind (wpAny_rule (wpAny_bind (wpAny_mkBytes ?_ hz)))
  show wpAny _ _ (if (Value.type "bytes" == Value.type "bytes") = true then _ else _) _ _ _
  refine bm_if_true (by decide) ?_
  first
    | exact wpAny_pure (hQ _ _)
    | exact wpAny_bind (wpAny_pure (wpAny_pure (hQ _ _)))
theorem ba_bytes {b : Addr} {arr : Array UInt8} {Q : Value → Shared → Prop} (hb : s.heap.get? b = some (baOf arr)) (hz : arr.size ≤ sizeLine) (hQ : ∀ t k, Q (.bytes arr t) { s with toks := k }) :
    wpAny (model prog w) A (call (.type "bytes") [.ref b]) Q E s := by
  refine callType_codes (Q₁ := fun obj s₁ => s₁.TypeIs obj "bytes" ∧ Q obj s₁) F.bm_called (F.bm_typeCall _) F.entry_object_init
    (ba_bytes_new hb hz fun t k => ⟨PySem.W.typeIs_bytes _ _ _, hQ t k⟩) fun obj s₁ h₁ => ?_
  exact ⟨h₁.1, F.args_object_init_2 obj _, object_init_meets F.bm_called.init.lookup F.bm_called.made (by decide) prog w A.in1 _ s₁ ⟨h₁.1, rfl, h₁.2⟩⟩
end

theorem fresh_R7 : True := by
  k_with_none
  w_top off
  trivial
theorem by_lookup : typeLookup (.type "bytes") "__bytes__" = pure (some (.builtin "bytes.__bytes__")) := by rw [typeLookup_type, builtinLookup_eq_fast]; kernel_rfl
section
variable {prog : Program} {w : World} {A : Around} {E : Value → Shared → Prop} {s : Shared}
/-- bytes of bytes: the same -/
theorem same_new {arr : Array UInt8} {t : Tok} {Q : Value → Shared → Prop} (hQ : Q (.bytes arr t) s) :
    codeAny (model prog w) A (.call (.builtin "bytes.__new__") ⟨[.type "bytes", .bytes arr t], []⟩) (wants Q E) s := by
  refine codeAny_of_tree ?_
  show wpAny _ A.in1 (do checkBuiltinCall "bytes.__new__" ⟨[.type "bytes", .bytes arr t], []⟩; again (.builtin "bytes.__new__" ⟨[.type "bytes", .bytes arr t], []⟩)) _ _ s
  refine wpAny_bind (wpAny_of_eq (F.bm_newCall _) (wpAny_pure ⟨plainId_quiet F.bm_plain _, codeAny_builtin F.bm_entry ?_⟩))
  rw [Around.under_plainId F.bm_plain _]
  have hT : s.TypeIs (.bytes arr t) "bytes" := PySem.W.typeIs_bytes _ _ _
  unfold Builtin.«bytes.__new__»
  refine wpAny_bind (wpAny_of_eq (a := true) rfl ?_)
  refine bm_if_false rfl ?_
  refine wpAny_bind (wpAny_of_eq F.bm_sub ?_)
  refine bm_if_false rfl ?_
  refine wpAny_bind (wpAny_of_eq (F.bm_bind _) ?_)
  refine wpAny_bind (wpAny_of_eq (a := ()) rfl ?_)
  refine wpAny_bind (wpAny_of_eq (a := ()) rfl ?_)
  refine bm_if_false rfl ?_
  refine wpAny_bind (wpAny_specialOf hT by_lookup ?_)
  dsimp only
  refine wpAny_bind (wpAny_rule ?_)
  refine wpAny_bind (wpAny_of_eq (a := Value.type "bytes") rfl ?_)
  refine bm_if_true (by decide) ?_
  show wpAny _ _ (if (Value.type "bytes" == Value.type "bytes") = true then _ else _) _ _ _
  refine bm_if_true (by decide) ?_
  first
    | exact wpAny_pure hQ
    | exact wpAny_bind (wpAny_pure (wpAny_pure hQ))
theorem bytes_same {arr : Array UInt8} {t : Tok} {Q : Value → Shared → Prop} (hQ : Q (.bytes arr t) s) :
    wpAny (model prog w) A (call (.type "bytes") [.bytes arr t]) Q E s := by
  refine callType_codes (Q₁ := fun obj s₁ => s₁.TypeIs obj "bytes" ∧ Q obj s₁) F.bm_called (F.bm_typeCall _) F.entry_object_init
    (same_new ⟨PySem.W.typeIs_bytes _ _ _, hQ⟩) fun obj s₁ h₁ => ?_
  exact ⟨h₁.1, F.args_object_init_2 obj _, object_init_meets F.bm_called.init.lookup F.bm_called.made (by decide) prog w A.in1 _ s₁ ⟨h₁.1, rfl, h₁.2⟩⟩
end

theorem fresh_Cneed : True := by
  k_with_none
  w_top off
  trivial
theorem evalEach_cons' (e : PySem.Expr) (r : List PySem.Expr) (env : Env) : evalEach (e :: r) env = eval e env :: evalEach r env := rfl
theorem needc_call {w : World} {n : Int} {t : Tok} (hn : 0 ≤ n) (hn2 : n ≤ 1000) : Call w 85 [.int n t] 1 8 [] [] (P0 fun r ex => ex = [] ∧ r = .none) := by
  k_with_none
  unfold Call
  k_fill
  intro dp un gd cn sc a ccd cl outer A₀ base h₀ L m
  refine ps5 ?_
  intro sH0 sG0 sD0 sT0 sO0 loose mean mg mb Q B F X N T hk hrd hd1 hu hret
  (try dsimp only at F)
  (try dsimp only at N)
  (try dsimp only at hrd)
  (try dsimp only at hret)
  k_dflt (refine' enterR ?k1 ?k2 ?k3 ?k4 ?k5 ?kA ?kF ?kK ?k6 ?k7 ?k8 ?k9 ?kB ?_ ?c2 ?c3 ?c4 ?c5; (case kA => exact rfl); (case kF => exact rfl); (case kK => assumption); (case k1 => k_asm); (case k2 => k_asm); (case k3 => k_asm); (case k4 => k_asm); (case k5 => k_asm); (case k6 => k_is); (case k7 => k_is); (case k8 => ktr_room); (case k9 => first | exact BindsTo.of_eq rfl | exact binds_K (by k_in) rfl (by k_is) rfl rfl rfl); (case c5 => decide); (case kB => exact locs rfl); (case c2 => exact rfl); (case c3 => exact rfl); (case c4 => exact rfl); k_whole)
  intro g L1 h1 FG F1 N1 B1 X1 T1 keep hlt
  (try dsimp only)
  (try ((try change wpAny _ _ _ _ _ _); k_fold))
  clear hrd hlt
  k_steps
  exact fin (muts' := []) (ex := []) hret keep (by assumption) (by assumption) (by assumption) (by assumption) (fun _ h => nomatch h) (fun _ h => nomatch h) (fun _ h => nomatch h) ⟨rfl, rfl, rfl⟩
theorem needv_call {w : World} {v n : Int} {tv t : Tok} (hv : 0 ≤ v) (hv2 : v < 2 ^ n.toNat) (hn : 0 ≤ n) (hn2 : n ≤ 20) : Call w 92 [.int v tv, .int n t] 2 16 [] [] (P0 fun r ex => ex = [] ∧ r = .none) := by
  k_with_none
  k_with "call ref" => ((k_here; (with_reducible show wpAny _ _ (call (Value.ref 85) _) _ _ _); k_dflt (refine' use0 (needc_call ?q1 ?q2) ?k1 ?k2 ?k3 ?k4 ?k6 ?kK ?kr ?kd ?ku ?_; (case k1 => k_asm); (case k2 => k_asm); (case k3 => k_asm); (case k4 => k_asm); (case k6 => k_asm); (case kK => first | exact rfl | assumption); (case kr => tb_rel); (case q1 => first | assumption | omega); (case q2 => first | assumption | omega); (case kd => ktr_room); (case ku => ktr_units); k_whole; refine rB ?_; intro  h9 tk9 _ F9 N9; (dsimp only [List.nil_append] at N9); (try k_sweep))))
  unfold Call
  k_fill
  intro dp un gd cn sc a ccd cl outer A₀ base h₀ L m
  refine ps5 ?_
  intro sH0 sG0 sD0 sT0 sO0 loose mean mg mb Q B F X N T hk hrd hd1 hu hret
  (try dsimp only at F)
  (try dsimp only at N)
  (try dsimp only at hrd)
  (try dsimp only at hret)
  k_dflt (refine' enterR ?k1 ?k2 ?k3 ?k4 ?k5 ?kA ?kF ?kK ?k6 ?k7 ?k8 ?k9 ?kB ?_ ?c2 ?c3 ?c4 ?c5; (case kA => exact rfl); (case kF => exact rfl); (case kK => assumption); (case k1 => k_asm); (case k2 => k_asm); (case k3 => k_asm); (case k4 => k_asm); (case k5 => k_asm); (case k6 => k_is); (case k7 => k_is); (case k8 => ktr_room); (case k9 => first | exact BindsTo.of_eq rfl | exact binds_K (by k_in) rfl (by k_is) rfl rfl rfl); (case c5 => decide); (case kB => exact locs rfl); (case c2 => exact rfl); (case c3 => exact rfl); (case c4 => exact rfl); k_whole)
  intro g L1 h1 FG F1 N1 B1 X1 T1 keep hlt
  (try dsimp only)
  (try ((try change wpAny _ _ _ _ _ _); k_fold))
  clear hrd hlt
  have hv3 : (2 : Int) ^ n.toNat ≤ 1048576 := by
    have : (2 : Nat) ^ n.toNat ≤ 2 ^ 20 := Nat.pow_le_pow_right (by decide) (by omega)
    have e : ((2 ^ n.toNat : Nat) : Int) = (2 : Int) ^ n.toNat := by simp
    omega
  have hz : v.fdiv (2 ^ n.toNat) = 0 := by rw [Int.fdiv_eq_ediv_of_nonneg _ (by omega)]; exact Int.ediv_eq_zero_of_lt hv hv2
  k_steps
  all_goals (try (exact absurd hz (by assumption)))
  exact fin (muts' := []) (ex := []) hret keep (by assumption) (by assumption) (by assumption) (by assumption) (fun _ h => nomatch h) (fun _ h => nomatch h) (fun _ h => nomatch h) ⟨rfl, rfl, rfl⟩

local macro_rules | `(tactic| walk_at "testChain") => `(tactic| (k_here; (simp only [evalEach_cons']); with_reducible refine test_link ?_))
theorem end_call {w : World} {b : Array UInt8} {tb ts : Tok} {st : Int} (h0 : 0 ≤ st) (h1 : st ≤ b.size) (hb : b.size < 100000) : Call w 99 [.bytes b tb, .int st ts, .none] 1 8 [] [] (P0 fun r ex => ex = [] ∧ ∃ t, r = .int b.size t) := by
  k_with_none
  k_with "call ref" => ((k_here; (with_reducible show wpAny _ _ (call (Value.ref 85) _) _ _ _); k_dflt (refine' use0 (needc_call ?q1 ?q2) ?k1 ?k2 ?k3 ?k4 ?k6 ?kK ?kr ?kd ?ku ?_; (case k1 => k_asm); (case k2 => k_asm); (case k3 => k_asm); (case k4 => k_asm); (case k6 => k_asm); (case kK => first | exact rfl | assumption); (case kr => tb_rel); (case q1 => first | assumption | omega); (case q2 => first | assumption | omega); (case kd => ktr_room); (case ku => ktr_units); k_whole; refine rB ?_; intro  h9 tk9 _ F9 N9; (dsimp only [List.nil_append] at N9); (try k_sweep))))
  unfold Call
  k_fill
  intro dp un gd cn sc a ccd cl outer A₀ base h₀ L m
  refine ps5 ?_
  intro sH0 sG0 sD0 sT0 sO0 loose mean mg mb Q B F X N T hk hrd hd1 hu hret
  (try dsimp only at F)
  (try dsimp only at N)
  (try dsimp only at hrd)
  (try dsimp only at hret)
  k_dflt (refine' enterR ?k1 ?k2 ?k3 ?k4 ?k5 ?kA ?kF ?kK ?k6 ?k7 ?k8 ?k9 ?kB ?_ ?c2 ?c3 ?c4 ?c5; (case kA => exact rfl); (case kF => exact rfl); (case kK => assumption); (case k1 => k_asm); (case k2 => k_asm); (case k3 => k_asm); (case k4 => k_asm); (case k5 => k_asm); (case k6 => k_is); (case k7 => k_is); (case k8 => ktr_room); (case k9 => first | exact BindsTo.of_eq rfl | exact binds_K (by k_in) rfl (by k_is) rfl rfl rfl); (case c5 => decide); (case kB => exact locs rfl); (case c2 => exact rfl); (case c3 => exact rfl); (case c4 => exact rfl); k_whole)
  intro g L1 h1 FG F1 N1 B1 X1 T1 keep hlt
  (try dsimp only)
  (try ((try change wpAny _ _ _ _ _ _); k_fold))
  clear hrd hlt
  k_steps
  exact fin (muts' := []) (ex := []) hret keep (by assumption) (by assumption) (by assumption) (by assumption) (fun _ h => nomatch h) (fun _ h => nomatch h) (fun _ h => nomatch h) ⟨rfl, rfl, _, rfl⟩
theorem places_call {w : World} {n : Int} {t : Tok} (hn : -1 ≤ n) (hn2 : n ≤ 1000) : Call w 254 [.int n t] 1 8 [] [] (P0 fun r ex => ex = [] ∧ ∃ t, r = .int (if n = -1 then 1 else n) t) := by
  k_with_none
  k_with "call ref" => ((k_here; (with_reducible show wpAny _ _ (call (Value.ref 85) _) _ _ _); k_dflt (refine' use0 (needc_call ?q1 ?q2) ?k1 ?k2 ?k3 ?k4 ?k6 ?kK ?kr ?kd ?ku ?_; (case k1 => k_asm); (case k2 => k_asm); (case k3 => k_asm); (case k4 => k_asm); (case k6 => k_asm); (case kK => first | exact rfl | assumption); (case kr => tb_rel); (case q1 => first | assumption | omega); (case q2 => first | assumption | omega); (case kd => ktr_room); (case ku => ktr_units); k_whole; refine rB ?_; intro  h9 tk9 _ F9 N9; (dsimp only [List.nil_append] at N9); (try k_sweep))))
  unfold Call
  k_fill
  intro dp un gd cn sc a ccd cl outer A₀ base h₀ L m
  refine ps5 ?_
  intro sH0 sG0 sD0 sT0 sO0 loose mean mg mb Q B F X N T hk hrd hd1 hu hret
  (try dsimp only at F)
  (try dsimp only at N)
  (try dsimp only at hrd)
  (try dsimp only at hret)
  k_dflt (refine' enterR ?k1 ?k2 ?k3 ?k4 ?k5 ?kA ?kF ?kK ?k6 ?k7 ?k8 ?k9 ?kB ?_ ?c2 ?c3 ?c4 ?c5; (case kA => exact rfl); (case kF => exact rfl); (case kK => assumption); (case k1 => k_asm); (case k2 => k_asm); (case k3 => k_asm); (case k4 => k_asm); (case k5 => k_asm); (case k6 => k_is); (case k7 => k_is); (case k8 => ktr_room); (case k9 => first | exact BindsTo.of_eq rfl | exact binds_K (by k_in) rfl (by k_is) rfl rfl rfl); (case c5 => decide); (case kB => exact locs rfl); (case c2 => exact rfl); (case c3 => exact rfl); (case c4 => exact rfl); k_whole)
  intro g L1 h1 FG F1 N1 B1 X1 T1 keep hlt
  (try dsimp only)
  (try ((try change wpAny _ _ _ _ _ _); k_fold))
  clear hrd hlt
  k_steps
  · exact fin (muts' := []) (ex := []) hret keep (by assumption) (by assumption) (by assumption) (by assumption) (fun _ h => nomatch h) (fun _ h => nomatch h) (fun _ h => nomatch h) ⟨rfl, rfl, _, congrArg (fun z => Value.int z _) (if_pos (by assumption)).symm⟩
  · exact fin (muts' := []) (ex := []) hret keep (by assumption) (by assumption) (by assumption) (by assumption) (fun _ h => nomatch h) (fun _ h => nomatch h) (fun _ h => nomatch h) ⟨rfl, rfl, _, congrArg (fun z => Value.int z _) (if_neg (by assumption)).symm⟩

theorem fresh_Cba : True := by
  k_with_none
  w_top off
  trivial
section
variable {prog : Program} {w : World} {A : Around} {s : Shared} {h₀ : Heap} {L : Addr} {m : Str → Option Value} {news : List (Addr × Obj)} {Q : Value → Shared → Prop}
theorem ba_appendK {b : Addr} {arr : Array UInt8} {v : Int} {t : Tok} {g : Obj → List (Addr × Obj)} (F : Fr h₀ L s.heap m) (N : News h₀ L s.heap news) (U : UpdF b (baOf arr) news g) (h0 : 0 ≤ v) (h1 : v < 256) (hsz : arr.size < 1000000)
    (h : ∀ h', Fr h₀ L h' m → News h₀ L h' (g (baOf (arr.push v.toNat.toUInt8))) → Q .none { s with heap := h' }) : wpR (model prog w) A (call (.builtin "bytearray.append") [.ref b, .int v t]) Q s := by
  refine hideG fun G9 k9 => ?_
  obtain ⟨own, rest, rfl, hg, q1, q2⟩ := U.split
  refine k9 ?_
  clear k9 G9
  have hmem := N (b, baOf arr) (List.mem_append_right _ (.head _))
  refine ba_append hmem.1 h0 h1 hsz fun h' ho' hs => h h' ?_ (hg _ ▸ N.setAt q1 q2 hs ho')
  refine ⟨F.ns.sameBut hs (Ne.symm hmem.2.1), fun a oa e => (hs.2 a (fun q => ?_)).trans (F.keep a oa e), F.above⟩
  rw [q, hmem.2.2] at e; cases e
theorem ba_callK (F : Fr h₀ L s.heap m) (N : News h₀ L s.heap news)
    (h : ∀ D h', Fr h₀ L h' m → News h₀ L h' ((D, baOf #[]) :: news) → (∀ p ∈ news, p.1 < D) → Q (.ref D) { s with heap := h' }) : wpR (model prog w) A (call (.type "bytearray") []) Q s := by
  refine ba_call fun h' hb hs => ?_
  have F1 := F.push (baOf #[])
  have N1 := N.push F (baOf #[])
  have hm := N1 (s.heap.objs.size, baOf #[]) (.head _)
  have hlt : ∀ p ∈ news, p.1 < s.heap.objs.size := fun p hp => Heap.lt_size (N p hp).1
  refine h _ h' ⟨F1.ns.sameBut hs (Ne.symm hm.2.1), fun a oa e => (hs.2 a (fun q => ?_)).trans (F1.keep a oa e), F1.above⟩ (fun p hp => ?_) hlt
  · rw [q, hm.2.2] at e; cases e
  · rcases List.mem_cons.mp hp with rfl | hp
    · exact ⟨hb, hm.2⟩
    · exact ⟨(hs.2 p.1 (Nat.ne_of_lt (hlt p hp))).trans (N1 p (.tail _ hp)).1, (N1 p (.tail _ hp)).2⟩
theorem callWithBR {env : Env} {pos : Pos} {id : String} {first : List Value} {e : PySem.Expr} {rest : List PySem.Expr}
    (h : wpAny (model prog w) A (spliced (backTo pos (starEach (e :: rest) env))) (fun vs s₁ => wpR (model prog w) A (call (.builtin id) (first ++ vs)) Q s₁) (fun _ _ => False) s)
    (he : starEach (e :: rest) env = (false, eval e env) :: starEach rest env := by rfl) (hplain : (backTo pos (starEach rest env)).any (·.1) = false := by rfl) :
    wpR (model prog w) A (callWith pos (.builtin id) first (backTo pos (starEach (e :: rest) env)) []) Q s := by
  rw [he] at h ⊢
  have hp : ((backTo pos ((false, eval e env) :: starEach rest env))).any (·.1) = false := by show (false || (backTo pos (starEach rest env)).any (·.1)) = false; rw [hplain]; rfl
  exact callWith_ofR (P := fun _ => True) hp (fun _ _ => ⟨.machine, .inr (.inl rfl), Looks.of_pure rfl⟩) (evalArgsR (wpR_of (wpAny_mono h (fun vs s₁ z => ⟨trivial, z⟩) fun _ _ x => x)))
theorem callWithTR0 {env : Env} {pos : Pos} {T : String} {first : List Value} (h : wpR (model prog w) A (call (.type T) (first ++ [])) Q s) : wpR (model prog w) A (callWith pos (.type T) first (backTo pos (starEach [] env)) []) Q s :=
  callWith_ofR (P := fun _ => True) rfl (fun _ _ => ⟨.machine, .inr (.inl rfl), Looks.of_pure rfl⟩) (wpR_of (evalArgs_nil3 ⟨trivial, h⟩))
/-- a plain statement ahead of the rest -/
theorem plainR {env : Env} {st : Stmt} {rest : List Stmt} {Q : Flow → Shared → Prop} (h : wpAny (model prog w) A (exec st env) (fun f s' => match f with | .next => wpR (model prog w) A (execs rest env) Q s' | f => Q f s') (fun _ _ => False) s) : wpR (model prog w) A (execs (st :: rest) env) Q s := execs_consR (wpR_of h)
theorem plainEnd {env : Env} {sts : List Stmt} {Q : Flow → Shared → Prop} (h : wpAny (model prog w) A (execs sts env) Q (fun _ _ => False) s) : wpR (model prog w) A (execs sts env) Q s := wpR_of h
end
section
variable {prog : Program} {w : World} {A : Around} {s : Shared} {env : Env} {h₀ : Heap} {L : Addr} {Q : Flow → Shared → Prop}
/-- a while loop on clear stacks: its test plain, its state named -/
theorem whileK {σ : Type} {test : PySem.Expr} {body : List Stmt} {pos : Pos} {m₀ : Str → Option Value} (hA : A.mark none = A) (Led : σ → List (Addr × Obj)) (ps : σ → List (Str × Value)) (Facts : σ → Prop) (stored : List Str) (P : σ → Prop) (μ : σ → Nat) (c₀ : σ)
    (F : Fr h₀ L s.heap m₀) (N : News h₀ L s.heap (Led c₀)) (hf : Facts c₀) (hk : ∀ p ∈ ps c₀, m₀ p.1 = some p.2) (hp : P c₀)
    (turn : ∀ (c : σ) (u : Str → Option Value) h tk, Facts c → P c → Fr h₀ L h (kstB (fun z => if stored.contains z then u z else m₀ z) (ps c)) → News h₀ L h (Led c) →
      wpAny (model prog w) A (isTrue test env (eval test env)) (fun b s₂ =>
        if b = true then wpR (model prog w) A (execs body env) (KswPost h₀ L s Led ps Facts stored m₀ P μ Q c) s₂ else Q .next s₂) (fun _ _ => False) { s with heap := h, toks := tk }) :
    wpR (model prog w) A (exec (.While test body [] pos) env) Q s := by
  refine WhileR hA (fun n s' => ∃ (c : σ) (h : Heap) (tk : Nat) (m' : Str → Option Value), s' = { s with heap := h, toks := tk } ∧ μ c = n ∧ Facts c ∧ P c ∧ Fr h₀ L h m' ∧ News h₀ L h (Led c) ∧ (∀ p ∈ ps c, m' p.1 = some p.2) ∧ (∀ z, (∀ p ∈ ps c, z ≠ p.1) → stored.contains z = false → m' z = m₀ z)) ?_ (μ c₀)
    ⟨c₀, s.heap, s.toks, m₀, rfl, rfl, hf, hp, F, N, hk, fun _ _ _ => rfl⟩
  rintro n s' ⟨c, h, tk, m', rfl, rfl, hf', hp', F', N', h1, h2⟩
  refine wpR_mono (wpR_of (turn c m' h tk hf' hp' (ksw_fr h1 h2 F') N')) fun b s₂ p => ?_
  cases b with
  | false => simpa using p
  | true =>
    simp only [if_true] at p ⊢
    refine wpR_mono p fun f s₃ q => ?_
    cases f with
    | ret v => exact q
    | brk => exact q
    | next =>
      refine hideG fun G9 k9 => ?_
      obtain ⟨c', h', tk', m₂, news', rfl, F₂, N₂, hn, hf9, hk9, hr9, hp9, hm9⟩ := q
      refine k9 ?_
      clear k9 G9
      exact ⟨μ c', hm9, c', h', tk', m₂, rfl, rfl, hf9, hp9, F₂, fun p hp => N₂ p (hn p hp), hk9, hr9⟩
    | cont =>
      refine hideG fun G9 k9 => ?_
      obtain ⟨c', h', tk', m₂, news', rfl, F₂, N₂, hn, hf9, hk9, hr9, hp9, hm9⟩ := q
      refine k9 ?_
      clear k9 G9
      exact ⟨μ c', hm9, c', h', tk', m₂, rfl, rfl, hf9, hp9, F₂, fun p hp => N₂ p (hn p hp), hk9, hr9⟩
end

theorem fresh_Cbits : True := by
  k_with_none
  w_top off
  trivial
/-- the number that octets spell, the first the lowest -/
noncomputable def leI : List UInt8 → Int
  | [] => 0
  | b :: r => b.toNat + 256 * leI r
/-- the dict of an object of class LowWriter -/
noncomputable abbrev wDict (w : World) (b : Addr) (k1 k2 k3 : Tok) (held hb : Int) (t1 t2 : Tok) : Obj := dictOf [⟨PyData.keyHash w.params (Str.ofString "made"), .str (Str.ofString "made") k1, .ref b⟩, ⟨PyData.keyHash w.params (Str.ofString "held"), .str (Str.ofString "held") k2, .int held t1⟩, ⟨PyData.keyHash w.params (Str.ofString "held_bits"), .str (Str.ofString "held_bits") k3, .int hb t2⟩] 3
/-- what the writer holds: the number and how many bits it is written in -/
noncomputable def wVal (arr : Array UInt8) (held : Int) : Int := leI arr.toList + held * 256 ^ arr.size
noncomputable def wLen (arr : Array UInt8) (hb : Int) : Int := 8 * arr.size + hb

theorem leI_snoc (l : List UInt8) (x : UInt8) : leI (l ++ [x]) = leI l + 256 ^ l.length * x.toNat := by
  induction l with
  | nil => simp [leI]
  | cons b r ih =>
    simp only [List.cons_append, leI, ih, List.length_cons, Int.pow_succ]
    rw [Int.mul_add, ← Int.mul_assoc, Int.mul_comm 256 (256 ^ r.length)]
    omega
theorem wVal_push {arr : Array UInt8} {held : Int} (_h0 : 0 ≤ held) : wVal (arr.push (held % 256).toNat.toUInt8) (held / 256) = wVal arr held := by
  unfold wVal
  have e1 : (((held % 256).toNat.toUInt8.toNat : Nat) : Int) = held % 256 := byte_back (by omega) (by omega)
  rw [Array.toList_push, leI_snoc, e1, Array.size_push, Int.pow_succ, Array.length_toList]
  have e2 : held = held % 256 + 256 * (held / 256) := by omega
  generalize (256 : Int) ^ arr.size = p
  generalize held % 256 = r at e2 ⊢
  generalize held / 256 = q at e2 ⊢
  rw [e2, Int.add_mul, Int.mul_comm p r, Int.add_assoc, Int.mul_comm p 256, ← Int.mul_assoc q 256 p, Int.mul_comm q 256]
theorem wLen_push {arr : Array UInt8} {x : UInt8} {hb : Int} : wLen (arr.push x) (hb - 8) = wLen arr hb := by
  unfold wLen
  rw [Array.size_push]
  omega
theorem pow_split {a b : Int} (h0 : 0 ≤ a) (h1 : 0 ≤ b) : (2 : Int) ^ (a + b).toNat = 2 ^ a.toNat * 2 ^ b.toNat := by
  rw [Int.toNat_add h0 h1, Int.pow_add]
theorem pow256 (k : Nat) : (256 : Int) ^ k = 2 ^ (8 * k) := by
  rw [Int.pow_mul]; rfl
theorem wVal_more {arr : Array UInt8} {held hb v : Int} (hb0 : 0 ≤ hb) : wVal arr (held + v * 2 ^ hb.toNat) = wVal arr held + v * 2 ^ (wLen arr hb).toNat := by
  unfold wVal wLen
  have e : (8 * (arr.size : Int) + hb).toNat = hb.toNat + 8 * arr.size := by omega
  rw [e, Int.pow_add, pow256, Int.add_mul, ← Int.add_assoc, Int.mul_assoc]
theorem or_add {a v : Int} {k : Nat} (h0 : 0 ≤ a) (h1 : a < 2 ^ k) (hv : 0 ≤ v) : Builtin.bitOr a (v * 2 ^ k) = a + v * 2 ^ k := by
  have hx := bitXor_and a (v * 2 ^ k)
  have hz : Builtin.bitAnd a (v * 2 ^ k) = 0 := by
    obtain ⟨m, rfl⟩ := Int.eq_ofNat_of_zero_le h0
    obtain ⟨u, rfl⟩ := Int.eq_ofNat_of_zero_le hv
    have e : ((u : Int) * 2 ^ k) = ((u * 2 ^ k : Nat) : Int) := by simp
    have hm : m < 2 ^ k := by
      have : ((m : Nat) : Int) < ((2 ^ k : Nat) : Int) := by simpa using h1
      omega
    rw [e]
    unfold Builtin.bitAnd
    rw [decide_eq_true (Int.natCast_nonneg m), decide_eq_true (Int.natCast_nonneg (u * 2 ^ k))]
    simp only [Int.toNat_natCast]
    have : m &&& u * 2 ^ k = 0 := by
      apply Nat.eq_of_testBit_eq
      intro i
      rw [Nat.testBit_and, Nat.zero_testBit, Nat.testBit_mul_two_pow]
      by_cases hi : k ≤ i
      · rw [Nat.testBit_lt_two_pow (Nat.lt_of_lt_of_le hm (Nat.pow_le_pow_right (by decide) hi))]; rfl
      · simp [hi]
    rw [this]; rfl
  have hd : Builtin.bitXor a (v * 2 ^ k) = Builtin.bitOr a (v * 2 ^ k) - Builtin.bitAnd a (v * 2 ^ k) := rfl
  omega
theorem and_255 {a : Int} (h0 : 0 ≤ a) : Builtin.bitAnd a 255 = a % 256 := bitAnd_m8 a
theorem bits_call {w : World} {x dx b : Addr} {k1 k2 k3 : Tok} {arr : Array UInt8} {held hb v n : Int} {t1 t2 tv tn : Tok} (hh0 : 0 ≤ held) (hh1 : held < 2 ^ hb.toNat) (hb0 : 0 ≤ hb) (hb1 : hb < 8) (hv0 : 0 ≤ v) (hv1 : v < 2 ^ n.toNat) (hn0 : 0 ≤ n) (hn1 : n ≤ 8) (hsz : arr.size < 10000) (hne : @Ne Nat dx b) :
    CallR w 120 [.ref x, .int v tv, .int n tn] 3 40 [(x, instObj 165 dx)] [(dx, wDict w b k1 k2 k3 held hb t1 t2), (b, baOf arr)] (P2 dx b fun r o' u' ex => ex = [] ∧ ∃ arr' held' hb' t1' t2', o' = wDict w b k1 k2 k3 held' hb' t1' t2' ∧ u' = baOf arr' ∧
      0 ≤ held' ∧ held' < 2 ^ hb'.toNat ∧ 0 ≤ hb' ∧ hb' < 8 ∧ wLen arr' hb' = wLen arr hb + n ∧ wVal arr' held' = wVal arr held + v * 2 ^ (wLen arr hb).toNat) := by
  k_with_none
  k_with "getMethod ref" => ((k_here; (with_reducible show wpAny _ _ (getMethod (Value.ref _) (PySem.Str.ofString "append") _) _ _ _); k_dflt (refine' ba_getMethod ?q1 ?q2 ?q3 ?_; (case q1 => exact News.get (by k_asm) (by k_mem)); (case q2 => exact rfl); (case q3 => exact rfl); k_whole)))
  k_with "call ref" => ((k_here; (with_reducible show wpAny _ _ (call (Value.ref 85) _) _ _ _); k_dflt (refine' use0 (needc_call ?q1 ?q2) ?k1 ?k2 ?k3 ?k4 ?k6 ?kK ?kr ?kd ?ku ?_; (case k1 => k_asm); (case k2 => k_asm); (case k3 => k_asm); (case k4 => k_asm); (case k6 => k_asm); (case kK => first | exact rfl | assumption); (case kr => tb_rel); (case q1 => first | assumption | omega); (case q2 => first | assumption | omega); (case kd => ktr_room); (case ku => ktr_units); k_whole; refine rB ?_; intro  h9 tk9 _ F9 N9; (dsimp only [List.nil_append] at N9); (try k_sweep))))
  k_with "call ref" => ((k_here; (with_reducible show wpAny _ _ (call (Value.ref 254) _) _ _ _); k_dflt (refine' use0 (places_call ?q1 ?q2) ?k1 ?k2 ?k3 ?k4 ?k6 ?kK ?kr ?kd ?ku ?_; (case k1 => k_asm); (case k2 => k_asm); (case k3 => k_asm); (case k4 => k_asm); (case k6 => k_asm); (case kK => first | exact rfl | assumption); (case kr => tb_rel); (case q1 => first | assumption | omega); (case q2 => first | assumption | omega); (case kd => ktr_room); (case ku => ktr_units); k_whole; refine rA ?_; intro t9 h9 tk9 _ F9 N9; (dsimp only [List.nil_append] at N9); (try k_sweep))))
  k_with "call ref" => ((k_here; (with_reducible show wpAny _ _ (call (Value.ref 92) _) _ _ _); k_dflt (refine' use0 (needv_call ?q1 ?q2 ?q3 ?q4) ?k1 ?k2 ?k3 ?k4 ?k6 ?kK ?kr ?kd ?ku ?_; (case k1 => k_asm); (case k2 => k_asm); (case k3 => k_asm); (case k4 => k_asm); (case k6 => k_asm); (case kK => first | exact rfl | assumption); (case kr => tb_rel); (case q1 => first | assumption | omega); (case q2 => first | assumption | omega); (case q3 => first | assumption | omega); (case q4 => first | assumption | omega); (case kd => ktr_room); (case ku => ktr_units); k_whole; refine rB ?_; intro  h9 tk9 _ F9 N9; (dsimp only [List.nil_append] at N9); (try k_sweep))))
  unfold CallR
  k_fill
  intro dp un gd cn sc a ccd cl outer A₀ base h₀ L m
  refine ps5 ?_
  intro sH0 sG0 sD0 sT0 sO0 loose mean mg mb Q B F X N T hk hrd hd1 hu hret
  (try dsimp only at F)
  (try dsimp only at N)
  (try dsimp only at hrd)
  (try dsimp only at hret)
  k_dflt (refine' enterRR ?k1 ?k2 ?k3 ?k4 ?k5 ?kA ?kF ?kK ?k6 ?k7 ?k8 ?k9 ?kB ?_ ?c2 ?c3 ?c4 ?c5; (case kA => exact rfl); (case kF => exact rfl); (case kK => assumption); (case k1 => k_asm); (case k2 => k_asm); (case k3 => k_asm); (case k4 => k_asm); (case k5 => k_asm); (case k6 => k_is); (case k7 => k_is); (case k8 => ktr_room); (case k9 => first | exact BindsTo.of_eq rfl | exact binds_K (by k_in) rfl (by k_is) rfl rfl rfl); (case c5 => decide); (case kB => exact locs rfl); (case c2 => exact rfl); (case c3 => exact rfl); (case c4 => exact rfl); k_whole)
  intro g L1 h1 FG F1 N1 B1 X1 T1 keep hlt
  (try dsimp only)
  (try ((try change wpAny _ _ _ _ _ _); k_fold))
  have R : ∀ z ∈ [(x, instObj 165 dx)], g.get? z.1 = some z.2 := fun x hx => keep _ _ (hrd x hx).2 (hrd x hx).1
  have r1 := R _ (.head _)
  try dsimp only at r1
  clear R
  dsimp only [wDict] at N1
  clear hrd hlt
  have hp1 : (2 : Int) ^ hb.toNat ≤ 256 := by
    have : (2 : Nat) ^ hb.toNat ≤ 2 ^ 8 := Nat.pow_le_pow_right (by decide) (by omega)
    have e : ((2 ^ hb.toNat : Nat) : Int) = (2 : Int) ^ hb.toNat := by simp
    omega
  have hp2 : (2 : Int) ^ n.toNat ≤ 256 := by
    have : (2 : Nat) ^ n.toNat ≤ 2 ^ 8 := Nat.pow_le_pow_right (by decide) (by omega)
    have e : ((2 ^ n.toNat : Nat) : Int) = (2 : Int) ^ n.toNat := by simp
    omega
  refine plainR ?_
  k_steps
  refine plainR ?_
  k_steps
  refine plainR ?_
  k_steps
  dsimp only
  have hor : Builtin.bitOr held (v * 2 ^ hb.toNat) = held + v * 2 ^ hb.toNat := or_add hh0 hh1 hv0
  refine execs_consR ?_
  rename Fr _ _ _ _ => lF'
  rename News _ _ _ _ => lN'
  rw [hor] at lN'
  with_unfolding_all refine' whileK (rfl) (σ := (Array UInt8 × Int × Int) × (Tok × Tok)) (fun c => [(dx, wDict w b k1 k2 k3 c.1.2.1 c.1.2.2 c.2.1 c.2.2), (b, baOf c.1.1)]) (fun _ => []) (fun _ => True) [] (fun c => 0 ≤ c.1.2.1 ∧ c.1.2.1 < 2 ^ c.1.2.2.toNat ∧ 0 ≤ c.1.2.2 ∧ c.1.2.2 < 16 ∧ (c.1.1.size : Int) + c.1.2.2 < 10020 ∧ wLen c.1.1 c.1.2.2 = wLen arr hb + n ∧ wVal c.1.1 c.1.2.1 = wVal arr held + v * 2 ^ (wLen arr hb).toNat) (fun c => c.1.2.2.toNat) ((arr, held + v * 2 ^ hb.toNat, hb + n), (_, _)) lF' lN' trivial (fun _ h => nomatch h) ?p0 ?turn
  case p0 =>
    dsimp only
    have hm := Int.mul_nonneg hv0 (Int.le_of_lt (Int.pow_pos (n := 2) (m := hb.toNat) (by decide)))
    refine ⟨by omega, ?_, by omega, by omega, by omega, by unfold wLen; omega, wVal_more hb0⟩
    rw [pow_split hb0 hn0, Int.mul_comm (2 ^ hb.toNat)]
    have h9 : (v + 1) * 2 ^ hb.toNat ≤ 2 ^ n.toNat * 2 ^ hb.toNat := Int.mul_le_mul_of_nonneg_right (by omega) (Int.le_of_lt (Int.pow_pos (n := 2) (m := hb.toNat) (by decide)))
    rw [Int.add_mul] at h9
    omega
  case turn =>
    (first | (refine pz1 ?_; intro arr1 held1 hb1' ta tb u h tk cl1; clear cl1; refine an_ppppppp ?_; intro q1 q2 q3 q4 q5 q6 q7 kFr kNews) | (rintro ⟨⟨arr1, held1, hb1'⟩, ⟨ta, tb⟩⟩ u h tk - ⟨q1, q2, q3, q4, q5, q6, q7⟩ kFr kNews))
    clear lF' lN'
    dsimp only [kstB, wDict] at kFr kNews
    dsimp only at q1 q2 q3 q4 q5 q6 q7
    try ((try change wpAny _ _ _ _ _ _); k_fold)
    k_steps
    · refine execs_consR (ExprR (MethodCallR ?_))
      k_steps
      dsimp only
      refine callWithBR ?_
      k_steps
      try dsimp only [List.cons_append, List.nil_append]
      have hand : Builtin.bitAnd held1 255 = held1 % 256 := and_255 q1
      rw [hand]
      refine ba_appendK (by k_asm) (by k_asm) (by k_updF) (by omega) (by omega) (by omega) fun h9 F9 N9 => ?_
      dsimp only
      refine plainR ?_
      k_steps
      dsimp only
      refine plainR ?_
      k_steps
      dsimp only
      refine plainEnd ?_
      k_steps
      have hfd : held1.fdiv 256 = held1 / 256 := Int.fdiv_eq_ediv_of_nonneg _ (by decide)
      refine ksw_end ((arr1.push (held1 % 256).toNat.toUInt8, held1.fdiv 256, hb1' - 8), (_, _)) (by assumption) (by assumption) (fun p hp => hp) trivial (fun _ h => nomatch h) (by ksw_same) ?m1 ?m2
      case m2 => dsimp only; omega
      case m1 =>
        dsimp only
        have e8 : (2 : Int) ^ hb1'.toNat = 2 ^ (hb1' - 8).toNat * 256 := by
          have := pow_split (a := hb1' - 8) (b := 8) (by omega) (by omega)
          rw [show hb1' - 8 + 8 = hb1' by omega] at this
          exact this
        rw [hfd]
        refine ⟨by omega, by omega, by omega, by omega, by rw [Array.size_push]; omega, by rw [wLen_push]; exact q6, by rw [wVal_push q1]; exact q7⟩
    · refine plainEnd ?_
      k_steps
      exact fin (Q := okR Q) (muts' := [(dx, wDict w b k1 k2 k3 held1 hb1' ta tb), (b, baOf arr1)]) (ex := []) hret keep (by assumption) (by assumption) (by assumption) (by assumption) (fun _ h => h) (fun _ h => nomatch h) (fun _ h => nomatch h) ⟨_, _, rfl, rfl, arr1, held1, hb1', ta, tb, rfl, rfl, q1, q2, q3, by omega, q6, q7⟩

theorem fresh_Cw : True := by
  k_with_none
  w_top off
  trivial
theorem initW_call {w : World} {x dx : Addr} : CallR w 113 [.ref x] 3 40 [(x, instObj 165 dx)] [(dx, dictOf [] 0)] (P1 dx fun r o' ex => r = .none ∧ ∃ b k1 k2 k3 t1 t2, o' = wDict w b k1 k2 k3 0 0 t1 t2 ∧ ex = [(b, baOf #[])]) := by
  k_with_none
  k_with "getMethod ref" => ((k_here; (with_reducible show wpAny _ _ (getMethod (Value.ref _) (PySem.Str.ofString "append") _) _ _ _); k_dflt (refine' ba_getMethod ?q1 ?q2 ?q3 ?_; (case q1 => exact News.get (by k_asm) (by k_mem)); (case q2 => exact rfl); (case q3 => exact rfl); k_whole)))
  k_with "call ref" => ((k_here; (with_reducible show wpAny _ _ (call (Value.ref 85) _) _ _ _); k_dflt (refine' use0 (needc_call ?q1 ?q2) ?k1 ?k2 ?k3 ?k4 ?k6 ?kK ?kr ?kd ?ku ?_; (case k1 => k_asm); (case k2 => k_asm); (case k3 => k_asm); (case k4 => k_asm); (case k6 => k_asm); (case kK => first | exact rfl | assumption); (case kr => tb_rel); (case q1 => first | assumption | omega); (case q2 => first | assumption | omega); (case kd => ktr_room); (case ku => ktr_units); k_whole; refine rB ?_; intro  h9 tk9 _ F9 N9; (dsimp only [List.nil_append] at N9); (try k_sweep))))
  k_with "call ref" => ((k_here; (with_reducible show wpAny _ _ (call (Value.ref 254) _) _ _ _); k_dflt (refine' use0 (places_call ?q1 ?q2) ?k1 ?k2 ?k3 ?k4 ?k6 ?kK ?kr ?kd ?ku ?_; (case k1 => k_asm); (case k2 => k_asm); (case k3 => k_asm); (case k4 => k_asm); (case k6 => k_asm); (case kK => first | exact rfl | assumption); (case kr => tb_rel); (case q1 => first | assumption | omega); (case q2 => first | assumption | omega); (case kd => ktr_room); (case ku => ktr_units); k_whole; refine rA ?_; intro t9 h9 tk9 _ F9 N9; (dsimp only [List.nil_append] at N9); (try k_sweep))))
  k_with "call ref" => ((k_here; (with_reducible show wpAny _ _ (call (Value.ref 92) _) _ _ _); k_dflt (refine' use0 (needv_call ?q1 ?q2 ?q3 ?q4) ?k1 ?k2 ?k3 ?k4 ?k6 ?kK ?kr ?kd ?ku ?_; (case k1 => k_asm); (case k2 => k_asm); (case k3 => k_asm); (case k4 => k_asm); (case k6 => k_asm); (case kK => first | exact rfl | assumption); (case kr => tb_rel); (case q1 => first | assumption | omega); (case q2 => first | assumption | omega); (case q3 => first | assumption | omega); (case q4 => first | assumption | omega); (case kd => ktr_room); (case ku => ktr_units); k_whole; refine rB ?_; intro  h9 tk9 _ F9 N9; (dsimp only [List.nil_append] at N9); (try k_sweep))))
  unfold CallR
  k_fill
  intro dp un gd cn sc a ccd cl outer A₀ base h₀ L m
  refine ps5 ?_
  intro sH0 sG0 sD0 sT0 sO0 loose mean mg mb Q B F X N T hk hrd hd1 hu hret
  (try dsimp only at F)
  (try dsimp only at N)
  (try dsimp only at hrd)
  (try dsimp only at hret)
  k_dflt (refine' enterRR ?k1 ?k2 ?k3 ?k4 ?k5 ?kA ?kF ?kK ?k6 ?k7 ?k8 ?k9 ?kB ?_ ?c2 ?c3 ?c4 ?c5; (case kA => exact rfl); (case kF => exact rfl); (case kK => assumption); (case k1 => k_asm); (case k2 => k_asm); (case k3 => k_asm); (case k4 => k_asm); (case k5 => k_asm); (case k6 => k_is); (case k7 => k_is); (case k8 => ktr_room); (case k9 => first | exact BindsTo.of_eq rfl | exact binds_K (by k_in) rfl (by k_is) rfl rfl rfl); (case c5 => decide); (case kB => exact locs rfl); (case c2 => exact rfl); (case c3 => exact rfl); (case c4 => exact rfl); k_whole)
  intro g L1 h1 FG F1 N1 B1 X1 T1 keep hlt
  (try dsimp only)
  (try ((try change wpAny _ _ _ _ _ _); k_fold))
  have R : ∀ z ∈ [(x, instObj 165 dx)], g.get? z.1 = some z.2 := fun x hx => keep _ _ (hrd x hx).2 (hrd x hx).1
  have r1 := R _ (.head _)
  try dsimp only at r1
  clear R
  clear hrd hlt
  refine execs_consR (AssignAttrR (CallR_ ?_))
  k_steps
  refine callWithTR0 ?_
  refine ba_callK (by k_asm) (by k_asm) fun D h9 F9 N9 l9 => ?_
  try k_lt l9
  k_steps
  dsimp only
  refine plainEnd ?_
  k_steps
  exact fin (Q := okR Q) (muts' := [(dx, _)]) (ex := [(D, baOf #[])]) hret keep (by assumption) (by assumption) (by assumption) (by assumption) (List.forall_mem_cons.mpr ⟨.head _, List.forall_mem_cons.mpr ⟨.tail _ (.head _), fun _ h => nomatch h⟩⟩) (List.forall_mem_cons.mpr ⟨.head _, fun _ h => nomatch h⟩) (List.forall_mem_cons.mpr ⟨fun q => absurd (List.mem_singleton.mp q) (by k_ne), fun _ h => nomatch h⟩) ⟨_, rfl, rfl, D, _, _, _, _, _, rfl, rfl⟩

theorem fresh_Cdone : True := by
  k_with_none
  w_top off
  trivial
theorem done_one {arr : Array UInt8} {held : Int} (h0 : 0 ≤ held) (h1 : held < 256) : leI (arr ++ #[held.toNat.toUInt8]).toList = wVal arr held := by
  unfold wVal
  rw [Array.toList_append, leI_snoc, byte_back h0 h1, Array.length_toList, Int.mul_comm held]
theorem done_none {arr : Array UInt8} {held : Int} (h0 : 0 ≤ held) (h1 : held < 2 ^ (0 : Int).toNat) : leI (arr ++ #[]).toList = wVal arr held := by
  have h1' : held < 1 := h1
  have e : held = 0 := by omega
  unfold wVal
  rw [e, Array.append_empty]; omega
theorem done_call {w : World} {x dx b : Addr} {k1 k2 k3 : Tok} {arr : Array UInt8} {held hb : Int} {t1 t2 : Tok} (hh0 : 0 ≤ held) (hh1 : held < 2 ^ hb.toNat) (hb0 : 0 ≤ hb) (hb1 : hb < 8) (hsz : arr.size < 10000) :
    Call w 162 [.ref x] 3 60 [(x, instObj 165 dx), (dx, wDict w b k1 k2 k3 held hb t1 t2), (b, baOf arr)] [] (P0 fun r ex => ex = [] ∧ ∃ arr' t, r = .bytes arr' t ∧ leI arr'.toList = wVal arr held ∧ (arr'.size : Int) = (wLen arr hb + 7) / 8) := by
  k_with_none
  k_with "getMethod ref" => ((k_here; (with_reducible show wpAny _ _ (getMethod (Value.ref _) (PySem.Str.ofString "append") _) _ _ _); k_dflt (refine' ba_getMethod ?q1 ?q2 ?q3 ?_; (case q1 => exact News.get (by k_asm) (by k_mem)); (case q2 => exact rfl); (case q3 => exact rfl); k_whole)))
  k_with "call ref" => ((k_here; (with_reducible show wpAny _ _ (call (Value.ref 85) _) _ _ _); k_dflt (refine' use0 (needc_call ?q1 ?q2) ?k1 ?k2 ?k3 ?k4 ?k6 ?kK ?kr ?kd ?ku ?_; (case k1 => k_asm); (case k2 => k_asm); (case k3 => k_asm); (case k4 => k_asm); (case k6 => k_asm); (case kK => first | exact rfl | assumption); (case kr => tb_rel); (case q1 => first | assumption | omega); (case q2 => first | assumption | omega); (case kd => ktr_room); (case ku => ktr_units); k_whole; refine rB ?_; intro  h9 tk9 _ F9 N9; (dsimp only [List.nil_append] at N9); (try k_sweep))))
  k_with "call ref" => ((k_here; (with_reducible show wpAny _ _ (call (Value.ref 254) _) _ _ _); k_dflt (refine' use0 (places_call ?q1 ?q2) ?k1 ?k2 ?k3 ?k4 ?k6 ?kK ?kr ?kd ?ku ?_; (case k1 => k_asm); (case k2 => k_asm); (case k3 => k_asm); (case k4 => k_asm); (case k6 => k_asm); (case kK => first | exact rfl | assumption); (case kr => tb_rel); (case q1 => first | assumption | omega); (case q2 => first | assumption | omega); (case kd => ktr_room); (case ku => ktr_units); k_whole; refine rA ?_; intro t9 h9 tk9 _ F9 N9; (dsimp only [List.nil_append] at N9); (try k_sweep))))
  k_with "call ref" => ((k_here; (with_reducible show wpAny _ _ (call (Value.ref 92) _) _ _ _); k_dflt (refine' use0 (needv_call ?q1 ?q2 ?q3 ?q4) ?k1 ?k2 ?k3 ?k4 ?k6 ?kK ?kr ?kd ?ku ?_; (case k1 => k_asm); (case k2 => k_asm); (case k3 => k_asm); (case k4 => k_asm); (case k6 => k_asm); (case kK => first | exact rfl | assumption); (case kr => tb_rel); (case q1 => first | assumption | omega); (case q2 => first | assumption | omega); (case q3 => first | assumption | omega); (case q4 => first | assumption | omega); (case kd => ktr_room); (case ku => ktr_units); k_whole; refine rB ?_; intro  h9 tk9 _ F9 N9; (dsimp only [List.nil_append] at N9); (try k_sweep))))
  unfold Call
  k_fill
  intro dp un gd cn sc a ccd cl outer A₀ base h₀ L m
  refine ps5 ?_
  intro sH0 sG0 sD0 sT0 sO0 loose mean mg mb Q B F X N T hk hrd hd1 hu hret
  (try dsimp only at F)
  (try dsimp only at N)
  (try dsimp only at hrd)
  (try dsimp only at hret)
  k_dflt (refine' enterR ?k1 ?k2 ?k3 ?k4 ?k5 ?kA ?kF ?kK ?k6 ?k7 ?k8 ?k9 ?kB ?_ ?c2 ?c3 ?c4 ?c5; (case kA => exact rfl); (case kF => exact rfl); (case kK => assumption); (case k1 => k_asm); (case k2 => k_asm); (case k3 => k_asm); (case k4 => k_asm); (case k5 => k_asm); (case k6 => k_is); (case k7 => k_is); (case k8 => ktr_room); (case k9 => first | exact BindsTo.of_eq rfl | exact binds_K (by k_in) rfl (by k_is) rfl rfl rfl); (case c5 => decide); (case kB => exact locs rfl); (case c2 => exact rfl); (case c3 => exact rfl); (case c4 => exact rfl); k_whole)
  intro g L1 h1 FG F1 N1 B1 X1 T1 keep hlt
  (try dsimp only)
  (try ((try change wpAny _ _ _ _ _ _); k_fold))
  have R : ∀ z ∈ [(x, instObj 165 dx), (dx, wDict w b k1 k2 k3 held hb t1 t2), (b, baOf arr)], g.get? z.1 = some z.2 := fun x hx => keep _ _ (hrd x hx).2 (hrd x hx).1
  simp only [List.forall_mem_cons, wDict] at R
  obtain ⟨r1, r2, r3, -⟩ := R
  have I1 : InstAt g x (instObj 165 dx) 165 (some (wDict w b k1 k2 k3 held hb t1 t2)) := ⟨r1, rfl, rfl, r2⟩
  dsimp only [wDict] at I1
  have hp1 : (2 : Int) ^ hb.toNat ≤ 256 := by
    have : (2 : Nat) ^ hb.toNat ≤ 2 ^ 8 := Nat.pow_le_pow_right (by decide) (by omega)
    have e : ((2 ^ hb.toNat : Nat) : Int) = (2 : Int) ^ hb.toNat := by simp
    omega
  clear hrd hlt
  k_steps
  all_goals refine ba_bytes (Fr.keep (by k_asm) _ _ r3) (by rw [sizeLine_eq]; omega) fun t9 k9 => ?_
  k_steps
  · refine KBy.add_bytes (by simp only [List.size_toArray, List.length_cons, List.length_nil]; omega) fun t8 k8 => ?_
    k_steps
    exact fin (muts' := []) (ex := []) hret keep (by assumption) (by assumption) (by assumption) (by assumption) (fun _ h => nomatch h) (fun _ h => nomatch h) (fun _ h => nomatch h) ⟨rfl, rfl, _, _, rfl, (done_one hh0 (by omega)), (by simp [wLen]; omega)⟩
  · refine bytes_K (vs := []) (ns := []) (by k_asm) (by k_asm) (by is_list) .nil (fun _ h => nomatch h) (by decide) (by rfl) fun h8 t8 k8 F8 N8 _ => ?_
    refine KBy.add_bytes (by simp; omega) fun t7 k7 => ?_
    k_steps
    exact fin (muts' := []) (ex := []) hret keep (by assumption) (by assumption) (by assumption) (by assumption) (fun _ h => nomatch h) (fun _ h => nomatch h) (fun _ h => nomatch h) ⟨rfl, rfl, _, _, rfl, (done_none hh0 (by rw [show hb = 0 by omega] at hh1; exact hh1)), (by simp [wLen]; omega)⟩

theorem fresh_Cwr : True := by
  k_with_none
  w_top off
  trivial
section
variable {w : World} {f : Addr} {args : List Value} {c1 c2 : Nat} {reads : List (Addr × Obj)}
  {dp un : Nat} {gd : Option (List Code)} {cn : Str} {cs : Scope} {a : Addr} {ccd : Value} {cl : List (Str × Addr)} {outer : List Env} {A₀ : Around} {base h₀ : Heap} {L : Addr} {m : Str → Option Value} {s : Shared}
  {loose : List Str} {mean : ExcName → Option Value} {mg mb : Str → Option Value} {Q : Value → Shared → Prop} {news : List (Addr × Obj)}
theorem use2R {p q : Addr} {o u : Obj} {P : Value → Obj → Obj → List (Addr × Obj) → Prop} {g : Obj → Obj → List (Addr × Obj)} (C : CallR w f args c1 c2 reads [(p, o), (q, u)] (P2 p q P))
    (B : Below A₀ base outer h₀) (F : Fr h₀ L s.heap m) (X : (hd.heap_1 w.params).In h₀) (N : News h₀ L s.heap news) (U : UpdF2 p o q u news g) (T : Top hd.view_1 loose mean mg mb h₀) (hk : cs.kind = .function)
    (hr : ∀ x ∈ reads, s.heap.get? x.1 = some x.2 ∧ x.1 ≠ p ∧ x.1 ≠ q) (hd1 : dp + c1 < recursionLimit) (hu : un + c2 < cLine)
    (ret : ∀ (r : Value) (o' u' : Obj) (ex : List (Addr × Obj)), P r o' u' ex → ∀ (h' : Heap) (tk' : Nat), Offs news ex → Fr h₀ L h' m → News h₀ L h' (ex ++ g o' u') → Q r { s with heap := h', toks := tk' }) :
    wpR (model PySem.Challenge.rw_pq1220_01.row.prog w) (ktrTop dp un gd cn cs L a ccd cl outer) (call (.ref f) args) Q s := by
  obtain ⟨hm1, hm2, hd, hg⟩ := updF2_in U
  refine wpR_call (C dp un gd cn cs a ccd cl outer A₀ base h₀ L m s loose mean mg mb _ B F X (fun x hx => N x (by
    rcases List.mem_cons.mp hx with rfl | hx
    · exact hm1
    · rw [List.mem_singleton.mp hx]; exact hm2)) T hk (fun x hx => ⟨(hr x hx).1, fun z => by
      rcases List.mem_cons.mp z with z | z
      · exact (hr x hx).2.1 z
      · exact (hr x hx).2.2 (List.mem_singleton.mp z)⟩) hd1 hu fun r mu ex h' tk' hp F' N' k hne => ?_)
  obtain ⟨o', u', rfl, hp⟩ := hp
  refine ret r o' u' ex hp h' tk' (offs_of fun x hx => off_of fun q hq => hne x hx _ _ (N q hq).1) F' fun x hx => ?_
  rcases List.mem_append.mp hx with hx | hx
  · exact N' x (List.mem_append_left _ hx)
  · rcases hg o' u' x hx with rfl | rfl | ⟨h1, h2, h3⟩
    · exact N' _ (List.mem_append_right _ (.head _))
    · exact N' _ (List.mem_append_right _ (.tail _ (.head _)))
    · exact ⟨k _ _ (fun z => by
        rcases List.mem_cons.mp z with z | z
        · exact h2 z
        · exact h3 (List.mem_singleton.mp z)) (N x h1).1, (N x h1).2⟩
end
/-- a writer at work: it holds the number V in n bits -/
structure WSt (arr : Array UInt8) (held hb V n : Int) : Prop where
  h0 : 0 ≤ held
  h1 : held < 2 ^ hb.toNat
  b0 : 0 ≤ hb
  b1 : hb < 8
  val : wVal arr held = V
  len : wLen arr hb = n
theorem WSt.n0 {arr : Array UInt8} {held hb V n : Int} (W : WSt arr held hb V n) : 0 ≤ n := by
  have := W.len; have := W.b0; unfold wLen at *; omega
theorem bits_call' {w : World} {x dx b : Addr} {k1 k2 k3 : Tok} {arr : Array UInt8} {held hb v n V N : Int} {t1 t2 tv tn : Tok} (W : WSt arr held hb V N) (hN : N < 70000) (hv0 : 0 ≤ v) (hv1 : v < 2 ^ n.toNat) (hn0 : 0 ≤ n) (hn1 : n ≤ 8) (hne : @Ne Nat dx b) :
    CallR w 120 [.ref x, .int v tv, .int n tn] 3 40 [(x, instObj 165 dx)] [(dx, wDict w b k1 k2 k3 held hb t1 t2), (b, baOf arr)] (P2 dx b fun r o' u' ex => ex = [] ∧ ∃ arr' held' hb' t1' t2', o' = wDict w b k1 k2 k3 held' hb' t1' t2' ∧ u' = baOf arr' ∧ WSt arr' held' hb' (V + v * 2 ^ N.toNat) (N + n)) := by
  have hs : arr.size < 10000 := by have := W.len; have := W.b0; unfold wLen at *; omega
  intro dp un gd cn cs a ccd cl outer A₀ base h₀ L m s loose mean mg mb Q B F X NN T hk hrd hd1 hu hret
  refine bits_call W.h0 W.h1 W.b0 W.b1 hv0 hv1 hn0 hn1 hs hne dp un gd cn cs a ccd cl outer A₀ base h₀ L m s loose mean mg mb Q B F X NN T hk hrd hd1 hu fun r mu ex h' tk' hp => hret r mu ex h' tk' ?_
  obtain ⟨o', u', hmu, hex, arr', held', hb', t1', t2', ho, hu', q1, q2, q3, q4, q5, q6⟩ := hp
  exact ⟨o', u', hmu, hex, arr', held', hb', t1', t2', ho, hu', q1, q2, q3, q4, by rw [q6, W.val, W.len], by rw [q5, W.len]⟩

theorem fresh_Cwrun : True := by
  k_with_none
  w_top off
  trivial
/-- the number and the bits of a run of k noughts -/
noncomputable def rv : Nat → Int → Int
  | 0, r => r
  | q + 1, r => 3 + 4 * rv q r
noncomputable def runV (k : Int) : Int := rv (k.toNat / 3) (k % 3)
noncomputable def runL (k : Int) : Int := 2 * (k / 3) + 2
theorem runV_three {k : Int} (h : 3 ≤ k) : runV k = 3 + 4 * runV (k - 3) := by
  unfold runV
  rw [show k.toNat / 3 = (k - 3).toNat / 3 + 1 by omega, show (k - 3) % 3 = k % 3 by omega]
  rfl
theorem runV_small {k : Int} (h0 : 0 ≤ k) (h : k < 3) : runV k = k := by
  unfold runV
  rw [show k.toNat / 3 = 0 by omega]
  show k % 3 = k
  omega
theorem pow_two_more {N : Int} (h : 0 ≤ N) : (2 : Int) ^ (N + 2).toNat = 4 * 2 ^ N.toNat := by
  rw [Int.toNat_add h (by decide), Int.pow_add, Int.mul_comm]; rfl
theorem gneN' {g h : Heap} {L a b : Addr} {o o' : Obj} {news : List (Addr × Obj)} (r : g.get? a = some o) (N : News g L h news) (hm : (b, o') ∈ news) : a ≠ b := fun q => by
  have := (N _ hm).2.2
  rw [q] at r
  rw [show g.get? b = none from this] at r
  cases r
theorem run_call {w : World} {x dx b : Addr} {k1 k2 k3 : Tok} {arr : Array UInt8} {held hb k V Z : Int} {t1 t2 tk0 : Tok} (W : WSt arr held hb V Z) (hN : Z < 50000) (hk0 : 0 ≤ k) (hk1 : k ≤ 100) (hne : @Ne Nat dx b) :
    CallR w 379 [.ref x, .int k tk0] 4 60 [(x, instObj 165 dx)] [(dx, wDict w b k1 k2 k3 held hb t1 t2), (b, baOf arr)] (P2 dx b fun r o' u' ex => ex = [] ∧ ∃ arr' held' hb' t1' t2', o' = wDict w b k1 k2 k3 held' hb' t1' t2' ∧ u' = baOf arr' ∧ WSt arr' held' hb' (V + runV k * 2 ^ Z.toNat) (Z + runL k)) := by
  k_with_none
  k_with "getMethod ref" => ((k_here; (with_reducible show wpAny _ _ (getMethod (Value.ref _) (PySem.Str.ofString "append") _) _ _ _); k_dflt (refine' ba_getMethod ?q1 ?q2 ?q3 ?_; (case q1 => exact News.get (by k_asm) (by k_mem)); (case q2 => exact rfl); (case q3 => exact rfl); k_whole)))
  k_with "call ref" => ((k_here; (with_reducible show wpAny _ _ (call (Value.ref 85) _) _ _ _); k_dflt (refine' use0 (needc_call ?q1 ?q2) ?k1 ?k2 ?k3 ?k4 ?k6 ?kK ?kr ?kd ?ku ?_; (case k1 => k_asm); (case k2 => k_asm); (case k3 => k_asm); (case k4 => k_asm); (case k6 => k_asm); (case kK => first | exact rfl | assumption); (case kr => tb_rel); (case q1 => first | assumption | omega); (case q2 => first | assumption | omega); (case kd => ktr_room); (case ku => ktr_units); k_whole; refine rB ?_; intro  h9 tk9 _ F9 N9; (dsimp only [List.nil_append] at N9); (try k_sweep))))
  k_with "call ref" => ((k_here; (with_reducible show wpAny _ _ (call (Value.ref 254) _) _ _ _); k_dflt (refine' use0 (places_call ?q1 ?q2) ?k1 ?k2 ?k3 ?k4 ?k6 ?kK ?kr ?kd ?ku ?_; (case k1 => k_asm); (case k2 => k_asm); (case k3 => k_asm); (case k4 => k_asm); (case k6 => k_asm); (case kK => first | exact rfl | assumption); (case kr => tb_rel); (case q1 => first | assumption | omega); (case q2 => first | assumption | omega); (case kd => ktr_room); (case ku => ktr_units); k_whole; refine rA ?_; intro t9 h9 tk9 _ F9 N9; (dsimp only [List.nil_append] at N9); (try k_sweep))))
  k_with "call ref" => ((k_here; (with_reducible show wpAny _ _ (call (Value.ref 92) _) _ _ _); k_dflt (refine' use0 (needv_call ?q1 ?q2 ?q3 ?q4) ?k1 ?k2 ?k3 ?k4 ?k6 ?kK ?kr ?kd ?ku ?_; (case k1 => k_asm); (case k2 => k_asm); (case k3 => k_asm); (case k4 => k_asm); (case k6 => k_asm); (case kK => first | exact rfl | assumption); (case kr => tb_rel); (case q1 => first | assumption | omega); (case q2 => first | assumption | omega); (case q3 => first | assumption | omega); (case q4 => first | assumption | omega); (case kd => ktr_room); (case ku => ktr_units); k_whole; refine rB ?_; intro  h9 tk9 _ F9 N9; (dsimp only [List.nil_append] at N9); (try k_sweep))))
  unfold CallR
  k_fill
  intro dp un gd cn sc a ccd cl outer A₀ base h₀ L m
  refine ps5 ?_
  intro sH0 sG0 sD0 sT0 sO0 loose mean mg mb Q B F X N T hk hrd hd1 hu hret
  (try dsimp only at F)
  (try dsimp only at N)
  (try dsimp only at hrd)
  (try dsimp only at hret)
  k_dflt (refine' enterRR ?k1 ?k2 ?k3 ?k4 ?k5 ?kA ?kF ?kK ?k6 ?k7 ?k8 ?k9 ?kB ?_ ?c2 ?c3 ?c4 ?c5; (case kA => exact rfl); (case kF => exact rfl); (case kK => assumption); (case k1 => k_asm); (case k2 => k_asm); (case k3 => k_asm); (case k4 => k_asm); (case k5 => k_asm); (case k6 => k_is); (case k7 => k_is); (case k8 => ktr_room); (case k9 => first | exact BindsTo.of_eq rfl | exact binds_K (by k_in) rfl (by k_is) rfl rfl rfl); (case c5 => decide); (case kB => exact locs rfl); (case c2 => exact rfl); (case c3 => exact rfl); (case c4 => exact rfl); k_whole)
  intro g L1 h1 FG F1 N1 B1 X1 T1 keep hlt
  (try dsimp only)
  (try ((try change wpAny _ _ _ _ _ _); k_fold))
  have R : ∀ z ∈ [(x, instObj 165 dx)], g.get? z.1 = some z.2 := fun x hx => keep _ _ (hrd x hx).2 (hrd x hx).1
  have r1 := R _ (.head _)
  try dsimp only at r1
  clear R
  clear hrd hlt
  refine execs_consR ?_
  rename Fr _ _ _ _ => lF'
  rename News _ _ _ _ => lN'
  with_unfolding_all refine' whileK (rfl) (σ := (Int × Tok) × (Array UInt8 × Int × Int) × (Tok × Tok) × (Int × Int)) (fun c => [(dx, wDict w b k1 k2 k3 c.2.1.2.1 c.2.1.2.2 c.2.2.1.1 c.2.2.1.2), (b, baOf c.2.1.1)]) (fun c => [(Str.ofString "count", .int c.1.1 c.1.2)]) (fun _ => True) [] (fun c => 0 ≤ c.1.1 ∧ c.1.1 ≤ k ∧ WSt c.2.1.1 c.2.1.2.1 c.2.1.2.2 c.2.2.2.1 c.2.2.2.2 ∧ c.2.2.2.2 + runL c.1.1 = Z + runL k ∧ c.2.2.2.1 + runV c.1.1 * 2 ^ c.2.2.2.2.toNat = V + runV k * 2 ^ Z.toNat) (fun c => c.1.1.toNat) ((k, _), (arr, held, hb), (_, _), (V, Z)) lF' lN' trivial ?kk ⟨hk0, Int.le_refl _, W, rfl, rfl⟩ ?turn
  case kk => kst_all
  case turn =>
    (first | (refine pz10 ?_; intro c tc arr1 held1 hb1' ta tb V1 Z1' u h tk cl1; clear cl1; refine an_ppppp ?_; intro q1 q2 q3 q4 q5 kFr kNews) | (rintro ⟨⟨c, tc⟩, ⟨arr1, held1, hb1'⟩, ⟨ta, tb⟩, ⟨V1, Z1'⟩⟩ u h tk - ⟨q1, q2, q3, q4, q5⟩ kFr kNews))
    clear lF' lN'
    dsimp only [kstB] at kFr
    dsimp only at kNews q1 q2 q3 q4 q5
    try ((try change wpAny _ _ _ _ _ _); k_fold)
    k_steps
    · refine execs_consR (ExprR (MethodCallR ?_))
      k_steps
      dsimp only
      k_dflt (refine' callWithR ?k1 ?k2 ?_; (case k1 => k_asm); (case k2 => k_is); k_whole)
      k_steps
      have hN1 : Z1' < 50300 := by unfold runL at q4; omega
      refine' use2R (bits_call' q3 (by omega) (by decide) (by decide) (by decide) (by decide) hne) ?u1 ?u2 ?u3 ?u4 ?uu ?u6 ?uK ?ur ?ud ?uv ?_
      case u1 => k_asm
      case u2 => k_asm
      case u3 => k_asm
      case u4 => k_asm
      case uu => exact UpdF2.head1 hne (by k_all) (by k_updF)
      case u6 => k_asm
      case uK => rfl
      case ur => exact List.forall_mem_cons.mpr ⟨⟨Fr.keep (by k_asm) _ _ r1, gneN' r1 (by k_asm) (by k_mem), gneN' r1 (by k_asm) (by k_mem)⟩, fun _ h => nomatch h⟩
      case ud => ktr_room
      case uv => ktr_units
      refine rW ?_; intro r9 arr2 held2 hb2 t3 t4 W2 h9 tk9 _ F9 N9
      dsimp only [List.nil_append] at N9
      dsimp only
      refine plainEnd ?_
      k_steps
      refine ksw_end ((c - 3, _), (arr2, held2, hb2), (t3, t4), (V1 + 3 * 2 ^ Z1'.toNat, Z1' + 2)) (by assumption) (by assumption) (fun p hp => hp) trivial (by kst_all) (by ksw_same) ⟨by dsimp only; omega, by dsimp only; omega, W2, ?_, ?_⟩ (by dsimp only; omega)
      · unfold runL at q4 ⊢; dsimp only; omega
      · dsimp only
        rw [← q5, runV_three (k := c) (by omega), pow_two_more q3.n0]
        generalize (2 : Int) ^ Z1'.toNat = p
        generalize runV (c - 3) = y
        rw [Int.add_mul, Int.add_assoc, Int.mul_comm 4 p, ← Int.mul_assoc, Int.mul_comm y p, Int.mul_assoc p y 4, Int.mul_comm y 4, Int.mul_comm p]
    · refine execs_consR (ExprR (MethodCallR ?_))
      k_steps
      dsimp only
      k_dflt (refine' callWithR ?k1 ?k2 ?_; (case k1 => k_asm); (case k2 => k_is); k_whole)
      k_steps
      have hN1 : Z1' < 50300 := by unfold runL at q4; omega
      have hc3 : c < 4 := by omega
      refine' use2R (bits_call' q3 (by omega) q1 hc3 (by decide) (by decide) hne) ?v1 ?v2 ?v3 ?v4 ?vu ?v6 ?vK ?vr ?vd ?vv ?_
      case v1 => k_asm
      case v2 => k_asm
      case v3 => k_asm
      case v4 => k_asm
      case vu => exact UpdF2.head1 hne (by k_all) (by k_updF)
      case v6 => k_asm
      case vK => rfl
      case vr => exact List.forall_mem_cons.mpr ⟨⟨Fr.keep (by k_asm) _ _ r1, gneN' r1 (by k_asm) (by k_mem), gneN' r1 (by k_asm) (by k_mem)⟩, fun _ h => nomatch h⟩
      case vd => ktr_room
      case vv => ktr_units
      refine rW ?_; intro r9 arr2 held2 hb2 t3 t4 W2 h9 tk9 _ F9 N9
      dsimp only [List.nil_append] at N9
      dsimp only
      refine plainEnd ?_
      k_steps
      exact fin (Q := okR Q) (muts' := [(dx, wDict w b k1 k2 k3 held2 hb2 t3 t4), (b, baOf arr2)]) (ex := []) hret keep (by assumption) (by assumption) (by assumption) (by assumption) (fun _ h => h) (fun _ h => nomatch h) (fun _ h => nomatch h) ⟨_, _, rfl, rfl, arr2, held2, hb2, t3, t4, rfl, rfl, by rw [← q5, ← q4, runV_small q1 (by omega)]; have e : runL c = 2 := (by unfold runL; omega); rw [e]; exact W2⟩

theorem fresh_Cwup : True := by
  k_with_none
  w_top off
  trivial
noncomputable def upC (m : Int) : Int := ((Builtin.Int.intBits m : Nat) : Int)
noncomputable def upS (m : Int) : Int := 2 ^ (upC m).toNat - 1 - m
noncomputable def upV' (m v : Int) : Int := if v < upS m then v else if v < 2 ^ (upC m - 1).toNat then v else v + upS m
noncomputable def upL (m v : Int) : Int := if v < upS m then upC m - 1 else upC m
theorem upC_facts {m : Int} (h0 : 2 ≤ m) (h1 : m ≤ 65) : 2 ≤ upC m ∧ upC m ≤ 7 ∧ (2 : Int) ^ (upC m - 1).toNat ≤ m ∧ m < 2 * 2 ^ (upC m - 1).toNat ∧ (2 : Int) ^ (upC m).toNat = 2 * 2 ^ (upC m - 1).toNat ∧ 2 ≤ (2 : Int) ^ (upC m - 1).toNat := by
  have key : ∀ n : Nat, n ∈ List.range 66 → 2 ≤ n → 2 ≤ upC n ∧ upC n ≤ 7 ∧ (2 : Int) ^ (upC n - 1).toNat ≤ n ∧ (n : Int) < 2 * 2 ^ (upC n - 1).toNat ∧ (2 : Int) ^ (upC n).toNat = 2 * 2 ^ (upC n - 1).toNat ∧ 2 ≤ (2 : Int) ^ (upC n - 1).toNat := by decide +kernel
  obtain ⟨n, rfl⟩ := Int.eq_ofNat_of_zero_le (show 0 ≤ m by omega)
  exact key n (List.mem_range.mpr (by omega)) (by omega)
theorem upto_call {w : World} {x dx b : Addr} {k1 k2 k3 : Tok} {arr : Array UInt8} {held hb v most V Z : Int} {t1 t2 tv tm : Tok} (W : WSt arr held hb V Z) (hZ : Z < 50000) (hv0 : 0 ≤ v) (hv1 : v ≤ most) (hm0 : 2 ≤ most) (hm1 : most ≤ 65) (hne : @Ne Nat dx b) :
    CallR w 372 [.ref x, .int v tv, .int most tm] 4 60 [(x, instObj 165 dx)] [(dx, wDict w b k1 k2 k3 held hb t1 t2), (b, baOf arr)] (P2 dx b fun r o' u' ex => ex = [] ∧ ∃ arr' held' hb' t1' t2', o' = wDict w b k1 k2 k3 held' hb' t1' t2' ∧ u' = baOf arr' ∧ WSt arr' held' hb' (V + upV' most v * 2 ^ Z.toNat) (Z + upL most v)) := by
  k_with_none
  k_with "getMethod ref" => ((k_here; (with_reducible show wpAny _ _ (getMethod (Value.ref _) (PySem.Str.ofString "append") _) _ _ _); k_dflt (refine' ba_getMethod ?q1 ?q2 ?q3 ?_; (case q1 => exact News.get (by k_asm) (by k_mem)); (case q2 => exact rfl); (case q3 => exact rfl); k_whole)))
  k_with "call ref" => ((k_here; (with_reducible show wpAny _ _ (call (Value.ref 85) _) _ _ _); k_dflt (refine' use0 (needc_call ?q1 ?q2) ?k1 ?k2 ?k3 ?k4 ?k6 ?kK ?kr ?kd ?ku ?_; (case k1 => k_asm); (case k2 => k_asm); (case k3 => k_asm); (case k4 => k_asm); (case k6 => k_asm); (case kK => first | exact rfl | assumption); (case kr => tb_rel); (case q1 => first | assumption | omega); (case q2 => first | assumption | omega); (case kd => ktr_room); (case ku => ktr_units); k_whole; refine rB ?_; intro  h9 tk9 _ F9 N9; (dsimp only [List.nil_append] at N9); (try k_sweep))))
  k_with "call ref" => ((k_here; (with_reducible show wpAny _ _ (call (Value.ref 254) _) _ _ _); k_dflt (refine' use0 (places_call ?q1 ?q2) ?k1 ?k2 ?k3 ?k4 ?k6 ?kK ?kr ?kd ?ku ?_; (case k1 => k_asm); (case k2 => k_asm); (case k3 => k_asm); (case k4 => k_asm); (case k6 => k_asm); (case kK => first | exact rfl | assumption); (case kr => tb_rel); (case q1 => first | assumption | omega); (case q2 => first | assumption | omega); (case kd => ktr_room); (case ku => ktr_units); k_whole; refine rA ?_; intro t9 h9 tk9 _ F9 N9; (dsimp only [List.nil_append] at N9); (try k_sweep))))
  k_with "call ref" => ((k_here; (with_reducible show wpAny _ _ (call (Value.ref 92) _) _ _ _); k_dflt (refine' use0 (needv_call ?q1 ?q2 ?q3 ?q4) ?k1 ?k2 ?k3 ?k4 ?k6 ?kK ?kr ?kd ?ku ?_; (case k1 => k_asm); (case k2 => k_asm); (case k3 => k_asm); (case k4 => k_asm); (case k6 => k_asm); (case kK => first | exact rfl | assumption); (case kr => tb_rel); (case q1 => first | assumption | omega); (case q2 => first | assumption | omega); (case q3 => first | assumption | omega); (case q4 => first | assumption | omega); (case kd => ktr_room); (case ku => ktr_units); k_whole; refine rB ?_; intro  h9 tk9 _ F9 N9; (dsimp only [List.nil_append] at N9); (try k_sweep))))
  unfold CallR
  k_fill
  intro dp un gd cn sc a ccd cl outer A₀ base h₀ L m
  refine ps5 ?_
  intro sH0 sG0 sD0 sT0 sO0 loose mean mg mb Q B F X N T hk hrd hd1 hu hret
  (try dsimp only at F)
  (try dsimp only at N)
  (try dsimp only at hrd)
  (try dsimp only at hret)
  k_dflt (refine' enterRR ?k1 ?k2 ?k3 ?k4 ?k5 ?kA ?kF ?kK ?k6 ?k7 ?k8 ?k9 ?kB ?_ ?c2 ?c3 ?c4 ?c5; (case kA => exact rfl); (case kF => exact rfl); (case kK => assumption); (case k1 => k_asm); (case k2 => k_asm); (case k3 => k_asm); (case k4 => k_asm); (case k5 => k_asm); (case k6 => k_is); (case k7 => k_is); (case k8 => ktr_room); (case k9 => first | exact BindsTo.of_eq rfl | exact binds_K (by k_in) rfl (by k_is) rfl rfl rfl); (case c5 => decide); (case kB => exact locs rfl); (case c2 => exact rfl); (case c3 => exact rfl); (case c4 => exact rfl); k_whole)
  intro g L1 h1 FG F1 N1 B1 X1 T1 keep hlt
  (try dsimp only)
  (try ((try change wpAny _ _ _ _ _ _); k_fold))
  have R : ∀ z ∈ [(x, instObj 165 dx)], g.get? z.1 = some z.2 := fun x hx => keep _ _ (hrd x hx).2 (hrd x hx).1
  have r1 := R _ (.head _)
  try dsimp only at r1
  clear R
  clear hrd hlt
  obtain ⟨c0, c1, c2, c3, c4, c5⟩ := upC_facts hm0 hm1
  have eC : ((Builtin.Int.intBits most : Nat) : Int) = upC most := rfl
  have eV : upV' most v = if v < 2 ^ (upC most).toNat - 1 - most then v else if v < 2 ^ (upC most - 1).toNat then v else v + (2 ^ (upC most).toNat - 1 - most) := rfl
  have eL : upL most v = if v < 2 ^ (upC most).toNat - 1 - most then upC most - 1 else upC most := rfl
  rw [eV, eL] at hret
  refine plainR ?_
  k_steps
  dsimp only
  rename Fr _ _ _ _ => lF'
  rw [eC] at lF'
  generalize upC most = c at *
  clear eC eV eL
  refine plainR ?_
  k_steps
  dsimp only
  have hc9 : (2 : Int) ^ c.toNat ≤ 130 := by omega
  refine execs_consR (IfR (wpR_of ?_))
  k_steps
  rename_i hlt9
  · refine execs_consR (ExprR (MethodCallR ?_)); k_steps; dsimp only; k_dflt (refine' callWithR ?k1 ?k2 ?_; (case k1 => k_asm); (case k2 => k_is); k_whole); k_steps
    refine' use2R (bits_call' W (by omega) hv0 (by omega) (by omega) (by omega) hne) ?v1 ?v2 ?v3 ?v4 ?vu ?v6 ?vK ?vr ?vd ?vv ?_; (case v1 => k_asm); (case v2 => k_asm); (case v3 => k_asm); (case v4 => k_asm); (case vu => exact UpdF2.head1 hne (by k_all) (by k_updF)); (case v6 => k_asm); (case vK => rfl); (case vr => exact List.forall_mem_cons.mpr ⟨⟨Fr.keep (by k_asm) _ _ r1, gneN' r1 (by k_asm) (by k_mem), gneN' r1 (by k_asm) (by k_mem)⟩, fun _ h => nomatch h⟩); (case vd => ktr_room); (case vv => ktr_units)
    refine rW ?_; intro r9 arr2 held2 hb2 t3 t4 W2 h9 tk9 _ F9 N9
    dsimp only [List.nil_append] at N9
    dsimp only
    refine plainEnd ?_
    k_steps
    refine plainEnd ?_
    k_steps
    exact fin (Q := okR Q) (muts' := [(dx, wDict w b k1 k2 k3 held2 hb2 t3 t4), (b, baOf arr2)]) (ex := []) hret keep (by assumption) (by assumption) (by assumption) (by assumption) (fun _ h => h) (fun _ h => nomatch h) (fun _ h => nomatch h) ⟨_, _, rfl, rfl, arr2, held2, hb2, t3, t4, rfl, rfl, by rw [if_pos (by omega), if_pos (by omega)]; exact W2⟩
  refine execs_consR (ExprR (MethodCallR ?_)); k_steps; dsimp only; k_dflt (refine' callWithR ?k1 ?k2 ?_; (case k1 => k_asm); (case k2 => k_is); k_whole); k_steps
  · refine' use2R (bits_call' W (by omega) hv0 (by omega) (by omega) (by omega) hne) ?v1 ?v2 ?v3 ?v4 ?vu ?v6 ?vK ?vr ?vd ?vv ?_; (case v1 => k_asm); (case v2 => k_asm); (case v3 => k_asm); (case v4 => k_asm); (case vu => exact UpdF2.head1 hne (by k_all) (by k_updF)); (case v6 => k_asm); (case vK => rfl); (case vr => exact List.forall_mem_cons.mpr ⟨⟨Fr.keep (by k_asm) _ _ r1, gneN' r1 (by k_asm) (by k_mem), gneN' r1 (by k_asm) (by k_mem)⟩, fun _ h => nomatch h⟩); (case vd => ktr_room); (case vv => ktr_units)
    refine rW ?_; intro r9 arr2 held2 hb2 t3 t4 W2 h9 tk9 _ F9 N9
    dsimp only [List.nil_append] at N9
    dsimp only
    refine plainEnd ?_
    k_steps
    refine plainEnd ?_
    k_steps
    exact fin (Q := okR Q) (muts' := [(dx, wDict w b k1 k2 k3 held2 hb2 t3 t4), (b, baOf arr2)]) (ex := []) hret keep (by assumption) (by assumption) (by assumption) (by assumption) (fun _ h => h) (fun _ h => nomatch h) (fun _ h => nomatch h) ⟨_, _, rfl, rfl, arr2, held2, hb2, t3, t4, rfl, rfl, by rw [if_neg (by omega), if_pos (by omega), if_neg (by omega)]; exact W2⟩
  · refine' use2R (bits_call' W (by omega) (by omega) (by omega) (by omega) (by omega) hne) ?v1 ?v2 ?v3 ?v4 ?vu ?v6 ?vK ?vr ?vd ?vv ?_; (case v1 => k_asm); (case v2 => k_asm); (case v3 => k_asm); (case v4 => k_asm); (case vu => exact UpdF2.head1 hne (by k_all) (by k_updF)); (case v6 => k_asm); (case vK => rfl); (case vr => exact List.forall_mem_cons.mpr ⟨⟨Fr.keep (by k_asm) _ _ r1, gneN' r1 (by k_asm) (by k_mem), gneN' r1 (by k_asm) (by k_mem)⟩, fun _ h => nomatch h⟩); (case vd => ktr_room); (case vv => ktr_units)
    refine rW ?_; intro r9 arr2 held2 hb2 t3 t4 W2 h9 tk9 _ F9 N9
    dsimp only [List.nil_append] at N9
    dsimp only
    refine plainEnd ?_
    k_steps
    refine plainEnd ?_
    k_steps
    exact fin (Q := okR Q) (muts' := [(dx, wDict w b k1 k2 k3 held2 hb2 t3 t4), (b, baOf arr2)]) (ex := []) hret keep (by assumption) (by assumption) (by assumption) (by assumption) (fun _ h => h) (fun _ h => nomatch h) (fun _ h => nomatch h) ⟨_, _, rfl, rfl, arr2, held2, hb2, t3, t4, rfl, rfl, by rw [if_neg (by omega), if_neg (by omega), if_neg (by omega), show (2 : Int) ^ c.toNat = 1 * 2 ^ c.toNat by omega]; exact W2⟩

theorem fresh_Coct : True := by
  k_with_none
  w_top off
  trivial
/-- the dict of an object of class Octets -/
noncomputable abbrev oDict (w : World) (arr : Array UInt8) (tb : Tok) (k1 k2 k3 : Tok) (pl : Int) (t1 t2 : Tok) : Obj := dictOf [⟨PyData.keyHash w.params (Str.ofString "data"), .str (Str.ofString "data") k1, .bytes arr tb⟩, ⟨PyData.keyHash w.params (Str.ofString "stop"), .str (Str.ofString "stop") k2, .int arr.size t1⟩, ⟨PyData.keyHash w.params (Str.ofString "place"), .str (Str.ofString "place") k3, .int pl t2⟩] 3
theorem initO_call {w : World} {x dx : Addr} {arr : Array UInt8} {t : Tok} (hz : arr.size < 10000) : Call w 184 [.ref x, .bytes arr t] 3 40 [(x, instObj 243 dx)] [(dx, dictOf [] 0)] (P1 dx fun r o' ex => r = .none ∧ ∃ tb k1 k2 k3 t1 t2, o' = oDict w arr tb k1 k2 k3 0 t1 t2 ∧ ex = []) := by
  k_with_none
  k_with "getMethod ref" => ((k_here; (with_reducible show wpAny _ _ (getMethod (Value.ref _) (PySem.Str.ofString "append") _) _ _ _); k_dflt (refine' ba_getMethod ?q1 ?q2 ?q3 ?_; (case q1 => exact News.get (by k_asm) (by k_mem)); (case q2 => exact rfl); (case q3 => exact rfl); k_whole)))
  k_with "call ref" => ((k_here; (with_reducible show wpAny _ _ (call (Value.ref 85) _) _ _ _); k_dflt (refine' use0 (needc_call ?q1 ?q2) ?k1 ?k2 ?k3 ?k4 ?k6 ?kK ?kr ?kd ?ku ?_; (case k1 => k_asm); (case k2 => k_asm); (case k3 => k_asm); (case k4 => k_asm); (case k6 => k_asm); (case kK => first | exact rfl | assumption); (case kr => tb_rel); (case q1 => first | assumption | omega); (case q2 => first | assumption | omega); (case kd => ktr_room); (case ku => ktr_units); k_whole; refine rB ?_; intro  h9 tk9 _ F9 N9; (dsimp only [List.nil_append] at N9); (try k_sweep))))
  k_with "call ref" => ((k_here; (with_reducible show wpAny _ _ (call (Value.ref 254) _) _ _ _); k_dflt (refine' use0 (places_call ?q1 ?q2) ?k1 ?k2 ?k3 ?k4 ?k6 ?kK ?kr ?kd ?ku ?_; (case k1 => k_asm); (case k2 => k_asm); (case k3 => k_asm); (case k4 => k_asm); (case k6 => k_asm); (case kK => first | exact rfl | assumption); (case kr => tb_rel); (case q1 => first | assumption | omega); (case q2 => first | assumption | omega); (case kd => ktr_room); (case ku => ktr_units); k_whole; refine rA ?_; intro t9 h9 tk9 _ F9 N9; (dsimp only [List.nil_append] at N9); (try k_sweep))))
  k_with "call ref" => ((k_here; (with_reducible show wpAny _ _ (call (Value.ref 92) _) _ _ _); k_dflt (refine' use0 (needv_call ?q1 ?q2 ?q3 ?q4) ?k1 ?k2 ?k3 ?k4 ?k6 ?kK ?kr ?kd ?ku ?_; (case k1 => k_asm); (case k2 => k_asm); (case k3 => k_asm); (case k4 => k_asm); (case k6 => k_asm); (case kK => first | exact rfl | assumption); (case kr => tb_rel); (case q1 => first | assumption | omega); (case q2 => first | assumption | omega); (case q3 => first | assumption | omega); (case q4 => first | assumption | omega); (case kd => ktr_room); (case ku => ktr_units); k_whole; refine rB ?_; intro  h9 tk9 _ F9 N9; (dsimp only [List.nil_append] at N9); (try k_sweep))))
  unfold Call
  k_fill
  intro dp un gd cn sc a ccd cl outer A₀ base h₀ L m
  refine ps5 ?_
  intro sH0 sG0 sD0 sT0 sO0 loose mean mg mb Q B F X N T hk hrd hd1 hu hret
  (try dsimp only at F)
  (try dsimp only at N)
  (try dsimp only at hrd)
  (try dsimp only at hret)
  k_dflt (refine' enterR ?k1 ?k2 ?k3 ?k4 ?k5 ?kA ?kF ?kK ?k6 ?k7 ?k8 ?k9 ?kB ?_ ?c2 ?c3 ?c4 ?c5; (case kA => exact rfl); (case kF => exact rfl); (case kK => assumption); (case k1 => k_asm); (case k2 => k_asm); (case k3 => k_asm); (case k4 => k_asm); (case k5 => k_asm); (case k6 => k_is); (case k7 => k_is); (case k8 => ktr_room); (case k9 => first | exact BindsTo.of_eq rfl | exact binds_K (by k_in) rfl (by k_is) rfl rfl rfl); (case c5 => decide); (case kB => exact locs rfl); (case c2 => exact rfl); (case c3 => exact rfl); (case c4 => exact rfl); k_whole)
  intro g L1 h1 FG F1 N1 B1 X1 T1 keep hlt
  (try dsimp only)
  (try ((try change wpAny _ _ _ _ _ _); k_fold))
  have R : ∀ z ∈ [(x, instObj 243 dx)], g.get? z.1 = some z.2 := fun x hx => keep _ _ (hrd x hx).2 (hrd x hx).1
  have r1 := R _ (.head _)
  try dsimp only at r1
  clear R
  clear hrd hlt
  k_steps
  refine bytes_same ?_
  k_steps
  refine' use0 (end_call (Int.le_refl _) (Int.natCast_nonneg _) (by omega)) ?i1 ?i2 ?i3 ?i4 ?i6 ?iK ?ir ?id ?iv ?_
  case i1 => k_asm
  case i2 => k_asm
  case i3 => k_asm
  case i4 => k_asm
  case i6 => k_asm
  case iK => rfl
  case ir => exact fun _ h => nomatch h
  case id => ktr_room
  case iv => ktr_units
  refine rA ?_; intro t9 h9 tk9 _ F9 N9
  dsimp only [List.nil_append] at N9
  k_steps
  exact fin (muts' := [(dx, _)]) (ex := []) hret keep (by assumption) (by assumption) (by assumption) (by assumption) (fun _ h => h) (fun _ h => nomatch h) (fun _ h => nomatch h) ⟨_, rfl, rfl, _, _, _, _, _, _, rfl, rfl⟩
theorem left_call {w : World} {x dx : Addr} {arr : Array UInt8} {tb k1 k2 k3 t1 t2 : Tok} {pl : Int} (hp0 : 0 ≤ pl) (hp1 : pl ≤ arr.size) (hz : arr.size < 10000) :
    Call w 191 [.ref x] 1 8 [(x, instObj 243 dx), (dx, oDict w arr tb k1 k2 k3 pl t1 t2)] [] (P0 fun r ex => ex = [] ∧ ∃ t, r = .int (arr.size - pl) t) := by
  k_with_none
  k_with "getMethod ref" => ((k_here; (with_reducible show wpAny _ _ (getMethod (Value.ref _) (PySem.Str.ofString "append") _) _ _ _); k_dflt (refine' ba_getMethod ?q1 ?q2 ?q3 ?_; (case q1 => exact News.get (by k_asm) (by k_mem)); (case q2 => exact rfl); (case q3 => exact rfl); k_whole)))
  k_with "call ref" => ((k_here; (with_reducible show wpAny _ _ (call (Value.ref 85) _) _ _ _); k_dflt (refine' use0 (needc_call ?q1 ?q2) ?k1 ?k2 ?k3 ?k4 ?k6 ?kK ?kr ?kd ?ku ?_; (case k1 => k_asm); (case k2 => k_asm); (case k3 => k_asm); (case k4 => k_asm); (case k6 => k_asm); (case kK => first | exact rfl | assumption); (case kr => tb_rel); (case q1 => first | assumption | omega); (case q2 => first | assumption | omega); (case kd => ktr_room); (case ku => ktr_units); k_whole; refine rB ?_; intro  h9 tk9 _ F9 N9; (dsimp only [List.nil_append] at N9); (try k_sweep))))
  k_with "call ref" => ((k_here; (with_reducible show wpAny _ _ (call (Value.ref 254) _) _ _ _); k_dflt (refine' use0 (places_call ?q1 ?q2) ?k1 ?k2 ?k3 ?k4 ?k6 ?kK ?kr ?kd ?ku ?_; (case k1 => k_asm); (case k2 => k_asm); (case k3 => k_asm); (case k4 => k_asm); (case k6 => k_asm); (case kK => first | exact rfl | assumption); (case kr => tb_rel); (case q1 => first | assumption | omega); (case q2 => first | assumption | omega); (case kd => ktr_room); (case ku => ktr_units); k_whole; refine rA ?_; intro t9 h9 tk9 _ F9 N9; (dsimp only [List.nil_append] at N9); (try k_sweep))))
  k_with "call ref" => ((k_here; (with_reducible show wpAny _ _ (call (Value.ref 92) _) _ _ _); k_dflt (refine' use0 (needv_call ?q1 ?q2 ?q3 ?q4) ?k1 ?k2 ?k3 ?k4 ?k6 ?kK ?kr ?kd ?ku ?_; (case k1 => k_asm); (case k2 => k_asm); (case k3 => k_asm); (case k4 => k_asm); (case k6 => k_asm); (case kK => first | exact rfl | assumption); (case kr => tb_rel); (case q1 => first | assumption | omega); (case q2 => first | assumption | omega); (case q3 => first | assumption | omega); (case q4 => first | assumption | omega); (case kd => ktr_room); (case ku => ktr_units); k_whole; refine rB ?_; intro  h9 tk9 _ F9 N9; (dsimp only [List.nil_append] at N9); (try k_sweep))))
  unfold Call
  k_fill
  intro dp un gd cn sc a ccd cl outer A₀ base h₀ L m
  refine ps5 ?_
  intro sH0 sG0 sD0 sT0 sO0 loose mean mg mb Q B F X N T hk hrd hd1 hu hret
  (try dsimp only at F)
  (try dsimp only at N)
  (try dsimp only at hrd)
  (try dsimp only at hret)
  k_dflt (refine' enterR ?k1 ?k2 ?k3 ?k4 ?k5 ?kA ?kF ?kK ?k6 ?k7 ?k8 ?k9 ?kB ?_ ?c2 ?c3 ?c4 ?c5; (case kA => exact rfl); (case kF => exact rfl); (case kK => assumption); (case k1 => k_asm); (case k2 => k_asm); (case k3 => k_asm); (case k4 => k_asm); (case k5 => k_asm); (case k6 => k_is); (case k7 => k_is); (case k8 => ktr_room); (case k9 => first | exact BindsTo.of_eq rfl | exact binds_K (by k_in) rfl (by k_is) rfl rfl rfl); (case c5 => decide); (case kB => exact locs rfl); (case c2 => exact rfl); (case c3 => exact rfl); (case c4 => exact rfl); k_whole)
  intro g L1 h1 FG F1 N1 B1 X1 T1 keep hlt
  (try dsimp only)
  (try ((try change wpAny _ _ _ _ _ _); k_fold))
  have R : ∀ z ∈ [(x, instObj 243 dx), (dx, oDict w arr tb k1 k2 k3 pl t1 t2)], g.get? z.1 = some z.2 := fun x hx => keep _ _ (hrd x hx).2 (hrd x hx).1
  simp only [List.forall_mem_cons, oDict] at R
  obtain ⟨r1, r2, -⟩ := R
  have I1 : InstAt g x (instObj 243 dx) 243 (some (oDict w arr tb k1 k2 k3 pl t1 t2)) := ⟨r1, rfl, rfl, r2⟩
  dsimp only [oDict] at I1
  clear hrd hlt
  k_steps
  exact fin (muts' := []) (ex := []) hret keep (by assumption) (by assumption) (by assumption) (by assumption) (fun _ h => nomatch h) (fun _ h => nomatch h) (fun _ h => nomatch h) ⟨rfl, rfl, _, rfl⟩
/-- the number that ints spell, the first the lowest -/
noncomputable def leZ : List Int → Int
  | [] => 0
  | b :: r => b + 256 * leZ r
theorem leI_leZ (arr : Array UInt8) : leI arr.toList = leZ (KBw.bInts arr) := by
  unfold KBw.bInts
  generalize arr.toList = l
  induction l with
  | nil => rfl
  | cons b r ih => simp only [List.map_cons, leZ, leI, ih]
theorem slice_one {ks : List Int} {pl : Int} (h0 : 0 ≤ pl) (h1 : pl < ks.length) : (ks.drop (clipAt ks.length (pl + 1 - 1))).take (clipAt ks.length (pl + 1) - clipAt ks.length (pl + 1 - 1)) = [ks.getD pl.toNat 0] := by
  rw [clipAt_in (by omega) (by omega), clipAt_in (by omega) (by omega), show (pl + 1 - 1).toNat = pl.toNat by omega, show (pl + 1).toNat - pl.toNat = 1 by omega]
  have h2 : pl.toNat < ks.length := by omega
  rw [List.drop_eq_getElem_cons h2, List.take_succ_cons, List.take_zero]
  simp [List.getD, h2]
theorem gneO {g h : Heap} {L a b : Addr} {o o' : Obj} {news : List (Addr × Obj)} (r : g.get? a = some o) (N : News g L h news) (hm : (b, o') ∈ news) : a ≠ b := fun q => by
  have := (N _ hm).2.2
  rw [q] at r
  rw [show g.get? b = none from this] at r
  cases r
theorem takeO_call {w : World} {x dx : Addr} {arr : Array UInt8} {ks : List Int} {tb k1 k2 k3 t1 t2 t : Tok} {pl : Int} (hk9 : KBw.bInts arr = ks) (hp0 : 0 ≤ pl) (hp1 : pl < ks.length) (hz : ks.length < 10000) :
    Call w 205 [.ref x, .int 1 t] 2 20 [(x, instObj 243 dx)] [(dx, oDict w arr tb k1 k2 k3 pl t1 t2)] (P1 dx fun r o' ex => ex = [] ∧ ∃ t2' b t3, o' = oDict w arr tb k1 k2 k3 (pl + 1) t1 t2' ∧ r = .bytes b t3 ∧ KBw.bInts b = [ks.getD pl.toNat 0]) := by
  k_with_none
  k_with "getMethod ref" => ((k_here; (with_reducible show wpAny _ _ (getMethod (Value.ref _) (PySem.Str.ofString "append") _) _ _ _); k_dflt (refine' ba_getMethod ?q1 ?q2 ?q3 ?_; (case q1 => exact News.get (by k_asm) (by k_mem)); (case q2 => exact rfl); (case q3 => exact rfl); k_whole)))
  k_with "call ref" => ((k_here; (with_reducible show wpAny _ _ (call (Value.ref 85) _) _ _ _); k_dflt (refine' use0 (needc_call ?q1 ?q2) ?k1 ?k2 ?k3 ?k4 ?k6 ?kK ?kr ?kd ?ku ?_; (case k1 => k_asm); (case k2 => k_asm); (case k3 => k_asm); (case k4 => k_asm); (case k6 => k_asm); (case kK => first | exact rfl | assumption); (case kr => tb_rel); (case q1 => first | assumption | omega); (case q2 => first | assumption | omega); (case kd => ktr_room); (case ku => ktr_units); k_whole; refine rB ?_; intro  h9 tk9 _ F9 N9; (dsimp only [List.nil_append] at N9); (try k_sweep))))
  k_with "call ref" => ((k_here; (with_reducible show wpAny _ _ (call (Value.ref 254) _) _ _ _); k_dflt (refine' use0 (places_call ?q1 ?q2) ?k1 ?k2 ?k3 ?k4 ?k6 ?kK ?kr ?kd ?ku ?_; (case k1 => k_asm); (case k2 => k_asm); (case k3 => k_asm); (case k4 => k_asm); (case k6 => k_asm); (case kK => first | exact rfl | assumption); (case kr => tb_rel); (case q1 => first | assumption | omega); (case q2 => first | assumption | omega); (case kd => ktr_room); (case ku => ktr_units); k_whole; refine rA ?_; intro t9 h9 tk9 _ F9 N9; (dsimp only [List.nil_append] at N9); (try k_sweep))))
  k_with "call ref" => ((k_here; (with_reducible show wpAny _ _ (call (Value.ref 92) _) _ _ _); k_dflt (refine' use0 (needv_call ?q1 ?q2 ?q3 ?q4) ?k1 ?k2 ?k3 ?k4 ?k6 ?kK ?kr ?kd ?ku ?_; (case k1 => k_asm); (case k2 => k_asm); (case k3 => k_asm); (case k4 => k_asm); (case k6 => k_asm); (case kK => first | exact rfl | assumption); (case kr => tb_rel); (case q1 => first | assumption | omega); (case q2 => first | assumption | omega); (case q3 => first | assumption | omega); (case q4 => first | assumption | omega); (case kd => ktr_room); (case ku => ktr_units); k_whole; refine rB ?_; intro  h9 tk9 _ F9 N9; (dsimp only [List.nil_append] at N9); (try k_sweep))))
  k_with "call ref" => ((k_here; (with_reducible show wpAny _ _ (call (Value.ref 191) _) _ _ _); k_dflt (refine' use0 (left_call ?q1 ?q2 ?q3) ?k1 ?k2 ?k3 ?k4 ?k6 ?kK ?kr ?kd ?ku ?_; (case k1 => k_asm); (case k2 => k_asm); (case k3 => k_asm); (case k4 => k_asm); (case k6 => k_asm); (case kK => first | exact rfl | assumption); (case kr => tb_rel); (case q1 => omega); (case q2 => omega); (case q3 => omega); (case kd => ktr_room); (case ku => ktr_units); k_whole; refine rA ?_; intro t9 h9 tk9 _ F9 N9; (dsimp only [List.nil_append] at N9); (try k_sweep))))
  have hsz9 : ks.length = arr.size := by rw [← hk9, KBw.ints_length]
  k_with_none
  k_with "getMethod ref" => ((k_here; (with_reducible show wpAny _ _ (getMethod (Value.ref _) (PySem.Str.ofString "append") _) _ _ _); k_dflt (refine' ba_getMethod ?q1 ?q2 ?q3 ?_; (case q1 => exact News.get (by k_asm) (by k_mem)); (case q2 => exact rfl); (case q3 => exact rfl); k_whole)))
  k_with "call ref" => ((k_here; (with_reducible show wpAny _ _ (call (Value.ref 85) _) _ _ _); k_dflt (refine' use0 (needc_call ?q1 ?q2) ?k1 ?k2 ?k3 ?k4 ?k6 ?kK ?kr ?kd ?ku ?_; (case k1 => k_asm); (case k2 => k_asm); (case k3 => k_asm); (case k4 => k_asm); (case k6 => k_asm); (case kK => first | exact rfl | assumption); (case kr => tb_rel); (case q1 => first | assumption | omega); (case q2 => first | assumption | omega); (case kd => ktr_room); (case ku => ktr_units); k_whole; refine rB ?_; intro  h9 tk9 _ F9 N9; (dsimp only [List.nil_append] at N9); (try k_sweep))))
  k_with "call ref" => ((k_here; (with_reducible show wpAny _ _ (call (Value.ref 254) _) _ _ _); k_dflt (refine' use0 (places_call ?q1 ?q2) ?k1 ?k2 ?k3 ?k4 ?k6 ?kK ?kr ?kd ?ku ?_; (case k1 => k_asm); (case k2 => k_asm); (case k3 => k_asm); (case k4 => k_asm); (case k6 => k_asm); (case kK => first | exact rfl | assumption); (case kr => tb_rel); (case q1 => first | assumption | omega); (case q2 => first | assumption | omega); (case kd => ktr_room); (case ku => ktr_units); k_whole; refine rA ?_; intro t9 h9 tk9 _ F9 N9; (dsimp only [List.nil_append] at N9); (try k_sweep))))
  k_with "call ref" => ((k_here; (with_reducible show wpAny _ _ (call (Value.ref 92) _) _ _ _); k_dflt (refine' use0 (needv_call ?q1 ?q2 ?q3 ?q4) ?k1 ?k2 ?k3 ?k4 ?k6 ?kK ?kr ?kd ?ku ?_; (case k1 => k_asm); (case k2 => k_asm); (case k3 => k_asm); (case k4 => k_asm); (case k6 => k_asm); (case kK => first | exact rfl | assumption); (case kr => tb_rel); (case q1 => first | assumption | omega); (case q2 => first | assumption | omega); (case q3 => first | assumption | omega); (case q4 => first | assumption | omega); (case kd => ktr_room); (case ku => ktr_units); k_whole; refine rB ?_; intro  h9 tk9 _ F9 N9; (dsimp only [List.nil_append] at N9); (try k_sweep))))
  k_with "call ref" => ((k_here; (with_reducible show wpAny _ _ (call (Value.ref 191) _) _ _ _); k_dflt (refine' use0 (left_call ?q1 ?q2 ?q3) ?k1 ?k2 ?k3 ?k4 ?k6 ?kK ?kr ?kd ?ku ?_; (case k1 => k_asm); (case k2 => k_asm); (case k3 => k_asm); (case k4 => k_asm); (case k6 => k_asm); (case kK => first | exact rfl | assumption); (case kr => tb_rel); (case q1 => omega); (case q2 => omega); (case q3 => omega); (case kd => ktr_room); (case ku => ktr_units); k_whole; refine rA ?_; intro t9 h9 tk9 _ F9 N9; (dsimp only [List.nil_append] at N9); (try k_sweep))))
  unfold Call
  k_fill
  intro dp un gd cn sc a ccd cl outer A₀ base h₀ L m
  refine ps5 ?_
  intro sH0 sG0 sD0 sT0 sO0 loose mean mg mb Q B F X N T hk hrd hd1 hu hret
  (try dsimp only at F)
  (try dsimp only at N)
  (try dsimp only at hrd)
  (try dsimp only at hret)
  k_dflt (refine' enterR ?k1 ?k2 ?k3 ?k4 ?k5 ?kA ?kF ?kK ?k6 ?k7 ?k8 ?k9 ?kB ?_ ?c2 ?c3 ?c4 ?c5; (case kA => exact rfl); (case kF => exact rfl); (case kK => assumption); (case k1 => k_asm); (case k2 => k_asm); (case k3 => k_asm); (case k4 => k_asm); (case k5 => k_asm); (case k6 => k_is); (case k7 => k_is); (case k8 => ktr_room); (case k9 => first | exact BindsTo.of_eq rfl | exact binds_K (by k_in) rfl (by k_is) rfl rfl rfl); (case c5 => decide); (case kB => exact locs rfl); (case c2 => exact rfl); (case c3 => exact rfl); (case c4 => exact rfl); k_whole)
  intro g L1 h1 FG F1 N1 B1 X1 T1 keep hlt
  (try dsimp only)
  (try ((try change wpAny _ _ _ _ _ _); k_fold))
  have R : ∀ z ∈ [(x, instObj 243 dx)], g.get? z.1 = some z.2 := fun x hx => keep _ _ (hrd x hx).2 (hrd x hx).1
  have r1 := R _ (.head _)
  try dsimp only at r1
  clear R
  dsimp only [oDict] at N1
  clear hrd hlt
  k_steps
  rename KBw.bInts (KBy.picked _ _ _) = _ => hp9
  rw [slice_one hp0 hp1] at hp9
  exact fin (muts' := [(dx, _)]) (ex := []) hret keep (by assumption) (by assumption) (by assumption) (by assumption) (fun _ h => h) (fun _ h => nomatch h) (fun _ h => nomatch h) ⟨_, rfl, rfl, _, _, _, rfl, rfl, hp9⟩
theorem octet_call {w : World} {x dx : Addr} {arr : Array UInt8} {ks : List Int} {tb k1 k2 k3 t1 t2 : Tok} {pl : Int} (hk9 : KBw.bInts arr = ks) (hp0 : 0 ≤ pl) (hp1 : pl < ks.length) (hz : ks.length < 10000) :
    Call w 219 [.ref x] 4 40 [(x, instObj 243 dx)] [(dx, oDict w arr tb k1 k2 k3 pl t1 t2)] (P1 dx fun r o' ex => ex = [] ∧ ∃ t2' t3, o' = oDict w arr tb k1 k2 k3 (pl + 1) t1 t2' ∧ r = .int (ks.getD pl.toNat 0) t3) := by
  k_with_none
  k_with "getMethod ref" => ((k_here; (with_reducible show wpAny _ _ (getMethod (Value.ref _) (PySem.Str.ofString "append") _) _ _ _); k_dflt (refine' ba_getMethod ?q1 ?q2 ?q3 ?_; (case q1 => exact News.get (by k_asm) (by k_mem)); (case q2 => exact rfl); (case q3 => exact rfl); k_whole)))
  k_with "call ref" => ((k_here; (with_reducible show wpAny _ _ (call (Value.ref 85) _) _ _ _); k_dflt (refine' use0 (needc_call ?q1 ?q2) ?k1 ?k2 ?k3 ?k4 ?k6 ?kK ?kr ?kd ?ku ?_; (case k1 => k_asm); (case k2 => k_asm); (case k3 => k_asm); (case k4 => k_asm); (case k6 => k_asm); (case kK => first | exact rfl | assumption); (case kr => tb_rel); (case q1 => first | assumption | omega); (case q2 => first | assumption | omega); (case kd => ktr_room); (case ku => ktr_units); k_whole; refine rB ?_; intro  h9 tk9 _ F9 N9; (dsimp only [List.nil_append] at N9); (try k_sweep))))
  k_with "call ref" => ((k_here; (with_reducible show wpAny _ _ (call (Value.ref 254) _) _ _ _); k_dflt (refine' use0 (places_call ?q1 ?q2) ?k1 ?k2 ?k3 ?k4 ?k6 ?kK ?kr ?kd ?ku ?_; (case k1 => k_asm); (case k2 => k_asm); (case k3 => k_asm); (case k4 => k_asm); (case k6 => k_asm); (case kK => first | exact rfl | assumption); (case kr => tb_rel); (case q1 => first | assumption | omega); (case q2 => first | assumption | omega); (case kd => ktr_room); (case ku => ktr_units); k_whole; refine rA ?_; intro t9 h9 tk9 _ F9 N9; (dsimp only [List.nil_append] at N9); (try k_sweep))))
  k_with "call ref" => ((k_here; (with_reducible show wpAny _ _ (call (Value.ref 92) _) _ _ _); k_dflt (refine' use0 (needv_call ?q1 ?q2 ?q3 ?q4) ?k1 ?k2 ?k3 ?k4 ?k6 ?kK ?kr ?kd ?ku ?_; (case k1 => k_asm); (case k2 => k_asm); (case k3 => k_asm); (case k4 => k_asm); (case k6 => k_asm); (case kK => first | exact rfl | assumption); (case kr => tb_rel); (case q1 => first | assumption | omega); (case q2 => first | assumption | omega); (case q3 => first | assumption | omega); (case q4 => first | assumption | omega); (case kd => ktr_room); (case ku => ktr_units); k_whole; refine rB ?_; intro  h9 tk9 _ F9 N9; (dsimp only [List.nil_append] at N9); (try k_sweep))))
  k_with "call ref" => ((k_here; (with_reducible show wpAny _ _ (call (Value.ref 191) _) _ _ _); k_dflt (refine' use0 (left_call ?q1 ?q2 ?q3) ?k1 ?k2 ?k3 ?k4 ?k6 ?kK ?kr ?kd ?ku ?_; (case k1 => k_asm); (case k2 => k_asm); (case k3 => k_asm); (case k4 => k_asm); (case k6 => k_asm); (case kK => first | exact rfl | assumption); (case kr => tb_rel); (case q1 => omega); (case q2 => omega); (case q3 => omega); (case kd => ktr_room); (case ku => ktr_units); k_whole; refine rA ?_; intro t9 h9 tk9 _ F9 N9; (dsimp only [List.nil_append] at N9); (try k_sweep))))
  k_with "call ref" => ((k_here; (with_reducible show wpAny _ _ (call (Value.ref 205) _) _ _ _); k_dflt (refine' use1 (takeO_call (by with_reducible assumption) ?q1 ?q2 ?q3) ?k1 ?k2 ?k3 ?k4 ?k5 ?k6 ?kK ?kr ?kd ?ku ?_; (case k1 => k_asm); (case k2 => k_asm); (case k3 => k_asm); (case k4 => k_asm); (case k5 => k_updF); (case k6 => k_asm); (case kK => first | exact rfl | assumption); (case kr => exact List.forall_mem_cons.mpr ⟨⟨Fr.keep (by k_asm) _ _ (by assumption), gneO (by assumption) (by k_asm) (by k_mem)⟩, fun _ h => nomatch h⟩); (case q1 => omega); (case q2 => omega); (case q3 => omega); (case kd => ktr_room); (case ku => ktr_units); k_whole; refine rU ?_; intro t9 b9 u9 hb9 h9 tk9 _ F9 N9; (dsimp only [List.nil_append] at N9); (try k_sweep))))
  unfold Call
  k_fill
  intro dp un gd cn sc a ccd cl outer A₀ base h₀ L m
  refine ps5 ?_
  intro sH0 sG0 sD0 sT0 sO0 loose mean mg mb Q B F X N T hk hrd hd1 hu hret
  (try dsimp only at F)
  (try dsimp only at N)
  (try dsimp only at hrd)
  (try dsimp only at hret)
  k_dflt (refine' enterR ?k1 ?k2 ?k3 ?k4 ?k5 ?kA ?kF ?kK ?k6 ?k7 ?k8 ?k9 ?kB ?_ ?c2 ?c3 ?c4 ?c5; (case kA => exact rfl); (case kF => exact rfl); (case kK => assumption); (case k1 => k_asm); (case k2 => k_asm); (case k3 => k_asm); (case k4 => k_asm); (case k5 => k_asm); (case k6 => k_is); (case k7 => k_is); (case k8 => ktr_room); (case k9 => first | exact BindsTo.of_eq rfl | exact binds_K (by k_in) rfl (by k_is) rfl rfl rfl); (case c5 => decide); (case kB => exact locs rfl); (case c2 => exact rfl); (case c3 => exact rfl); (case c4 => exact rfl); k_whole)
  intro g L1 h1 FG F1 N1 B1 X1 T1 keep hlt
  (try dsimp only)
  (try ((try change wpAny _ _ _ _ _ _); k_fold))
  have R : ∀ z ∈ [(x, instObj 243 dx)], g.get? z.1 = some z.2 := fun x hx => keep _ _ (hrd x hx).2 (hrd x hx).1
  have r1 := R _ (.head _)
  try dsimp only at r1
  clear R
  clear hrd hlt
  k_steps
  rename KBw.bInts _ = [_] => hb9
  refine KBw.item_K hb9 (show 1 ≤ 1099511627776 by decide) (by decide) (show (0 : Int) < 1 by decide) fun t8 k8 _ _ => ?_
  k_steps
  exact fin (muts' := [(dx, _)]) (ex := []) hret keep (by assumption) (by assumption) (by assumption) (by assumption) (fun _ h => h) (fun _ h => nomatch h) (fun _ h => nomatch h) ⟨_, rfl, rfl, _, _, rfl, rfl⟩

theorem fresh_Crd : True := by
  k_with_none
  w_top off
  trivial
/-- the dict of an object of class CountBits -/
noncomputable abbrev cDict (w : World) (xo : Addr) (k1 k2 k3 : Tok) (stock hv : Int) (t1 t2 : Tok) : Obj := dictOf [⟨PyData.keyHash w.params (Str.ofString "cursor"), .str (Str.ofString "cursor") k1, .ref xo⟩, ⟨PyData.keyHash w.params (Str.ofString "stock"), .str (Str.ofString "stock") k2, .int stock t1⟩, ⟨PyData.keyHash w.params (Str.ofString "have"), .str (Str.ofString "have") k3, .int hv t2⟩] 3
theorem initC_call {w : World} {x dx xo : Addr} : Call w 332 [.ref x, .ref xo] 3 40 [(x, instObj 356 dx)] [(dx, dictOf [] 0)] (P1 dx fun r o' ex => r = .none ∧ ∃ k1 k2 k3 t1 t2, o' = cDict w xo k1 k2 k3 0 0 t1 t2 ∧ ex = []) := by
  k_with_none
  k_with "getMethod ref" => ((k_here; (with_reducible show wpAny _ _ (getMethod (Value.ref _) (PySem.Str.ofString "append") _) _ _ _); k_dflt (refine' ba_getMethod ?q1 ?q2 ?q3 ?_; (case q1 => exact News.get (by k_asm) (by k_mem)); (case q2 => exact rfl); (case q3 => exact rfl); k_whole)))
  k_with "call ref" => ((k_here; (with_reducible show wpAny _ _ (call (Value.ref 85) _) _ _ _); k_dflt (refine' use0 (needc_call ?q1 ?q2) ?k1 ?k2 ?k3 ?k4 ?k6 ?kK ?kr ?kd ?ku ?_; (case k1 => k_asm); (case k2 => k_asm); (case k3 => k_asm); (case k4 => k_asm); (case k6 => k_asm); (case kK => first | exact rfl | assumption); (case kr => tb_rel); (case q1 => first | assumption | omega); (case q2 => first | assumption | omega); (case kd => ktr_room); (case ku => ktr_units); k_whole; refine rB ?_; intro  h9 tk9 _ F9 N9; (dsimp only [List.nil_append] at N9); (try k_sweep))))
  k_with "call ref" => ((k_here; (with_reducible show wpAny _ _ (call (Value.ref 254) _) _ _ _); k_dflt (refine' use0 (places_call ?q1 ?q2) ?k1 ?k2 ?k3 ?k4 ?k6 ?kK ?kr ?kd ?ku ?_; (case k1 => k_asm); (case k2 => k_asm); (case k3 => k_asm); (case k4 => k_asm); (case k6 => k_asm); (case kK => first | exact rfl | assumption); (case kr => tb_rel); (case q1 => first | assumption | omega); (case q2 => first | assumption | omega); (case kd => ktr_room); (case ku => ktr_units); k_whole; refine rA ?_; intro t9 h9 tk9 _ F9 N9; (dsimp only [List.nil_append] at N9); (try k_sweep))))
  k_with "call ref" => ((k_here; (with_reducible show wpAny _ _ (call (Value.ref 92) _) _ _ _); k_dflt (refine' use0 (needv_call ?q1 ?q2 ?q3 ?q4) ?k1 ?k2 ?k3 ?k4 ?k6 ?kK ?kr ?kd ?ku ?_; (case k1 => k_asm); (case k2 => k_asm); (case k3 => k_asm); (case k4 => k_asm); (case k6 => k_asm); (case kK => first | exact rfl | assumption); (case kr => tb_rel); (case q1 => first | assumption | omega); (case q2 => first | assumption | omega); (case q3 => first | assumption | omega); (case q4 => first | assumption | omega); (case kd => ktr_room); (case ku => ktr_units); k_whole; refine rB ?_; intro  h9 tk9 _ F9 N9; (dsimp only [List.nil_append] at N9); (try k_sweep))))
  unfold Call
  k_fill
  intro dp un gd cn sc a ccd cl outer A₀ base h₀ L m
  refine ps5 ?_
  intro sH0 sG0 sD0 sT0 sO0 loose mean mg mb Q B F X N T hk hrd hd1 hu hret
  (try dsimp only at F)
  (try dsimp only at N)
  (try dsimp only at hrd)
  (try dsimp only at hret)
  k_dflt (refine' enterR ?k1 ?k2 ?k3 ?k4 ?k5 ?kA ?kF ?kK ?k6 ?k7 ?k8 ?k9 ?kB ?_ ?c2 ?c3 ?c4 ?c5; (case kA => exact rfl); (case kF => exact rfl); (case kK => assumption); (case k1 => k_asm); (case k2 => k_asm); (case k3 => k_asm); (case k4 => k_asm); (case k5 => k_asm); (case k6 => k_is); (case k7 => k_is); (case k8 => ktr_room); (case k9 => first | exact BindsTo.of_eq rfl | exact binds_K (by k_in) rfl (by k_is) rfl rfl rfl); (case c5 => decide); (case kB => exact locs rfl); (case c2 => exact rfl); (case c3 => exact rfl); (case c4 => exact rfl); k_whole)
  intro g L1 h1 FG F1 N1 B1 X1 T1 keep hlt
  (try dsimp only)
  (try ((try change wpAny _ _ _ _ _ _); k_fold))
  have R : ∀ z ∈ [(x, instObj 356 dx)], g.get? z.1 = some z.2 := fun x hx => keep _ _ (hrd x hx).2 (hrd x hx).1
  have r1 := R _ (.head _)
  try dsimp only at r1
  clear R
  clear hrd hlt
  k_steps
  exact fin (muts' := [(dx, _)]) (ex := []) hret keep (by assumption) (by assumption) (by assumption) (by assumption) (List.forall_mem_cons.mpr ⟨by k_mem, fun _ h => nomatch h⟩) (fun _ h => nomatch h) (fun _ h => nomatch h) ⟨_, rfl, rfl, _, _, _, _, _, rfl, rfl⟩
/-- a reader at work: what is left to read is the number R, in A bits -/
structure RSt (ks : List Int) (pl stock hv R A : Int) : Prop where
  p0 : 0 ≤ pl
  p1 : pl ≤ ks.length
  h0 : 0 ≤ hv
  h1 : hv < 8
  s0 : 0 ≤ stock
  s1 : stock < 2 ^ hv.toNat
  val : stock + 2 ^ hv.toNat * leZ (ks.drop pl.toNat) = R
  av : hv + 8 * (ks.length - pl) = A
theorem drop_getD {ks : List Int} {pl : Int} (h0 : 0 ≤ pl) (h1 : pl < ks.length) : ks.drop pl.toNat = ks.getD pl.toNat 0 :: ks.drop (pl + 1).toNat := by
  have h2 : pl.toNat < ks.length := by omega
  rw [List.drop_eq_getElem_cons h2, show (pl + 1).toNat = pl.toNat + 1 by omega]
  simp [List.getD, h2]
theorem bitAnd_mask {x : Int} {k : Nat} (h : 0 ≤ x) : Builtin.bitAnd x (2 ^ k - 1) = x % 2 ^ k := by
  have h1 : (0 : Int) < 2 ^ k := Int.pow_pos (by decide)
  rw [bitAnd_pp h (by omega)]
  obtain ⟨n, rfl⟩ := Int.eq_ofNat_of_zero_le h
  have e : ((2 : Int) ^ k - 1).toNat = 2 ^ k - 1 := by
    have : ((2 ^ k : Nat) : Int) = (2 : Int) ^ k := by simp
    omega
  rw [e, Int.toNat_natCast, Nat.and_two_pow_sub_one_eq_mod]
  simp
theorem takeC_call {w : World} {xc dc xo dq : Addr} {arr : Array UInt8} {ks : List Int} {tb j1 j2 j3 u1 u2 k1 k2 k3 t1 t2 tn : Tok} {pl stock hv R A n : Int} (hk9 : KBw.bInts arr = ks) (hz : ks.length < 10000) (W : RSt ks pl stock hv R A) (hn0 : 0 ≤ n) (hn1 : n ≤ 8) (hA : n ≤ A) (hne : @Ne Nat dc dq) :
    Call w 339 [.ref xc, .int n tn] 6 80 [(xc, instObj 356 dc), (xo, instObj 243 dq)] [(dc, cDict w xo k1 k2 k3 stock hv t1 t2), (dq, oDict w arr tb j1 j2 j3 pl u1 u2)] (P2 dc dq fun r o' u' ex => ex = [] ∧ ∃ pl' stock' hv' t1' t2' u2' t, o' = cDict w xo k1 k2 k3 stock' hv' t1' t2' ∧ u' = oDict w arr tb j1 j2 j3 pl' u1 u2' ∧ RSt ks pl' stock' hv' (R / 2 ^ n.toNat) (A - n) ∧ r = .int (R % 2 ^ n.toNat) t) := by
  k_with_none
  k_with "getMethod ref" => ((k_here; (with_reducible show wpAny _ _ (getMethod (Value.ref _) (PySem.Str.ofString "append") _) _ _ _); k_dflt (refine' ba_getMethod ?q1 ?q2 ?q3 ?_; (case q1 => exact News.get (by k_asm) (by k_mem)); (case q2 => exact rfl); (case q3 => exact rfl); k_whole)))
  k_with "call ref" => ((k_here; (with_reducible show wpAny _ _ (call (Value.ref 85) _) _ _ _); k_dflt (refine' use0 (needc_call ?q1 ?q2) ?k1 ?k2 ?k3 ?k4 ?k6 ?kK ?kr ?kd ?ku ?_; (case k1 => k_asm); (case k2 => k_asm); (case k3 => k_asm); (case k4 => k_asm); (case k6 => k_asm); (case kK => first | exact rfl | assumption); (case kr => tb_rel); (case q1 => first | assumption | omega); (case q2 => first | assumption | omega); (case kd => ktr_room); (case ku => ktr_units); k_whole; refine rB ?_; intro  h9 tk9 _ F9 N9; (dsimp only [List.nil_append] at N9); (try k_sweep))))
  k_with "call ref" => ((k_here; (with_reducible show wpAny _ _ (call (Value.ref 254) _) _ _ _); k_dflt (refine' use0 (places_call ?q1 ?q2) ?k1 ?k2 ?k3 ?k4 ?k6 ?kK ?kr ?kd ?ku ?_; (case k1 => k_asm); (case k2 => k_asm); (case k3 => k_asm); (case k4 => k_asm); (case k6 => k_asm); (case kK => first | exact rfl | assumption); (case kr => tb_rel); (case q1 => first | assumption | omega); (case q2 => first | assumption | omega); (case kd => ktr_room); (case ku => ktr_units); k_whole; refine rA ?_; intro t9 h9 tk9 _ F9 N9; (dsimp only [List.nil_append] at N9); (try k_sweep))))
  k_with "call ref" => ((k_here; (with_reducible show wpAny _ _ (call (Value.ref 92) _) _ _ _); k_dflt (refine' use0 (needv_call ?q1 ?q2 ?q3 ?q4) ?k1 ?k2 ?k3 ?k4 ?k6 ?kK ?kr ?kd ?ku ?_; (case k1 => k_asm); (case k2 => k_asm); (case k3 => k_asm); (case k4 => k_asm); (case k6 => k_asm); (case kK => first | exact rfl | assumption); (case kr => tb_rel); (case q1 => first | assumption | omega); (case q2 => first | assumption | omega); (case q3 => first | assumption | omega); (case q4 => first | assumption | omega); (case kd => ktr_room); (case ku => ktr_units); k_whole; refine rB ?_; intro  h9 tk9 _ F9 N9; (dsimp only [List.nil_append] at N9); (try k_sweep))))
  unfold Call
  k_fill
  intro dp un gd cn sc a ccd cl outer A₀ base h₀ L m
  refine ps5 ?_
  intro sH0 sG0 sD0 sT0 sO0 loose mean mg mb Q B F X N T hk hrd hd1 hu hret
  (try dsimp only at F)
  (try dsimp only at N)
  (try dsimp only at hrd)
  (try dsimp only at hret)
  k_dflt (refine' enterR ?k1 ?k2 ?k3 ?k4 ?k5 ?kA ?kF ?kK ?k6 ?k7 ?k8 ?k9 ?kB ?_ ?c2 ?c3 ?c4 ?c5; (case kA => exact rfl); (case kF => exact rfl); (case kK => assumption); (case k1 => k_asm); (case k2 => k_asm); (case k3 => k_asm); (case k4 => k_asm); (case k5 => k_asm); (case k6 => k_is); (case k7 => k_is); (case k8 => ktr_room); (case k9 => first | exact BindsTo.of_eq rfl | exact binds_K (by k_in) rfl (by k_is) rfl rfl rfl); (case c5 => decide); (case kB => exact locs rfl); (case c2 => exact rfl); (case c3 => exact rfl); (case c4 => exact rfl); k_whole)
  intro g L1 h1 FG F1 N1 B1 X1 T1 keep hlt
  (try dsimp only)
  (try ((try change wpAny _ _ _ _ _ _); k_fold))
  have RR : ∀ z ∈ [(xc, instObj 356 dc), (xo, instObj 243 dq)], g.get? z.1 = some z.2 := fun x hx => keep _ _ (hrd x hx).2 (hrd x hx).1
  have r1 := RR _ (.head _)
  try dsimp only at r1
  have r2 := RR _ (.tail _ (.head _))
  try dsimp only at r2
  clear RR
  clear hrd hlt
  obtain ⟨w1, w2, w3, w4, w5, w6, w7, w8⟩ := W
  k_with "exec While Compare cons nil" => refine hold ?_
  k_steps
  refine go ?_
  rename Fr _ _ _ _ => lF'
  rename News _ _ _ _ => lN'
  with_unfolding_all refine' ksw_while (σ := (Int × Int × Int) × (Tok × Tok × Tok)) (fun c => [(dc, cDict w xo k1 k2 k3 c.1.1 c.1.2.1 c.2.1 c.2.2.1), (dq, oDict w arr tb j1 j2 j3 c.1.2.2 u1 c.2.2.2)]) (fun _ => []) (fun _ => True) [] (fun c => 0 ≤ c.1.2.2 ∧ c.1.2.2 ≤ ks.length ∧ 0 ≤ c.1.2.1 ∧ c.1.2.1 < 16 ∧ (n ≤ c.1.2.1 → c.1.2.1 < n + 8) ∧ 0 ≤ c.1.1 ∧ c.1.1 < 2 ^ c.1.2.1.toNat ∧ c.1.1 + 2 ^ c.1.2.1.toNat * leZ (ks.drop c.1.2.2.toNat) = R ∧ c.1.2.1 + 8 * (ks.length - c.1.2.2) = A) (fun c => (16 - c.1.2.1).toNat) ((stock, hv, pl), (t1, t2, u2)) lF' lN' trivial (fun _ h => nomatch h) ⟨w1, w2, w3, by dsimp only; omega, fun _ => by dsimp only; omega, w5, w6, w7, w8⟩ ?turn (by with_unfolding_all passes_own)
  case turn =>
    (first | (refine pz3 ?_; intro st hv1 pl1 ta tb' tc u h tk cl1; clear cl1; refine an_ppppppppp ?_; intro q1 q2 q3 q4 q5 q6 q7 q8 q9 kFr kNews) | (rintro ⟨⟨st, hv1, pl1⟩, ⟨ta, tb', tc⟩⟩ u h tk - ⟨q1, q2, q3, q4, q5, q6, q7, q8, q9⟩ kFr kNews))
    clear lF' lN'
    dsimp only [kstB] at kFr
    dsimp only at kNews q1 q2 q3 q4 q5 q6 q7 q8 q9
    try ((try change wpAny _ _ _ _ _ _); k_fold)
    k_steps
    · have hpl : pl1 < ks.length := by omega
      obtain ⟨b0, b1⟩ := KBw.getD_in (ks := ks) (j := pl1.toNat) fun k hk => KBw.ints_in (hk9 ▸ hk)
      have hdr := drop_getD q1 hpl
      refine' use1 (octet_call (dx := dq) hk9 q1 hpl hz) ?i1 ?i2 ?i3 ?i4 ?iu ?i6 ?iK ?ir ?id ?iv ?_
      case i1 => k_asm
      case i2 => k_asm
      case i3 => k_asm
      case i4 => k_asm
      case iu => k_updF
      case i6 => k_asm
      case iK => rfl
      case ir => exact List.forall_mem_cons.mpr ⟨⟨Fr.keep (by k_asm) _ _ r2, gneO r2 (by k_asm) (by k_mem)⟩, fun _ h => nomatch h⟩
      case id => ktr_room
      case iv => ktr_units
      refine rT ?_; intro t9 t8 h9 tk9 _ F9 N9
      dsimp only [List.nil_append] at N9
      rw [hdr] at q8
      generalize ks.getD pl1.toNat 0 = bb at *
      have hp1 : (2 : Int) ^ hv1.toNat ≤ 256 := by
        have : (2 : Nat) ^ hv1.toNat ≤ 2 ^ 8 := Nat.pow_le_pow_right (by decide) (by omega)
        have e : ((2 ^ hv1.toNat : Nat) : Int) = (2 : Int) ^ hv1.toNat := by simp
        omega
      k_steps
      rename (2 : Int) ^ hv1.toNat ≤ 256 => hp1
      have hor : Builtin.bitOr st (bb * 2 ^ hv1.toNat) = st + bb * 2 ^ hv1.toNat := or_add q6 q7 b0
      refine ksw_end ((st + bb * 2 ^ hv1.toNat, hv1 + 8, pl1 + 1), (_, _, _)) (by assumption) (by assumption) (fun p hp => hor ▸ hp) trivial (fun _ h => nomatch h) (by ksw_same) ⟨by dsimp only; omega, by dsimp only; omega, by dsimp only; omega, by dsimp only; omega, fun _ => by dsimp only; omega, ?e1, ?e2, ?e3, by dsimp only; omega⟩ (by dsimp only; omega)
      all_goals dsimp only
      all_goals have hm := Int.mul_nonneg b0 (Int.le_of_lt (Int.pow_pos (n := 2) (m := hv1.toNat) (by decide)))
      case e1 => omega
      case e2 =>
        rw [pow_split q3 (by decide)]
        have h9 : (bb + 1) * 2 ^ hv1.toNat ≤ 256 * 2 ^ hv1.toNat := Int.mul_le_mul_of_nonneg_right (by omega) (Int.le_of_lt (Int.pow_pos (n := 2) (m := hv1.toNat) (by decide)))
        rw [Int.add_mul] at h9
        rw [show (2 : Int) ^ (8 : Int).toNat = 256 from rfl]
        omega
      case e3 =>
        rw [pow_split q3 (by decide), show (2 : Int) ^ (8 : Int).toNat = 256 from rfl, ← q8]
        simp only [leZ]
        rw [Int.mul_add, Int.mul_comm bb, Int.mul_assoc]; omega
    · have hn9 : n ≤ hv1 := by omega
      have hp9 : (2 : Int) ^ hv1.toNat = 2 ^ n.toNat * 2 ^ (hv1 - n).toNat := by
        have := pow_split (a := n) (b := hv1 - n) hn0 (by omega)
        rwa [show n + (hv1 - n) = hv1 by omega] at this
      have hq9 : (0 : Int) < 2 ^ n.toNat := Int.pow_pos (by decide)
      have ha9 : Builtin.bitAnd st (1 * 2 ^ n.toNat - 1) = R % 2 ^ n.toNat := by
        rw [Int.one_mul, bitAnd_mask q6, ← q8, hp9, Int.mul_assoc, Int.add_mul_emod_self_left]
      have hd9 : st.fdiv (2 ^ n.toNat) = st / 2 ^ n.toNat := Int.fdiv_eq_ediv_of_nonneg _ (Int.le_of_lt hq9)
      rw [ha9]
      refine fin (muts' := [(dc, cDict w xo k1 k2 k3 (st.fdiv (2 ^ n.toNat)) (hv1 - n) _ _), (dq, oDict w arr tb j1 j2 j3 pl1 u1 tc)]) (ex := []) hret keep (by assumption) (by assumption) (by assumption) (by assumption) (fun _ h => h) (fun _ h => nomatch h) (fun _ h => nomatch h) ⟨_, _, rfl, rfl, pl1, _, _, _, _, _, _, rfl, rfl, ⟨q1, q2, by omega, by omega, ?_, ?_, ?_, by omega⟩, rfl⟩
      · rw [hd9]; exact Int.ediv_nonneg q6 (Int.le_of_lt hq9)
      · rw [hd9]; exact Int.ediv_lt_of_lt_mul hq9 (by rw [Int.mul_comm, ← hp9]; exact q7)
      · rw [hd9, ← q8, hp9, Int.mul_assoc, Int.add_mul_ediv_left _ _ (by omega)]

theorem fresh_Crd2 : True := by
  k_with_none
  w_top off
  trivial
theorem upto_read {m v V R : Int} (h0 : 2 ≤ m) (h1 : m ≤ 65) (v0 : 0 ≤ v) (v1 : v ≤ m) (hR : R = upV' m v + V * 2 ^ (upL m v).toNat) :
    (v < upS m → R % 2 ^ (upC m - 1).toNat = v ∧ R / 2 ^ (upC m - 1).toNat = V ∧ upL m v = upC m - 1) ∧
    (¬ v < upS m → ¬ R % 2 ^ (upC m - 1).toNat < upS m ∧ R / 2 ^ (upC m - 1).toNat / 2 = V ∧ upL m v = upC m ∧ R % 2 ^ (upC m - 1).toNat + R / 2 ^ (upC m - 1).toNat % 2 * 2 ^ (upC m - 1).toNat = (if v < 2 ^ (upC m - 1).toNat then v else v + upS m)) := by
  obtain ⟨c0, c1, c2, c3, c4, c5⟩ := upC_facts h0 h1
  have eS : upS m = 2 * 2 ^ (upC m - 1).toNat - 1 - m := by unfold upS; omega
  constructor
  · intro hv
    have eL : upL m v = upC m - 1 := if_pos hv
    have eV : upV' m v = v := if_pos hv
    rw [eL, eV] at hR
    refine ⟨?_, ?_, eL⟩
    · rw [hR, Int.add_mul_emod_self_right]; exact Int.emod_eq_of_lt v0 (by omega)
    · rw [hR, Int.add_mul_ediv_right _ _ (by omega), Int.ediv_eq_zero_of_lt v0 (by omega)]; omega
  · intro hv
    have eL : upL m v = upC m := if_neg hv
    have eV : upV' m v = if v < 2 ^ (upC m - 1).toNat then v else v + upS m := if_neg hv
    rw [eL, c4] at hR
    have e2 : V * (2 * 2 ^ (upC m - 1).toNat) = (2 * V) * 2 ^ (upC m - 1).toNat := by rw [← Int.mul_assoc, Int.mul_comm V 2]
    rw [e2] at hR
    by_cases hp : v < 2 ^ (upC m - 1).toNat
    · rw [if_pos hp] at eV ⊢
      rw [eV] at hR
      have a1 : R % 2 ^ (upC m - 1).toNat = v := by rw [hR, Int.add_mul_emod_self_right]; exact Int.emod_eq_of_lt v0 hp
      have a2 : R / 2 ^ (upC m - 1).toNat = 2 * V := by rw [hR, Int.add_mul_ediv_right _ _ (by omega), Int.ediv_eq_zero_of_lt v0 hp]; omega
      rw [a1, a2]
      refine ⟨hv, by omega, eL, ?_⟩
      rw [Int.mul_emod_right]; omega
    · rw [if_neg hp] at eV ⊢
      have e3 : R = (v + upS m - 2 ^ (upC m - 1).toNat) + (1 + 2 * V) * 2 ^ (upC m - 1).toNat := by rw [hR, eV, Int.add_mul]; omega
      have a1 : R % 2 ^ (upC m - 1).toNat = v + upS m - 2 ^ (upC m - 1).toNat := by rw [e3, Int.add_mul_emod_self_right]; exact Int.emod_eq_of_lt (by omega) (by omega)
      have a2 : R / 2 ^ (upC m - 1).toNat = 1 + 2 * V := by rw [e3, Int.add_mul_ediv_right _ _ (by omega), Int.ediv_eq_zero_of_lt (by omega) (by omega)]; omega
      rw [a1, a2]
      refine ⟨by omega, by omega, eL, ?_⟩
      rw [show (1 + 2 * V) % 2 = 1 by omega]; omega
theorem uptoC_call {w : World} {xc dc xo dq : Addr} {arr : Array UInt8} {ks : List Int} {tb j1 j2 j3 u1 u2 k1 k2 k3 t1 t2 tm : Tok} {pl stock hv R A most v V : Int} (hk9 : KBw.bInts arr = ks) (hz : ks.length < 10000) (W : RSt ks pl stock hv R A) (hm0 : 2 ≤ most) (hm1 : most ≤ 65) (hv0 : 0 ≤ v) (hv1 : v ≤ most) (hR : R = upV' most v + V * 2 ^ (upL most v).toNat) (hA : upL most v ≤ A) (hne : @Ne Nat dc dq) :
    Call w 346 [.ref xc, .int most tm] 8 120 [(xc, instObj 356 dc), (xo, instObj 243 dq)] [(dc, cDict w xo k1 k2 k3 stock hv t1 t2), (dq, oDict w arr tb j1 j2 j3 pl u1 u2)] (P2 dc dq fun r o' u' ex => ex = [] ∧ ∃ pl' stock' hv' t1' t2' u2' t, o' = cDict w xo k1 k2 k3 stock' hv' t1' t2' ∧ u' = oDict w arr tb j1 j2 j3 pl' u1 u2' ∧ RSt ks pl' stock' hv' V (A - upL most v) ∧ r = .int v t) := by
  k_with_none
  k_with "getMethod ref" => ((k_here; (with_reducible show wpAny _ _ (getMethod (Value.ref _) (PySem.Str.ofString "append") _) _ _ _); k_dflt (refine' ba_getMethod ?q1 ?q2 ?q3 ?_; (case q1 => exact News.get (by k_asm) (by k_mem)); (case q2 => exact rfl); (case q3 => exact rfl); k_whole)))
  k_with "call ref" => ((k_here; (with_reducible show wpAny _ _ (call (Value.ref 85) _) _ _ _); k_dflt (refine' use0 (needc_call ?q1 ?q2) ?k1 ?k2 ?k3 ?k4 ?k6 ?kK ?kr ?kd ?ku ?_; (case k1 => k_asm); (case k2 => k_asm); (case k3 => k_asm); (case k4 => k_asm); (case k6 => k_asm); (case kK => first | exact rfl | assumption); (case kr => tb_rel); (case q1 => first | assumption | omega); (case q2 => first | assumption | omega); (case kd => ktr_room); (case ku => ktr_units); k_whole; refine rB ?_; intro  h9 tk9 _ F9 N9; (dsimp only [List.nil_append] at N9); (try k_sweep))))
  k_with "call ref" => ((k_here; (with_reducible show wpAny _ _ (call (Value.ref 254) _) _ _ _); k_dflt (refine' use0 (places_call ?q1 ?q2) ?k1 ?k2 ?k3 ?k4 ?k6 ?kK ?kr ?kd ?ku ?_; (case k1 => k_asm); (case k2 => k_asm); (case k3 => k_asm); (case k4 => k_asm); (case k6 => k_asm); (case kK => first | exact rfl | assumption); (case kr => tb_rel); (case q1 => first | assumption | omega); (case q2 => first | assumption | omega); (case kd => ktr_room); (case ku => ktr_units); k_whole; refine rA ?_; intro t9 h9 tk9 _ F9 N9; (dsimp only [List.nil_append] at N9); (try k_sweep))))
  k_with "call ref" => ((k_here; (with_reducible show wpAny _ _ (call (Value.ref 92) _) _ _ _); k_dflt (refine' use0 (needv_call ?q1 ?q2 ?q3 ?q4) ?k1 ?k2 ?k3 ?k4 ?k6 ?kK ?kr ?kd ?ku ?_; (case k1 => k_asm); (case k2 => k_asm); (case k3 => k_asm); (case k4 => k_asm); (case k6 => k_asm); (case kK => first | exact rfl | assumption); (case kr => tb_rel); (case q1 => first | assumption | omega); (case q2 => first | assumption | omega); (case q3 => first | assumption | omega); (case q4 => first | assumption | omega); (case kd => ktr_room); (case ku => ktr_units); k_whole; refine rB ?_; intro  h9 tk9 _ F9 N9; (dsimp only [List.nil_append] at N9); (try k_sweep))))
  unfold Call
  k_fill
  intro dp un gd cn sc a ccd cl outer A₀ base h₀ L m
  refine ps5 ?_
  intro sH0 sG0 sD0 sT0 sO0 loose mean mg mb Q B F X N T hk hrd hd1 hu hret
  (try dsimp only at F)
  (try dsimp only at N)
  (try dsimp only at hrd)
  (try dsimp only at hret)
  k_dflt (refine' enterR ?k1 ?k2 ?k3 ?k4 ?k5 ?kA ?kF ?kK ?k6 ?k7 ?k8 ?k9 ?kB ?_ ?c2 ?c3 ?c4 ?c5; (case kA => exact rfl); (case kF => exact rfl); (case kK => assumption); (case k1 => k_asm); (case k2 => k_asm); (case k3 => k_asm); (case k4 => k_asm); (case k5 => k_asm); (case k6 => k_is); (case k7 => k_is); (case k8 => ktr_room); (case k9 => first | exact BindsTo.of_eq rfl | exact binds_K (by k_in) rfl (by k_is) rfl rfl rfl); (case c5 => decide); (case kB => exact locs rfl); (case c2 => exact rfl); (case c3 => exact rfl); (case c4 => exact rfl); k_whole)
  intro g L1 h1 FG F1 N1 B1 X1 T1 keep hlt
  (try dsimp only)
  (try ((try change wpAny _ _ _ _ _ _); k_fold))
  have RR : ∀ z ∈ [(xc, instObj 356 dc), (xo, instObj 243 dq)], g.get? z.1 = some z.2 := fun x hx => keep _ _ (hrd x hx).2 (hrd x hx).1
  have r1 := RR _ (.head _)
  try dsimp only at r1
  have r2 := RR _ (.tail _ (.head _))
  try dsimp only at r2
  clear RR
  clear hrd hlt
  obtain ⟨c0, c1, c2, c3, c4, c5⟩ := upC_facts hm0 hm1
  obtain ⟨y1, y2⟩ := upto_read hm0 hm1 hv0 hv1 hR
  have hA2 : upC most - 1 ≤ A := by unfold upL at hA; split at hA <;> omega
  have hA3 : ¬ v < upS most → upC most ≤ A := fun q => by unfold upL at hA; rwa [if_neg q] at hA
  have eS : upS most = 2 ^ (upC most).toNat - 1 - most := rfl
  rw [eS] at y1 y2 hA3
  have eC : ((Builtin.Int.intBits most : Nat) : Int) = upC most := rfl
  generalize upL most v = lv at *
  generalize upV' most v = uv at *
  clear eS
  generalize hcc : upC most = c at *
  have hc9 : (2 : Int) ^ c.toNat ≤ 130 := by omega
  have hy1 := go y1
  have hy2 := go y2
  have hy3 := go hA3
  clear y1 y2 hA3
  k_with "call ref" => refine hold ?_
  k_with "call ref" => ((k_here; (with_reducible show wpAny _ _ (call (Value.ref 85) _) _ _ _); k_dflt (refine' use0 (needc_call ?q1 ?q2) ?k1 ?k2 ?k3 ?k4 ?k6 ?kK ?kr ?kd ?ku ?_; (case k1 => k_asm); (case k2 => k_asm); (case k3 => k_asm); (case k4 => k_asm); (case k6 => k_asm); (case kK => first | exact rfl | assumption); (case kr => tb_rel); (case q1 => first | assumption | omega); (case q2 => first | assumption | omega); (case kd => ktr_room); (case ku => ktr_units); k_whole; refine rB ?_; intro  h9 tk9 _ F9 N9; (dsimp only [List.nil_append] at N9); (try k_sweep))))
  k_with "call ref" => ((k_here; (with_reducible show wpAny _ _ (call (Value.ref 254) _) _ _ _); k_dflt (refine' use0 (places_call ?q1 ?q2) ?k1 ?k2 ?k3 ?k4 ?k6 ?kK ?kr ?kd ?ku ?_; (case k1 => k_asm); (case k2 => k_asm); (case k3 => k_asm); (case k4 => k_asm); (case k6 => k_asm); (case kK => first | exact rfl | assumption); (case kr => tb_rel); (case q1 => first | assumption | omega); (case q2 => first | assumption | omega); (case kd => ktr_room); (case ku => ktr_units); k_whole; refine rA ?_; intro t9 h9 tk9 _ F9 N9; (dsimp only [List.nil_append] at N9); (try k_sweep))))
  k_with "call ref" => ((k_here; (with_reducible show wpAny _ _ (call (Value.ref 92) _) _ _ _); k_dflt (refine' use0 (needv_call ?q1 ?q2 ?q3 ?q4) ?k1 ?k2 ?k3 ?k4 ?k6 ?kK ?kr ?kd ?ku ?_; (case k1 => k_asm); (case k2 => k_asm); (case k3 => k_asm); (case k4 => k_asm); (case k6 => k_asm); (case kK => first | exact rfl | assumption); (case kr => tb_rel); (case q1 => first | assumption | omega); (case q2 => first | assumption | omega); (case q3 => first | assumption | omega); (case q4 => first | assumption | omega); (case kd => ktr_room); (case ku => ktr_units); k_whole; refine rB ?_; intro  h9 tk9 _ F9 N9; (dsimp only [List.nil_append] at N9); (try k_sweep))))
  k_steps
  simp only [eC] at *
  clear eC hcc
  refine go ?_
  refine' use2 (takeC_call hk9 hz W (show 0 ≤ c - 1 by omega) (by omega) hA2 hne) ?v1 ?v2 ?v3 ?v4 ?vu ?v6 ?vK ?vr ?vd ?vv ?_; (case v1 => k_asm); (case v2 => k_asm); (case v3 => k_asm); (case v4 => k_asm); (case vu => exact UpdF2.head1 hne (by k_all) (by k_updF)); (case v6 => k_asm); (case vK => rfl); (case vr => exact List.forall_mem_cons.mpr ⟨⟨Fr.keep (by k_asm) _ _ r1, gneO r1 (by k_asm) (by k_mem), gneO r1 (by k_asm) (by k_mem)⟩, List.forall_mem_cons.mpr ⟨⟨Fr.keep (by k_asm) _ _ r2, gneO r2 (by k_asm) (by k_mem), gneO r2 (by k_asm) (by k_mem)⟩, fun _ h => nomatch h⟩⟩); (case vd => ktr_room); (case vv => ktr_units)
  refine rS ?_; intro pl' st' hv' t5 t6 u5 t7 W2 h9 tk9 _ F9 N9
  dsimp only [List.nil_append] at N9
  have hlo0 : 0 ≤ R % 2 ^ (c - 1).toNat := Int.emod_nonneg _ (by omega)
  have hlo1 : R % 2 ^ (c - 1).toNat < 2 ^ (c - 1).toNat := Int.emod_lt_of_pos _ (by omega)
  clear hR W
  generalize R % 2 ^ (c - 1).toNat = lo at *
  generalize R / 2 ^ (c - 1).toNat = R1 at *
  k_steps
  · have hv9 : v < 2 ^ c.toNat - 1 - most := by
      apply Classical.byContradiction; intro q
      have := (hold hy2 q).1
      omega
    obtain ⟨z1, z2, z3⟩ := hold hy1 hv9
    subst z1 z2 z3
    exact fin (muts' := [(dc, _), (dq, _)]) (ex := []) hret keep (by assumption) (by assumption) (by assumption) (by assumption) (fun _ h => h) (fun _ h => nomatch h) (fun _ h => nomatch h) ⟨_, _, rfl, rfl, pl', _, _, _, _, _, _, rfl, rfl, W2, rfl⟩
  have hv9 : ¬ v < 2 ^ c.toNat - 1 - most := fun q => by
    have := (hold hy1 q).1
    omega
  obtain ⟨z1, z2, z3, z4⟩ := hold hy2 hv9
  have hA4 := hold hy3 hv9
  clear hy1 hy2 hy3
  refine go ?_
  refine' use2 (takeC_call hk9 hz W2 (show 0 ≤ 1 by decide) (by omega) (by omega) hne) ?v1 ?v2 ?v3 ?v4 ?vu ?v6 ?vK ?vr ?vd ?vv ?_; (case v1 => k_asm); (case v2 => k_asm); (case v3 => k_asm); (case v4 => k_asm); (case vu => exact UpdF2.head1 hne (by k_all) (by k_updF)); (case v6 => k_asm); (case vK => rfl); (case vr => exact List.forall_mem_cons.mpr ⟨⟨Fr.keep (by k_asm) _ _ r1, gneO r1 (by k_asm) (by k_mem), gneO r1 (by k_asm) (by k_mem)⟩, List.forall_mem_cons.mpr ⟨⟨Fr.keep (by k_asm) _ _ r2, gneO r2 (by k_asm) (by k_mem), gneO r2 (by k_asm) (by k_mem)⟩, fun _ h => nomatch h⟩⟩); (case vd => ktr_room); (case vv => ktr_units)
  refine rS ?_; intro pl3 st3 hv3 t8 t9 u8 t10 W3 h8 tk8 _ F8 N8
  dsimp only [List.nil_append] at N8
  rw [show (2 : Int) ^ (1 : Int).toNat = 2 from rfl] at W3 ⊢
  rw [z2] at W3
  have hb0 : 0 ≤ R1 % 2 := by omega
  have hb1 : R1 % 2 ≤ 1 := by omega
  have hor : Builtin.bitOr lo (R1 % 2 * 2 ^ (c - 1).toNat) = lo + R1 % 2 * 2 ^ (c - 1).toNat := or_add hlo0 hlo1 hb0
  rw [z4] at hor
  clear z2 W2 z4
  generalize R1 % 2 = bb at *
  have hz4 := go hor
  clear hor
  have hp7 : (2 : Int) ^ (c - 1).toNat ≤ 65 := by omega
  k_steps
  all_goals have hz5 := hold hz4
  all_goals rw [hz5]
  all_goals (have z3' := z3.symm; clear z3; subst z3')
  · have e9 : (if v < 2 ^ (c - 1).toNat then v else v + (2 ^ c.toNat - 1 - most)) = v := by
      by_cases q : v < 2 ^ (c - 1).toNat
      · rw [if_pos q]
      · exfalso; rename _ < 1 * (2 : Int) ^ (c - 1).toNat => h0; rw [hz5, if_neg q] at h0; omega
    rw [e9]
    exact fin (muts' := [(dc, _), (dq, _)]) (ex := []) hret keep (by assumption) (by assumption) (by assumption) (by assumption) (fun _ h => h) (fun _ h => nomatch h) (fun _ h => nomatch h) ⟨_, _, rfl, rfl, pl3, _, _, _, _, _, _, rfl, rfl, by rw [show A - c = A - (c - 1) - 1 by omega]; exact W3, rfl⟩
  · have e9 : (if v < 2 ^ (c - 1).toNat then v else v + (2 ^ c.toNat - 1 - most)) - (1 * 2 ^ c.toNat - 1 - most) = v := by
      by_cases q : v < 2 ^ (c - 1).toNat
      · exfalso; rename ¬ _ < 1 * (2 : Int) ^ (c - 1).toNat => h0; rw [hz5, if_pos q] at h0; omega
      · rw [if_neg q]; omega
    rw [e9]
    exact fin (muts' := [(dc, _), (dq, _)]) (ex := []) hret keep (by assumption) (by assumption) (by assumption) (by assumption) (fun _ h => h) (fun _ h => nomatch h) (fun _ h => nomatch h) ⟨_, _, rfl, rfl, pl3, _, _, _, _, _, _, rfl, rfl, by rw [show A - c = A - (c - 1) - 1 by omega]; exact W3, rfl⟩

theorem fresh_Crd3 : True := by
  k_with_none
  w_top off
  trivial
theorem run_read {k V R : Int} (h0 : 0 ≤ k) (hR : R = runV k + V * 2 ^ (runL k).toNat) :
    (3 ≤ k → R % 4 = 3 ∧ R / 4 = runV (k - 3) + V * 2 ^ (runL (k - 3)).toNat ∧ runL k = 2 + runL (k - 3)) ∧ (k < 3 → R % 4 = k ∧ R / 4 = V ∧ runL k = 2) := by
  constructor
  · intro h
    have e1 : runL k = 2 + runL (k - 3) := by unfold runL; omega
    have e2 : 0 ≤ runL (k - 3) := by unfold runL; omega
    rw [e1, pow_split (by decide) e2, runV_three h, show (2 : Int) ^ (2 : Int).toNat = 4 from rfl] at hR
    have e3 : V * (4 * 2 ^ (runL (k - 3)).toNat) = 4 * (V * 2 ^ (runL (k - 3)).toNat) := by rw [Int.mul_left_comm]
    rw [e3] at hR
    generalize V * 2 ^ (runL (k - 3)).toNat = z at *
    generalize runV (k - 3) = y at *
    exact ⟨by omega, by omega, e1⟩
  · intro h
    have e1 : runL k = 2 := by unfold runL; omega
    rw [e1, runV_small h0 h, show (2 : Int) ^ (2 : Int).toNat = 4 from rfl] at hR
    exact ⟨by omega, by omega, e1⟩
noncomputable def RunInv (k V Z found told Rc Ac : Int) : Prop := (told = 3 ∧ found ≤ k ∧ Rc = runV (k - found) + V * 2 ^ (runL (k - found)).toNat ∧ Ac = Z + runL (k - found)) ∨ (told ≠ 3 ∧ found = k ∧ Rc = V ∧ Ac = Z)
theorem RunInv.turn {k V Z found told Rc Ac : Int} (I : RunInv k V Z found told Rc Ac) (h : told = 3) : 0 ≤ k - found ∧ runL (k - found) + Z = Ac ∧ 0 ≤ Rc % 4 ∧ Rc % 4 ≤ 3 ∧ found + Rc % 4 ≤ k ∧ RunInv k V Z (found + Rc % 4) (Rc % 4) (Rc / 4) (Ac - 2) ∧ (Rc % 4 = 3 → found + 3 ≤ k) := by
  rcases I with ⟨_, h1, h2, h3⟩ | ⟨h1, _⟩
  · obtain ⟨y1, y2⟩ := run_read (by omega) h2
    by_cases q : 3 ≤ k - found
    · obtain ⟨z1, z2, z3⟩ := y1 q
      rw [z1]
      refine ⟨by omega, by omega, by decide, by decide, by omega, .inl ⟨rfl, by omega, ?_, ?_⟩, fun _ => by omega⟩
      · rw [z2, show k - (found + 3) = k - found - 3 by omega]
      · rw [show k - (found + 3) = k - found - 3 by omega]; omega
    · obtain ⟨z1, z2, z3⟩ := y2 (by omega)
      rw [z1]
      exact ⟨by omega, by omega, by omega, by omega, by omega, .inr ⟨by omega, by omega, z2, by omega⟩, fun _ => by omega⟩
  · exact absurd h h1
theorem runC_call {w : World} {xc dc xo dq : Addr} {arr : Array UInt8} {ks : List Int} {tb j1 j2 j3 u1 u2 k1 k2 k3 t1 t2 tm : Tok} {pl stock hv R A most k V : Int} (hk9 : KBw.bInts arr = ks) (hz : ks.length < 10000) (W : RSt ks pl stock hv R A) (hk0 : 0 ≤ k) (hk1 : k ≤ most) (hm1 : most ≤ 100) (hR : R = runV k + V * 2 ^ (runL k).toNat) (hA : runL k ≤ A) (hne : @Ne Nat dc dq) :
    Call w 353 [.ref xc, .int most tm] 8 120 [(xc, instObj 356 dc), (xo, instObj 243 dq)] [(dc, cDict w xo k1 k2 k3 stock hv t1 t2), (dq, oDict w arr tb j1 j2 j3 pl u1 u2)] (P2 dc dq fun r o' u' ex => ex = [] ∧ ∃ pl' stock' hv' t1' t2' u2' t, o' = cDict w xo k1 k2 k3 stock' hv' t1' t2' ∧ u' = oDict w arr tb j1 j2 j3 pl' u1 u2' ∧ RSt ks pl' stock' hv' V (A - runL k) ∧ r = .int k t) := by
  k_with_none
  k_with "getMethod ref" => ((k_here; (with_reducible show wpAny _ _ (getMethod (Value.ref _) (PySem.Str.ofString "append") _) _ _ _); k_dflt (refine' ba_getMethod ?q1 ?q2 ?q3 ?_; (case q1 => exact News.get (by k_asm) (by k_mem)); (case q2 => exact rfl); (case q3 => exact rfl); k_whole)))
  k_with "call ref" => ((k_here; (with_reducible show wpAny _ _ (call (Value.ref 85) _) _ _ _); k_dflt (refine' use0 (needc_call ?q1 ?q2) ?k1 ?k2 ?k3 ?k4 ?k6 ?kK ?kr ?kd ?ku ?_; (case k1 => k_asm); (case k2 => k_asm); (case k3 => k_asm); (case k4 => k_asm); (case k6 => k_asm); (case kK => first | exact rfl | assumption); (case kr => tb_rel); (case q1 => first | assumption | omega); (case q2 => first | assumption | omega); (case kd => ktr_room); (case ku => ktr_units); k_whole; refine rB ?_; intro  h9 tk9 _ F9 N9; (dsimp only [List.nil_append] at N9); (try k_sweep))))
  k_with "call ref" => ((k_here; (with_reducible show wpAny _ _ (call (Value.ref 254) _) _ _ _); k_dflt (refine' use0 (places_call ?q1 ?q2) ?k1 ?k2 ?k3 ?k4 ?k6 ?kK ?kr ?kd ?ku ?_; (case k1 => k_asm); (case k2 => k_asm); (case k3 => k_asm); (case k4 => k_asm); (case k6 => k_asm); (case kK => first | exact rfl | assumption); (case kr => tb_rel); (case q1 => first | assumption | omega); (case q2 => first | assumption | omega); (case kd => ktr_room); (case ku => ktr_units); k_whole; refine rA ?_; intro t9 h9 tk9 _ F9 N9; (dsimp only [List.nil_append] at N9); (try k_sweep))))
  k_with "call ref" => ((k_here; (with_reducible show wpAny _ _ (call (Value.ref 92) _) _ _ _); k_dflt (refine' use0 (needv_call ?q1 ?q2 ?q3 ?q4) ?k1 ?k2 ?k3 ?k4 ?k6 ?kK ?kr ?kd ?ku ?_; (case k1 => k_asm); (case k2 => k_asm); (case k3 => k_asm); (case k4 => k_asm); (case k6 => k_asm); (case kK => first | exact rfl | assumption); (case kr => tb_rel); (case q1 => first | assumption | omega); (case q2 => first | assumption | omega); (case q3 => first | assumption | omega); (case q4 => first | assumption | omega); (case kd => ktr_room); (case ku => ktr_units); k_whole; refine rB ?_; intro  h9 tk9 _ F9 N9; (dsimp only [List.nil_append] at N9); (try k_sweep))))
  unfold Call
  k_fill
  intro dp un gd cn sc a ccd cl outer A₀ base h₀ L m
  refine ps5 ?_
  intro sH0 sG0 sD0 sT0 sO0 loose mean mg mb Q B F X N T hk hrd hd1 hu hret
  (try dsimp only at F)
  (try dsimp only at N)
  (try dsimp only at hrd)
  (try dsimp only at hret)
  k_dflt (refine' enterR ?k1 ?k2 ?k3 ?k4 ?k5 ?kA ?kF ?kK ?k6 ?k7 ?k8 ?k9 ?kB ?_ ?c2 ?c3 ?c4 ?c5; (case kA => exact rfl); (case kF => exact rfl); (case kK => assumption); (case k1 => k_asm); (case k2 => k_asm); (case k3 => k_asm); (case k4 => k_asm); (case k5 => k_asm); (case k6 => k_is); (case k7 => k_is); (case k8 => ktr_room); (case k9 => first | exact BindsTo.of_eq rfl | exact binds_K (by k_in) rfl (by k_is) rfl rfl rfl); (case c5 => decide); (case kB => exact locs rfl); (case c2 => exact rfl); (case c3 => exact rfl); (case c4 => exact rfl); k_whole)
  intro g L1 h1 FG F1 N1 B1 X1 T1 keep hlt
  (try dsimp only)
  (try ((try change wpAny _ _ _ _ _ _); k_fold))
  have RR : ∀ z ∈ [(xc, instObj 356 dc), (xo, instObj 243 dq)], g.get? z.1 = some z.2 := fun x hx => keep _ _ (hrd x hx).2 (hrd x hx).1
  have r1 := RR _ (.head _)
  try dsimp only at r1
  have r2 := RR _ (.tail _ (.head _))
  try dsimp only at r2
  clear RR
  clear hrd hlt
  have hI0 : RunInv k V (A - runL k) 0 3 R A := .inl ⟨rfl, hk0, by rw [Int.sub_zero]; exact hR, by rw [Int.sub_zero]; omega⟩
  have hHW := go W
  have hHI := go hI0
  clear W hR hI0
  k_with "exec While Compare cons nil" => refine hold ?_
  k_steps
  refine go ?_
  rename Fr _ _ _ _ => lF'
  rename News _ _ _ _ => lN'
  with_unfolding_all refine' ksw_while (σ := (Int × Int × Tok × Tok) × (Int × Int × Int) × (Tok × Tok × Tok) × (Int × Int)) (fun c => [(dc, cDict w xo k1 k2 k3 c.2.1.1 c.2.1.2.1 c.2.2.1.1 c.2.2.1.2.1), (dq, oDict w arr tb j1 j2 j3 c.2.1.2.2 u1 c.2.2.1.2.2)]) (fun c => [(Str.ofString "found", .int c.1.1 c.1.2.2.1), (Str.ofString "told", .int c.1.2.1 c.1.2.2.2)]) (fun _ => True) [] (fun c => 0 ≤ c.1.1 ∧ c.1.1 ≤ k ∧ 0 ≤ c.1.2.1 ∧ c.1.2.1 ≤ 3 ∧ Hold (RSt ks c.2.1.2.2 c.2.1.1 c.2.1.2.1 c.2.2.2.1 c.2.2.2.2) ∧ Hold (RunInv k V (A - runL k) c.1.1 c.1.2.1 c.2.2.2.1 c.2.2.2.2)) (fun c => if c.1.2.1 = 3 then (k - c.1.1 + 1).toNat else 0) ((0, 3, _, _), (stock, hv, pl), (t1, t2, u2), (R, A)) lF' (fun p hp => lN' p (.tail _ hp)) trivial ?kk ⟨Int.le_refl _, hk0, show (0 : Int) ≤ 3 by decide, Int.le_refl 3, hHW, hHI⟩ ?turn (by with_unfolding_all passes_own)
  case kk => kst_all
  case turn =>
    (first | (refine pz7 ?_; intro fo to tf tt st hv1 pl1 ta tb' tc Rc Ac u h tk cl1; clear cl1; refine an_pppppp ?_; intro q1 q2 q3 q4 q5 q6 kFr kNews) | (rintro ⟨⟨fo, to, tf, tt⟩, ⟨st, hv1, pl1⟩, ⟨ta, tb', tc⟩, ⟨Rc, Ac⟩⟩ u h tk - ⟨q1, q2, q3, q4, q5, q6⟩ kFr kNews))
    clear lF' lN'
    dsimp only [kstB] at kFr
    dsimp only at kNews q1 q2 q3 q4 q5 q6
    try ((try change wpAny _ _ _ _ _ _); k_fold)
    k_steps
    · rename to = 3 => hto
      obtain ⟨m1, m2, m3, m4, m5, m6, m7⟩ := (hold q6).turn hto
      have m8 : 2 ≤ Ac := by
        have e1 : 2 ≤ runL (k - fo) := by unfold runL; omega
        omega
      refine' use2 (takeC_call hk9 hz (hold q5) (show 0 ≤ 2 by decide) (by decide) m8 hne) ?v1 ?v2 ?v3 ?v4 ?vu ?v6 ?vK ?vr ?vd ?vv ?_; (case v1 => k_asm); (case v2 => k_asm); (case v3 => k_asm); (case v4 => k_asm); (case vu => exact UpdF2.head1 hne (by k_all) (by k_updF)); (case v6 => k_asm); (case vK => rfl); (case vr => exact List.forall_mem_cons.mpr ⟨⟨Fr.keep (by k_asm) _ _ r1, gneO r1 (by k_asm) (by k_mem), gneO r1 (by k_asm) (by k_mem)⟩, List.forall_mem_cons.mpr ⟨⟨Fr.keep (by k_asm) _ _ r2, gneO r2 (by k_asm) (by k_mem), gneO r2 (by k_asm) (by k_mem)⟩, fun _ h => nomatch h⟩⟩); (case vd => ktr_room); (case vv => ktr_units)
      refine rS ?_; intro pl' st' hv' t5 t6 u5 t7 W2 h9 tk9 _ F9 N9
      dsimp only [List.nil_append] at N9
      rw [show (2 : Int) ^ (2 : Int).toNat = 4 from rfl] at W2 ⊢
      have hH6 := go m6
      have hHW2 := go W2
      clear m6 W2 hHW hHI q5 q6
      have m9 : Rc % 4 = 3 → fo + 3 ≤ k := m7
      have m10 := go m9
      clear m7 m9
      generalize Rc / 4 = R2 at *
      generalize Rc % 4 = x4 at *
      k_steps
      refine ksw_end ((fo + x4, x4, _, _), (st', hv', pl'), (t5, t6, u5), (R2, Ac - 2)) (by assumption) (by assumption) (fun p hp => hp) trivial (by kst_all) (by ksw_same) ⟨by dsimp only; omega, m5, m3, m4, hHW2, hH6⟩ ?mm
      case mm =>
        dsimp only
        rw [if_pos hto]
        split
        · have := hold m10 (by assumption); omega
        · omega
    · rename to ≠ 3 => hto
      rcases hold q6 with ⟨z, _⟩ | ⟨_, z1, z2, z3⟩
      · exact absurd z hto
      have W2 := hold q5
      rw [z2, z3] at W2
      subst z1
      exact fin (muts' := [(dc, _), (dq, _)]) (ex := []) hret keep (by assumption) (by assumption) (by assumption) (by assumption) (fun _ h => h) (fun _ h => nomatch h) (fun _ h => nomatch h) ⟨_, _, rfl, rfl, pl1, _, _, _, _, _, _, rfl, rfl, W2, rfl⟩

theorem fresh_Cfault : True := by
  k_with_none
  w_top off
  trivial
noncomputable def placesI (c : Int) : Int := if c = -1 then 1 else c
theorem fault_call {w : World} {lc : Addr} {vc : List Value} {nc : Nat} {ts : List Int} {log : Int} {tl : Tok} (hc : IntsAre vc ts) (hl1 : 5 ≤ log) (hl2 : log ≤ 7) (hb : ∀ c ∈ ts, -1 ≤ c ∧ c ≤ 1000) (hlen : ts.length < 1000) (hs : (ts.map placesI).sum = 2 ^ log.toNat) :
    Call w 259 [.ref lc, .int log tl] 5 200 [(lc, listOf vc.toArray nc)] [] (P0 fun r ex => ex = [] ∧ r = .none) := by
  k_with_none
  k_with "call ref" => ((k_here; (with_reducible show wpAny _ _ (call (Value.ref 85) _) _ _ _); k_dflt (refine' use0 (needc_call ?q1 ?q2) ?k1 ?k2 ?k3 ?k4 ?k6 ?kK ?kr ?kd ?ku ?_; (case k1 => k_asm); (case k2 => k_asm); (case k3 => k_asm); (case k4 => k_asm); (case k6 => k_asm); (case kK => first | exact rfl | assumption); (case kr => tb_rel); (case q1 => first | assumption | omega); (case q2 => first | assumption | omega); (case kd => ktr_room); (case ku => ktr_units); k_whole; refine rB ?_; intro  h9 tk9 _ F9 N9; (dsimp only [List.nil_append] at N9); (try k_sweep))))
  k_with "call ref" => ((k_here; (with_reducible show wpAny _ _ (call (Value.ref 254) _) _ _ _); k_dflt (refine' use0 (places_call ?q1 ?q2) ?k1 ?k2 ?k3 ?k4 ?k6 ?kK ?kr ?kd ?ku ?_; (case k1 => k_asm); (case k2 => k_asm); (case k3 => k_asm); (case k4 => k_asm); (case k6 => k_asm); (case kK => first | exact rfl | assumption); (case kr => tb_rel); (case q1 => first | assumption | omega); (case q2 => first | assumption | omega); (case kd => ktr_room); (case ku => ktr_units); k_whole; refine rA ?_; intro t9 h9 tk9 _ F9 N9; (dsimp only [List.nil_append] at N9); (try k_sweep))))
  k_with "call ref" => ((k_here; (with_reducible show wpAny _ _ (call (Value.ref 92) _) _ _ _); k_dflt (refine' use0 (needv_call ?q1 ?q2 ?q3 ?q4) ?k1 ?k2 ?k3 ?k4 ?k6 ?kK ?kr ?kd ?ku ?_; (case k1 => k_asm); (case k2 => k_asm); (case k3 => k_asm); (case k4 => k_asm); (case k6 => k_asm); (case kK => first | exact rfl | assumption); (case kr => tb_rel); (case q1 => first | assumption | omega); (case q2 => first | assumption | omega); (case q3 => first | assumption | omega); (case q4 => first | assumption | omega); (case kd => ktr_room); (case ku => ktr_units); k_whole; refine rB ?_; intro  h9 tk9 _ F9 N9; (dsimp only [List.nil_append] at N9); (try k_sweep))))
  unfold Call
  k_fill
  intro dp un gd cn sc a ccd cl outer A₀ base h₀ L m
  refine ps5 ?_
  intro sH0 sG0 sD0 sT0 sO0 loose mean mg mb Q B F X N T hk hrd hd1 hu hret
  (try dsimp only at F)
  (try dsimp only at N)
  (try dsimp only at hrd)
  (try dsimp only at hret)
  k_dflt (refine' enterR ?k1 ?k2 ?k3 ?k4 ?k5 ?kA ?kF ?kK ?k6 ?k7 ?k8 ?k9 ?kB ?_ ?c2 ?c3 ?c4 ?c5; (case kA => exact rfl); (case kF => exact rfl); (case kK => assumption); (case k1 => k_asm); (case k2 => k_asm); (case k3 => k_asm); (case k4 => k_asm); (case k5 => k_asm); (case k6 => k_is); (case k7 => k_is); (case k8 => ktr_room); (case k9 => first | exact BindsTo.of_eq rfl | exact binds_K (by k_in) rfl (by k_is) rfl rfl rfl); (case c5 => decide); (case kB => exact locs rfl); (case c2 => exact rfl); (case c3 => exact rfl); (case c4 => exact rfl); k_whole)
  intro g L1 h1 FG F1 N1 B1 X1 T1 keep hlt
  (try dsimp only)
  (try ((try change wpAny _ _ _ _ _ _); k_fold))
  have R : ∀ z ∈ [(lc, listOf vc.toArray nc)], g.get? z.1 = some z.2 := fun x hx => keep _ _ (hrd x hx).2 (hrd x hx).1
  have r1 := R _ (.head _)
  try dsimp only at r1
  clear R
  have L2 : g.IsList lc vc.toArray := ⟨_, r1, rfl, _, rfl⟩
  have hp9 : (2 : Int) ^ log.toNat ≤ 128 := by rcases (by omega : log = 5 ∨ log = 6 ∨ log = 7) with rfl | rfl | rfl <;> decide
  clear hrd hlt
  k_steps
  refine go ?_
  refine c1_src (by rfl) (by k_asm) (by k_asm) (.inl L2) hc (by omega) (fun c => if c < -1 then some c else none) ?turn ?done
  case turn =>
    (first | (refine rE ?_; intro g1 v tv zs I oI C oC D m₂ h tk E' hmem hC ha kFr kNews) | (rintro _ ⟨g1, rfl⟩ v tv zs I oI C oC D m₂ h tk E' hmem hC ha kFr kNews))
    have hq := hb _ hmem
    try ((try change wpAny _ _ _ _ _ _); k_fold)
    k_steps
    all_goals first
      | exact pc_end (by assumption) (by assumption) (if_neg (by omega))
      | (exfalso; omega)
  (first | (refine rE ?_; intro g1 ws hws) | (rintro _ ⟨g1, rfl⟩ ws hws))
  have hz : ts.filterMap (fun c => if c < -1 then some c else none) = [] := List.filterMap_eq_nil_iff.mpr fun c hc => if_neg (by have := hb c hc; omega)
  rw [hz] at hws; cases hws
  try ((try change wpAny _ _ _ _ _ _); k_fold)
  k_steps
  refine go ?_
  refine c0_src (by rfl) (by k_asm) (by k_asm) (.inl L2) hc (by omega) placesI ?turn2 ?done2
  case turn2 =>
    (first | (refine rE ?_; intro g1 v tv zs I oI C oC D m₂ h tk E' hmem hC ha kFr kNews) | (rintro _ ⟨g1, rfl⟩ v tv zs I oI C oC D m₂ h tk E' hmem hC ha kFr kNews))
    have hq := hb _ hmem
    try ((try change wpAny _ _ _ _ _ _); k_fold)
    k_steps
    all_goals exact pc_end (by assumption) (by assumption) ⟨_, rfl⟩
  (first | (refine rE ?_; intro g1 ws hws) | (rintro _ ⟨g1, rfl⟩ ws hws))
  try ((try change wpAny _ _ _ _ _ _); k_fold)
  k_steps
  all_goals (try (exfalso; first | exact absurd hs (by assumption) | exact absurd (hs.trans (Int.one_mul _).symm) (by assumption)))
  exact fin (muts' := []) (ex := []) hret keep (by assumption) (by assumption) (by assumption) (by assumption) (fun _ h => nomatch h) (fun _ h => nomatch h) (fun _ h => nomatch h) ⟨rfl, rfl, rfl⟩

theorem places_call' {w : World} {n : Int} {t : Tok} (hn : -1 ≤ n) (hn2 : n ≤ 1000) : Call w 254 [.int n t] 1 8 [] [] (P0 fun r ex => ex = [] ∧ ∃ t, r = .int (placesI n) t) := places_call hn hn2

theorem fresh_Cui : True := by
  k_with_none
  w_top off
  trivial
section
variable {w : World} {C fI : Addr} {pos : List Value} {c1 c2 : Nat} {reads0 : List (Addr × Obj)}
  {dp un : Nat} {gd : Option (List Code)} {cn : Str} {cs : Scope} {a : Addr} {ccd : Value} {cl : List (Str × Addr)} {outer : List Env} {A₀ : Around} {base h₀ : Heap} {L : Addr} {m : Str → Option Value} {s : Shared}
  {loose : List Str} {mean : ExcName → Option Value} {mg mb : Str → Option Value} {Q : Value → Shared → Prop} {news : List (Addr × Obj)} {P : Addr → Addr → Obj → List (Addr × Obj) → Prop}
theorem useInitR (Cx : ∀ x dx, CallR w fI (.ref x :: pos) c1 c2 ((x, instObj C dx) :: reads0) [(dx, dictOf [] 0)] (P1 dx fun r o' ex => r = .none ∧ P x dx o' ex))
    (B : Below A₀ base outer h₀) (F : Fr h₀ L s.heap m) (X : (hd.heap_1 w.params).In h₀) (N : News h₀ L s.heap news) (T : Top hd.view_1 loose mean mg mb h₀) (hk : cs.kind = .function)
    (hm : makesIn (hd.heap_1 w.params) C = true) (hi : findIn (hd.heap_1 w.params) (.ref C) "__init__" = some (some (.ref fI))) (hf : isFn (hd.heap_1 w.params) (.ref fI) = true)
    (hr : ∀ x ∈ reads0, h₀.get? x.1 = some x.2 ∨ x ∈ news) (hd1 : dp + 1 + c1 < recursionLimit) (hu : un + 10 + c2 < cLine)
    (ret : ∀ (x dx : Addr) (o' : Obj) (ex : List (Addr × Obj)) (h' : Heap) (tk' : Nat), P x dx o' ex → Fr h₀ L h' m → News h₀ L h' (ex ++ (x, instObj C dx) :: (dx, o') :: news) → (∀ p ∈ news, p.1 < dx) → dx < x → Offs ((x, instObj C dx) :: (dx, o') :: news) ex → Q (.ref x) { s with heap := h', toks := tk' }) :
    wpR (model PySem.Challenge.rw_pq1220_01.row.prog w) (ktrTop dp un gd cn cs L a ccd cl outer) (call (.ref C) pos) Q s := by
  refine call_clsR F X N hm hi hf fun x dx h' F' N' l1 l2 => ?_
  have ne : x ≠ dx := fun q => Nat.lt_irrefl _ (q ▸ l2 : @LT.lt Nat _ dx dx)
  refine codeR_mono (Cx x dx (dp + 1) (un + (Code.builtin "type.__call__" ⟨.ref C :: pos, []⟩).cUnits) (pushGuards (Code.builtin "type.__call__" ⟨.ref C :: pos, []⟩).guards gd) cn cs a ccd cl outer A₀ base h₀ L m { s with heap := h' } loose mean mg mb (fun v s' => v = .none ∧ Q (.ref x) s') B F' X (fun y hy => N' y (by rw [List.mem_singleton.mp hy]; exact .tail _ (.head _))) T hk (fun y hy => ?_) hd1 ?_ fun r mu ex h2 tk2 hp F2 N2 k hne => ?_) fun f s' z => ?_
  · rcases List.mem_cons.mp hy with rfl | hy
    · exact ⟨(N' _ (.head _)).1, fun q => ne (List.mem_singleton.mp q)⟩
    · rcases hr y hy with e | e
      · refine ⟨F'.keep _ _ e, fun q => ?_⟩
        have := (N' (dx, dictOf [] 0) (.tail _ (.head _))).2.2
        rw [List.mem_singleton.mp q] at e
        rw [show h₀.get? dx = none from this] at e; cases e
      · refine ⟨(N' y (.tail _ (.tail _ e))).1, fun q => ?_⟩
        have := l1 y e
        rw [List.mem_singleton.mp q] at this
        exact Nat.lt_irrefl _ this
  · have : (Code.builtin "type.__call__" ⟨.ref C :: pos, []⟩).cUnits ≤ 10 := Nat.le_trans (Nat.le_of_eq (rfl : _ = 1)) (by decide)
    omega
  · obtain ⟨o', rfl, rfl, hp⟩ := hp
    refine ⟨rfl, ret x dx o' ex h2 tk2 hp F2 (fun y hy => ?_) l1 l2 (offs_of fun y hy => off_of fun q hq => ?_)⟩
    · rcases List.mem_append.mp hy with hy | hy
      · exact N2 y (List.mem_append_left _ hy)
      · rcases List.mem_cons.mp hy with rfl | hy
        · exact ⟨k _ _ (fun q => ne (List.mem_singleton.mp q)) (N' _ (.head _)).1, (N' _ (.head _)).2⟩
        · rcases List.mem_cons.mp hy with rfl | hy
          · exact N2 _ (List.mem_append_right _ (.head _))
          · refine ⟨k _ _ (fun q => ?_) (N' _ (.tail _ (.tail _ hy))).1, (N' _ (.tail _ (.tail _ hy))).2⟩
            have := l1 y hy
            rw [List.mem_singleton.mp q] at this
            exact Nat.lt_irrefl _ this
    · rcases List.mem_cons.mp hq with rfl | hq
      · exact hne y hy _ _ (N' _ (.head _)).1
      · rcases List.mem_cons.mp hq with rfl | hq
        · exact hne y hy _ _ (N' (dx, dictOf [] 0) (.tail _ (.head _))).1
        · exact hne y hy _ _ (N' _ (.tail _ (.tail _ hq))).1
  · rcases f with _ | _ | _ | v
    · exact z.elim
    · exact z.elim
    · exact z.elim
    · obtain ⟨rfl, z⟩ := z; exact ⟨rfl, z⟩
end
/-- told counts, and the number and the bits that they are written in -/
inductive Enc : Int → List Int → Int → Int → Prop
  | nil : Enc 0 [] 0 0
  | some {left c : Int} {r : List Int} {V N : Int} : 1 ≤ left → left ≤ 64 → -1 ≤ c → c ≠ 0 → placesI c ≤ left → Enc (left - placesI c) r V N →
      Enc left (c :: r) (upV' (left + 1) (c + 1) + V * 2 ^ (upL (left + 1) (c + 1)).toNat) (upL (left + 1) (c + 1) + N)
  | zero {left : Int} {k : Nat} {d : Int} {r : List Int} {V N : Int} : 1 ≤ left → left ≤ 64 → d ≠ 0 → k ≤ 100 → Enc left (d :: r) V N →
      Enc left (0 :: (List.replicate k 0 ++ d :: r)) (upV' (left + 1) 1 + (runV k + V * 2 ^ (runL k).toNat) * 2 ^ (upL (left + 1) 1).toNat) (upL (left + 1) 1 + (runL k + N))
theorem upL_nonneg {m v : Int} (h0 : 2 ≤ m) (h1 : m ≤ 65) : 1 ≤ upL m v ∧ upL m v ≤ 7 := by
  have := upC_facts h0 h1
  unfold upL; split <;> omega
theorem runL_nonneg {k : Nat} : 2 ≤ runL k := by unfold runL; omega
theorem Enc.n0 {left : Int} {ts : List Int} {V N : Int} (E : Enc left ts V N) : 0 ≤ N := by
  induction E with
  | nil => exact Int.le_refl _
  | @some left c r V N h1 h2 h3 h4 h5 _ ih => have := upL_nonneg (m := left + 1) (v := c + 1) (by omega) (by omega); omega
  | @zero left k d r V N h1 h2 h3 h4 _ ih => have := upL_nonneg (m := left + 1) (v := 1) (by omega) (by omega); have := runL_nonneg (k := k); omega
theorem pow_add' {a b : Int} (h0 : 0 ≤ a) (h1 : 0 ≤ b) : (2 : Int) ^ (a + b).toNat = 2 ^ a.toNat * 2 ^ b.toNat := pow_split h0 h1

theorem fresh_Penc : True := by
  k_with_none
  w_top off
  trivial
/-! what is told can be written -/
noncomputable def LastNz (ts : List Int) : Prop := ∀ xs c, ts = xs ++ [c] → c ≠ 0
theorem LastNz.tail {c : Int} {r : List Int} (h : LastNz (c :: r)) : LastNz r := fun xs d e => h (c :: xs) d (by rw [e]; rfl)
theorem LastNz.drop {a b : List Int} (h : LastNz (a ++ b)) : LastNz b := fun xs d e => h (a ++ xs) d (by rw [e, List.append_assoc])
theorem span0 : ∀ {l : List Int}, l ≠ [] → LastNz l → ∃ k d r, l = List.replicate k 0 ++ d :: r ∧ d ≠ 0
  | x :: l, _, h => by
    by_cases hx : x = 0
    · subst hx
      have hl : l ≠ [] := fun q => h [] 0 (by rw [q]; rfl) rfl
      obtain ⟨k, d, r, e, hd⟩ := span0 hl h.tail
      exact ⟨k + 1, d, r, by rw [e]; rfl, hd⟩
    · exact ⟨0, x, l, rfl, hx⟩
theorem places_nonneg {c : Int} (h : -1 ≤ c) : 0 ≤ placesI c ∧ (c ≠ 0 → 1 ≤ placesI c) := by unfold placesI; split <;> omega
theorem places_sum : ∀ {ts : List Int}, (∀ t ∈ ts, -1 ≤ t) → 0 ≤ (ts.map placesI).sum
  | [], _ => by simp
  | c :: r, h => by
    have := places_sum fun t ht => h t (.tail _ ht)
    have := (places_nonneg (h c (.head _))).1
    simp only [List.map_cons, List.sum_cons]; omega
theorem places_zero (k : Nat) : ((List.replicate k (0 : Int)).map placesI).sum = 0 := by
  induction k with
  | zero => rfl
  | succ k ih => rw [List.replicate_succ, List.map_cons, List.sum_cons, ih]; rfl
theorem enc_of : ∀ (n : Nat) (ts : List Int), ts.length ≤ n → n ≤ 100 → (∀ t ∈ ts, -1 ≤ t) → LastNz ts → (ts.map placesI).sum ≤ 64 → ∃ V N, Enc (ts.map placesI).sum ts V N ∧ N ≤ 9 * ts.length
  | _, [], _, _, _, _, _ => ⟨0, 0, .nil, Int.le_refl _⟩
  | n + 1, c :: r, hn, hn2, hb, hl, hs => by
    have hc := hb c (.head _)
    have hbr : ∀ t ∈ r, -1 ≤ t := fun t ht => hb t (.tail _ ht)
    have hp := places_nonneg hc
    have hr0 := places_sum hbr
    simp only [List.length_cons] at hn
    simp only [List.map_cons, List.sum_cons] at hs ⊢
    by_cases h0 : c = 0
    · subst h0
      have hr : r ≠ [] := fun q => hl [] 0 (by rw [q]; rfl) rfl
      obtain ⟨k, d, r', rfl, hd⟩ := span0 hr hl.tail
      have hk : (List.replicate k (0 : Int) ++ d :: r').length = k + (r'.length + 1) := by simp
      have hm : ((List.replicate k (0 : Int) ++ d :: r').map placesI).sum = ((d :: r').map placesI).sum := by rw [List.map_append, List.sum_append, places_zero, Int.zero_add]
      rw [hm] at hs hr0 ⊢
      have hbd : ∀ t ∈ d :: r', -1 ≤ t := fun t ht => hbr t (List.mem_append_right _ ht)
      have hr1 := places_sum fun t ht => hbd t (.tail _ ht)
      have hd1 := (places_nonneg (hbd d (.head _))).2 hd
      have hz : placesI 0 = 0 := rfl
      rw [hz] at hs ⊢
      obtain ⟨V, N, E, hN⟩ := enc_of n (d :: r') (by simp only [List.length_cons]; omega) (by omega) hbd hl.tail.drop (by omega)
      have hE : 0 + ((d :: r').map placesI).sum = ((d :: r').map placesI).sum := Int.zero_add _
      rw [hE] at hs ⊢
      have h1 : 1 ≤ ((d :: r').map placesI).sum := by simp only [List.map_cons, List.sum_cons]; omega
      refine ⟨_, _, .zero h1 hs hd (by omega) E, ?_⟩
      have hu := upL_nonneg (m := ((d :: r').map placesI).sum + 1) (v := 1) (by omega) (by omega)
      simp only [List.length_cons] at hN hk ⊢
      rw [hk]
      unfold runL
      omega
    · have hp1 := hp.2 h0
      obtain ⟨V, N, E, hN⟩ := enc_of n r (by omega) (by omega) hbr hl.tail (by omega)
      have hE : placesI c + (r.map placesI).sum - placesI c = (r.map placesI).sum := by omega
      refine ⟨_, _, .some (by omega) hs hc h0 (by omega) (by rw [hE]; exact E), ?_⟩
      have hu := upL_nonneg (m := placesI c + (r.map placesI).sum + 1) (v := c + 1) (by omega) (by omega)
      simp only [List.length_cons]
      omega
theorem told_last {cs ts : List Int} {size : Int} (G : Good cs) (T : ToldOk cs ts size) : LastNz ts := by
  intro ys t e
  obtain ⟨xs, c, rfl, hc⟩ := G.last
  subst e
  have hl : xs.length = ys.length := by have := T.len; simp at this; omega
  have hm : (c, t) ∈ (xs ++ [c]).zip (ys ++ [t]) := by rw [List.zip_append hl]; exact List.mem_append_right _ (.head _)
  have := (T.at_ _ hm).1
  dsimp only at this
  omega
theorem told_places {cs ts : List Int} {size : Int} (T : ToldOk cs ts size) (hb : ∀ t ∈ ts, -1 ≤ t) : (ts.map placesI).sum = size := by
  rw [← T.sum]
  congr 1
  refine List.map_congr_left fun t ht => ?_
  have := hb t ht
  unfold placesI absI
  split <;> split <;> omega
/-- what is told of the law's counts, all in one -/
structure Told (cs ts : List Int) (log : Int) : Prop where
  ok : ToldOk cs ts (2 ^ log.toNat)
  near : NearOk cs ts log (2 ^ log.toNat)
  b : ∀ t ∈ ts, -1 ≤ t ∧ t ≤ 64
  places : (ts.map placesI).sum = 2 ^ log.toNat
  len : ts.length ≤ 32
  enc : ∃ V N, Enc (2 ^ log.toNat) ts V N ∧ N ≤ 288
theorem Good.told {cs : List Int} (G : Good cs) {log : Int} (h1 : 5 ≤ log) (h2 : log ≤ 6) : Told cs (normF cs log) log := by
  have hp : (32 : Int) ≤ 2 ^ log.toNat ∧ (2 : Int) ^ log.toNat ≤ 64 := by rcases (by omega : log = 5 ∨ log = 6) with rfl | rfl <;> decide
  have f := G.fair hp.1
  have T := told_ok f
  have hb := told_bound f
  have hpl := told_places T fun t ht => (hb t ht).1
  have hlen : (normF cs log).length ≤ 32 := by rw [normF_length]; exact G.len
  obtain ⟨V, N, E, hN⟩ := enc_of 100 (normF cs log) (by omega) (Nat.le_refl _) (fun t ht => (hb t ht).1) (told_last G T) (by omega)
  rw [hpl] at E
  exact ⟨T, near_ok (by omega) f (G.fair (pow_5 (by omega) (by omega)).1), fun t ht => by have := hb t ht; omega, hpl, hlen, V, N, E, by omega⟩

theorem fresh_Cwc : True := by
  k_with_none
  w_top off
  trivial
theorem enc_step2 {V u V' p q x y : Int} : V + u * p + x * (p * q) + V' * (p * q * y) = V + (u + (x + V' * y) * q) * p := by
  rw [Int.add_mul, Int.add_mul, Int.add_mul, Int.mul_assoc x q p, Int.mul_comm q p, Int.mul_assoc V' y q, Int.mul_assoc V' (y * q) p, Int.mul_assoc y q p, Int.mul_comm q p, Int.mul_comm y (p * q)]; omega
theorem enc_step {V u V' p q : Int} : V + u * p + V' * (p * q) = V + (u + V' * q) * p := by
  rw [Int.add_mul, Int.mul_assoc, Int.mul_comm q p]; omega
theorem drop_cons {ts : List Int} {n : Nat} {c : Int} {r : List Int} (h : ts.drop n = c :: r) : n < ts.length ∧ ts.getD n 0 = c ∧ ts.drop (n + 1) = r := by
  have h1 : n < ts.length := by
    apply Nat.not_le.mp; intro h2
    rw [List.drop_of_length_le h2] at h; cases h
  rw [List.drop_eq_getElem_cons h1] at h
  injection h with h2 h3
  exact ⟨h1, by simpa [List.getD, h1] using h2, h3⟩
theorem drop_run {ts : List Int} {n k : Nat} {d : Int} {r : List Int} (h : ts.drop n = List.replicate k 0 ++ d :: r) : (∀ j, j < k → ts.getD (n + j) 0 = 0) ∧ ts.getD (n + k) 0 = d ∧ ts.drop (n + k) = d :: r := by
  have e : ∀ j, ts.getD (n + j) 0 = (ts.drop n).getD j 0 := fun j => by simp [List.getD, List.getElem?_drop]
  refine ⟨fun j hj => ?_, ?_, ?_⟩
  · rw [e, h]; simp [List.getD, List.getElem?_append_left, hj]
  · rw [e, h]; simp [List.getD]
  · rw [← List.drop_drop, h]; simp
theorem wcounts_call {w : World} {lc : Addr} {vc : List Value} {nc : Nat} {ts : List Int} {log : Int} {tl : Tok} {Vt Nt : Int} (hc : IntsAre vc ts) (hl1 : 5 ≤ log) (hl2 : log ≤ 6) (hb : ∀ c ∈ ts, -1 ≤ c ∧ c ≤ 64) (hlen : ts.length < 100) (hs : (ts.map placesI).sum = 2 ^ log.toNat) (E : Enc (2 ^ log.toNat) ts Vt Nt) (hN : Nt < 40000) :
    CallR w 386 [.ref lc, .int log tl] 10 300 [(lc, listOf vc.toArray nc)] [] (P0 fun r ex => ex = [] ∧ ∃ arr t, r = .bytes arr t ∧ leI arr.toList = (log - 5) + Vt * 16 ∧ (arr.size : Int) = (4 + Nt + 7) / 8) := by
  k_with_none
  k_with "getMethod ref" => ((k_here; (with_reducible show wpAny _ _ (getMethod (Value.ref _) (PySem.Str.ofString "append") _) _ _ _); k_dflt (refine' ba_getMethod ?q1 ?q2 ?q3 ?_; (case q1 => exact News.get (by k_asm) (by k_mem)); (case q2 => exact rfl); (case q3 => exact rfl); k_whole)))
  k_with "call ref" => ((k_here; (with_reducible show wpAny _ _ (call (Value.ref 85) _) _ _ _); k_dflt (refine' use0 (needc_call ?q1 ?q2) ?k1 ?k2 ?k3 ?k4 ?k6 ?kK ?kr ?kd ?ku ?_; (case k1 => k_asm); (case k2 => k_asm); (case k3 => k_asm); (case k4 => k_asm); (case k6 => k_asm); (case kK => first | exact rfl | assumption); (case kr => tb_rel); (case q1 => first | assumption | omega); (case q2 => first | assumption | omega); (case kd => ktr_room); (case ku => ktr_units); k_whole; refine rB ?_; intro  h9 tk9 _ F9 N9; (dsimp only [List.nil_append] at N9); (try k_sweep))))
  k_with "call ref" => ((k_here; (with_reducible show wpAny _ _ (call (Value.ref 254) _) _ _ _); k_dflt (refine' use0 (places_call ?q1 ?q2) ?k1 ?k2 ?k3 ?k4 ?k6 ?kK ?kr ?kd ?ku ?_; (case k1 => k_asm); (case k2 => k_asm); (case k3 => k_asm); (case k4 => k_asm); (case k6 => k_asm); (case kK => first | exact rfl | assumption); (case kr => tb_rel); (case q1 => first | assumption | omega); (case q2 => first | assumption | omega); (case kd => ktr_room); (case ku => ktr_units); k_whole; refine rA ?_; intro t9 h9 tk9 _ F9 N9; (dsimp only [List.nil_append] at N9); (try k_sweep))))
  k_with "call ref" => ((k_here; (with_reducible show wpAny _ _ (call (Value.ref 92) _) _ _ _); k_dflt (refine' use0 (needv_call ?q1 ?q2 ?q3 ?q4) ?k1 ?k2 ?k3 ?k4 ?k6 ?kK ?kr ?kd ?ku ?_; (case k1 => k_asm); (case k2 => k_asm); (case k3 => k_asm); (case k4 => k_asm); (case k6 => k_asm); (case kK => first | exact rfl | assumption); (case kr => tb_rel); (case q1 => first | assumption | omega); (case q2 => first | assumption | omega); (case q3 => first | assumption | omega); (case q4 => first | assumption | omega); (case kd => ktr_room); (case ku => ktr_units); k_whole; refine rB ?_; intro  h9 tk9 _ F9 N9; (dsimp only [List.nil_append] at N9); (try k_sweep))))
  k_with "call ref" => ((k_here; (with_reducible show wpAny _ _ (call (Value.ref 254) _) _ _ _); k_dflt (refine' use0 (places_call' ?q1 ?q2) ?k1 ?k2 ?k3 ?k4 ?k6 ?kK ?kr ?kd ?ku ?_; (case k1 => k_asm); (case k2 => k_asm); (case k3 => k_asm); (case k4 => k_asm); (case k6 => k_asm); (case kK => first | exact rfl | assumption); (case kr => tb_rel); (case q1 => first | assumption | omega); (case q2 => first | assumption | omega); (case kd => ktr_room); (case ku => ktr_units); k_whole; refine rA ?_; intro t9 h9 tk9 _ F9 N9; (dsimp only [List.nil_append] at N9); (try k_sweep))))
  unfold CallR
  k_fill
  intro dp un gd cn sc a ccd cl outer A₀ base h₀ L m
  refine ps5 ?_
  intro sH0 sG0 sD0 sT0 sO0 loose mean mg mb Q B F X N T hk hrd hd1 hu hret
  (try dsimp only at F)
  (try dsimp only at N)
  (try dsimp only at hrd)
  (try dsimp only at hret)
  k_dflt (refine' enterRR ?k1 ?k2 ?k3 ?k4 ?k5 ?kA ?kF ?kK ?k6 ?k7 ?k8 ?k9 ?kB ?_ ?c2 ?c3 ?c4 ?c5; (case kA => exact rfl); (case kF => exact rfl); (case kK => assumption); (case k1 => k_asm); (case k2 => k_asm); (case k3 => k_asm); (case k4 => k_asm); (case k5 => k_asm); (case k6 => k_is); (case k7 => k_is); (case k8 => ktr_room); (case k9 => first | exact BindsTo.of_eq rfl | exact binds_K (by k_in) rfl (by k_is) rfl rfl rfl); (case c5 => decide); (case kB => exact locs rfl); (case c2 => exact rfl); (case c3 => exact rfl); (case c4 => exact rfl); k_whole)
  intro g L1 h1 FG F1 N1 B1 X1 T1 keep hlt
  (try dsimp only)
  (try ((try change wpAny _ _ _ _ _ _); k_fold))
  have R : ∀ z ∈ [(lc, listOf vc.toArray nc)], g.get? z.1 = some z.2 := fun x hx => keep _ _ (hrd x hx).2 (hrd x hx).1
  have r1 := R _ (.head _)
  try dsimp only at r1
  clear R
  have L2 : g.IsList lc vc.toArray := ⟨_, r1, rfl, _, rfl⟩
  have hp9 : (2 : Int) ^ log.toNat ≤ 64 := by rcases (by omega : log = 5 ∨ log = 6) with rfl | rfl <;> decide
  clear hrd hlt
  refine plainR ?_
  k_steps
  refine' use0 (fault_call hc (by omega) (by omega) (fun c h => by have := hb c h; omega) (by omega) hs) ?i1 ?i2 ?i3 ?i4 ?i6 ?iK ?ir ?id ?iv ?_
  case i1 => k_asm
  case i2 => k_asm
  case i3 => k_asm
  case i4 => k_asm
  case i6 => k_asm
  case iK => rfl
  case ir => exact List.forall_mem_cons.mpr ⟨Fr.keep (by k_asm) _ _ r1, fun _ h => nomatch h⟩
  case id => ktr_room
  case iv => ktr_units
  refine rB ?_; intro  h7 tk7 _ F7 N7
  dsimp only [List.nil_append] at N7
  k_steps
  dsimp only
  refine plainR ?_
  k_steps
  dsimp only
  refine execs_consR (AssignR (CallR_ ?_))
  k_steps
  refine callWithR0 (K := hd.heap_1 w.params) (X1.keeps (Fr.keep (by k_asm))) (by k_is) ?_
  dsimp only [List.append_nil]
  refine' useInitR (fun x dx => initW_call) ?k1 ?k2 ?k3 ?k4 ?k6 ?kK ?k7 ?k8 ?k9 ?kr ?kd ?ku ?_
  case k1 => k_asm
  case k2 => k_asm
  case k3 => k_asm
  case k4 => k_asm
  case k6 => k_asm
  case kK => rfl
  case k7 => k_is
  case k8 => k_is
  case k9 => k_is
  case kr => exact fun _ h => nomatch h
  case kd => ktr_room
  case ku => ktr_units
  rintro x dx o9 ex9 h9 tk9 ⟨b, k1, k2, k3, t1, t2, rfl, rfl⟩ F9 N9 l1 l2 off9
  simp only [Offs, LCg.Off1, and_true] at off9
  dsimp only [List.cons_append, List.nil_append] at N9
  have nxd : @Ne Nat x dx := fun q => Nat.lt_irrefl _ (q ▸ l2 : @LT.lt Nat _ dx dx)
  try k_lt l1
  try k_lt2 l2
  k_with_none
  k_with "getMethod ref" => ((k_here; (with_reducible show wpAny _ _ (getMethod (Value.ref _) (PySem.Str.ofString "append") _) _ _ _); k_dflt (refine' ba_getMethod ?q1 ?q2 ?q3 ?_; (case q1 => exact News.get (by k_asm) (by k_mem)); (case q2 => exact rfl); (case q3 => exact rfl); k_whole)))
  k_with "call ref" => ((k_here; (with_reducible show wpAny _ _ (call (Value.ref 85) _) _ _ _); k_dflt (refine' use0 (needc_call ?q1 ?q2) ?k1 ?k2 ?k3 ?k4 ?k6 ?kK ?kr ?kd ?ku ?_; (case k1 => k_asm); (case k2 => k_asm); (case k3 => k_asm); (case k4 => k_asm); (case k6 => k_asm); (case kK => first | exact rfl | assumption); (case kr => tb_rel); (case q1 => first | assumption | omega); (case q2 => first | assumption | omega); (case kd => ktr_room); (case ku => ktr_units); k_whole; refine rB ?_; intro  h9 tk9 _ F9 N9; (dsimp only [List.nil_append] at N9); (try k_sweep))))
  k_with "call ref" => ((k_here; (with_reducible show wpAny _ _ (call (Value.ref 254) _) _ _ _); k_dflt (refine' use0 (places_call ?q1 ?q2) ?k1 ?k2 ?k3 ?k4 ?k6 ?kK ?kr ?kd ?ku ?_; (case k1 => k_asm); (case k2 => k_asm); (case k3 => k_asm); (case k4 => k_asm); (case k6 => k_asm); (case kK => first | exact rfl | assumption); (case kr => tb_rel); (case q1 => first | assumption | omega); (case q2 => first | assumption | omega); (case kd => ktr_room); (case ku => ktr_units); k_whole; refine rA ?_; intro t9 h9 tk9 _ F9 N9; (dsimp only [List.nil_append] at N9); (try k_sweep))))
  k_with "call ref" => ((k_here; (with_reducible show wpAny _ _ (call (Value.ref 92) _) _ _ _); k_dflt (refine' use0 (needv_call ?q1 ?q2 ?q3 ?q4) ?k1 ?k2 ?k3 ?k4 ?k6 ?kK ?kr ?kd ?ku ?_; (case k1 => k_asm); (case k2 => k_asm); (case k3 => k_asm); (case k4 => k_asm); (case k6 => k_asm); (case kK => first | exact rfl | assumption); (case kr => tb_rel); (case q1 => first | assumption | omega); (case q2 => first | assumption | omega); (case q3 => first | assumption | omega); (case q4 => first | assumption | omega); (case kd => ktr_room); (case ku => ktr_units); k_whole; refine rB ?_; intro  h9 tk9 _ F9 N9; (dsimp only [List.nil_append] at N9); (try k_sweep))))
  k_with "call ref" => ((k_here; (with_reducible show wpAny _ _ (call (Value.ref 254) _) _ _ _); k_dflt (refine' use0 (places_call' ?q1 ?q2) ?k1 ?k2 ?k3 ?k4 ?k6 ?kK ?kr ?kd ?ku ?_; (case k1 => k_asm); (case k2 => k_asm); (case k3 => k_asm); (case k4 => k_asm); (case k6 => k_asm); (case kK => first | exact rfl | assumption); (case kr => tb_rel); (case q1 => first | assumption | omega); (case q2 => first | assumption | omega); (case kd => ktr_room); (case ku => ktr_units); k_whole; refine rA ?_; intro t9 h9 tk9 _ F9 N9; (dsimp only [List.nil_append] at N9); (try k_sweep))))
  k_steps
  obtain ⟨nxb, hne⟩ := off9
  dsimp only
  refine execs_consR (ExprR (MethodCallR ?_)); k_steps; dsimp only; k_dflt (refine' callWithR ?k1 ?k2 ?_; (case k1 => k_asm); (case k2 => k_is); k_whole); k_steps
  have W0 : WSt #[] 0 0 0 0 := ⟨Int.le_refl _, by decide, Int.le_refl _, by decide, rfl, rfl⟩
  refine' use2R (bits_call' W0 (by decide) (by omega) (show log - 5 < 2 ^ (4 : Int).toNat by (have : (2 : Int) ^ (4 : Int).toNat = 16 := rfl); omega) (by decide) (by decide) hne) ?v1 ?v2 ?v3 ?v4 ?vu ?v6 ?vK ?vr ?vd ?vv ?_; (case v1 => k_asm); (case v2 => k_asm); (case v3 => k_asm); (case v4 => k_asm); (case vu => exact UpdF2.head2 hne (List.forall_mem_cons.mpr ⟨nxb, List.forall_mem_cons.mpr ⟨hne, fun _ h => nomatch h⟩⟩) (.tail nxd (.head fun _ h => nomatch h))); (case v6 => k_asm); (case vK => rfl); (case vr => exact List.forall_mem_cons.mpr ⟨⟨News.get (by k_asm) (.tail _ (.head _)), nxd, nxb⟩, fun _ h => nomatch h⟩); (case vd => ktr_room); (case vv => ktr_units)
  refine rW ?_; intro r8 arr2 held2 hb2 t3 t4 W2 h8 tk8 _ F8 N8
  dsimp only [List.nil_append] at N8
  dsimp only
  refine plainR ?_
  k_steps
  dsimp only
  refine execs_consR ?_
  rename Fr _ _ _ _ => lF'
  rename News _ _ _ _ => lN'
  with_unfolding_all refine' whileK (rfl) (σ := (Int × Tok) × (Int × Tok) × (Array UInt8 × Int × Int) × (Tok × Tok) × (Int × Int)) (fun c => [(b, baOf c.2.2.1.1), (x, instObj 165 dx), (dx, wDict w b k1 k2 k3 c.2.2.1.2.1 c.2.2.1.2.2 c.2.2.2.1.1 c.2.2.2.1.2)]) (fun c => [(Str.ofString "symbol", .int c.1.1 c.1.2), (Str.ofString "left", .int c.2.1.1 c.2.1.2)]) (fun _ => True) [Str.ofString "count", Str.ofString "end"] (fun c => 0 ≤ c.1.1 ∧ c.1.1 ≤ ts.length ∧ c.2.1.1 ≤ 64 ∧ WSt c.2.2.1.1 c.2.2.1.2.1 c.2.2.1.2.2 c.2.2.2.2.1 c.2.2.2.2.2 ∧ ∃ Ve Ne, Enc c.2.1.1 (ts.drop c.1.1.toNat) Ve Ne ∧ c.2.2.2.2.1 + Ve * 2 ^ c.2.2.2.2.2.toNat = (log - 5) + Vt * 16 ∧ c.2.2.2.2.2 + Ne = 4 + Nt) (fun c => (ts.length - c.1.1).toNat) ((0, _), (1 * 2 ^ log.toNat, _), (arr2, held2, hb2), (t3, t4), (_, _)) lF' (fun p hp => lN' p (.tail _ hp)) trivial ?kk ⟨Int.le_refl _, Int.natCast_nonneg _, by dsimp only; omega, W2, Vt, Nt, by rw [Int.one_mul]; exact E, ?p1, ?p2⟩ ?turn
  case kk => kst_all
  case p1 =>
    dsimp only
    rw [show (2 : Int) ^ (0 : Int).toNat = 1 from rfl, show (2 : Int) ^ (0 + 4 : Int).toNat = 16 from rfl]; omega
  case p2 => dsimp only; omega
  case turn =>
    (first | (refine pz9 ?_; intro sy tsy left tlf arr1 held1 hb1' ta tb V1 Z1' u h tk cl1; clear cl1; refine an_ppppeeppp ?_; intro q1 q2 q3 q4 Ve Ne q5 q6 q7 kFr kNews) | (rintro ⟨⟨sy, tsy⟩, ⟨left, tlf⟩, ⟨arr1, held1, hb1'⟩, ⟨ta, tb⟩, ⟨V1, Z1'⟩⟩ u h tk - ⟨q1, q2, q3, q4, Ve, Ne, q5, q6, q7⟩ kFr kNews))
    clear lF' lN'
    dsimp only [kstB] at kFr
    dsimp only at kNews q1 q2 q3 q4 q5 q6 q7
    have hZ0 := q4.n0
    have hN0 := q5.n0
    try ((try change wpAny _ _ _ _ _ _); k_fold)
    k_steps
    · generalize hd : ts.drop sy.toNat = rest at q5
      cases q5 with
      | nil => exfalso; omega
      | @some _ c r V' N' g1 g2 g3 g4 g5 E' =>
        obtain ⟨d1, d2, d3⟩ := drop_cons hd
        refine plainR ?_
        k_steps
        dsimp only
        rw [d2] at *
        have g7 : 1 ≤ placesI c := by unfold placesI; split <;> omega
        have g6 : c ≤ left := by unfold placesI at g5; split at g5 <;> omega
        refine execs_consR (ExprR (CallR_ ?_))
        k_steps
        k_dflt (refine' callWithR ?k1 ?k2 ?_; (case k1 => k_asm); (case k2 => k_is); k_whole)
        k_steps
        (try dsimp only [List.nil_append])
        refine' use2R (upto_call q4 (by omega) (show 0 ≤ c + 1 by omega) (show c + 1 ≤ left + 1 by omega) (by omega) (by omega) hne) ?v1 ?v2 ?v3 ?v4 ?vu ?v6 ?vK ?vr ?vd ?vv ?_; (case v1 => k_asm); (case v2 => k_asm); (case v3 => k_asm); (case v4 => k_asm); (case vu => exact UpdF2.head2 hne (List.forall_mem_cons.mpr ⟨nxb, List.forall_mem_cons.mpr ⟨hne, fun _ h => nomatch h⟩⟩) (.tail nxd (.head fun _ h => nomatch h))); (case v6 => k_asm); (case vK => rfl); (case vr => exact List.forall_mem_cons.mpr ⟨⟨News.get (by k_asm) (.tail _ (.head _)), nxd, nxb⟩, fun _ h => nomatch h⟩); (case vd => ktr_room); (case vv => ktr_units)
        refine rW ?_; intro r9 arr3 held3 hb3 t5 t6 W3 h9 tk9 _ F9 N9
        dsimp only [List.nil_append] at N9
        dsimp only
        refine plainR ?_
        k_steps
        dsimp only
        refine plainR ?_
        k_steps
        dsimp only
        refine execs_consR (IfR (wpR_of ?_))
        k_steps
        all_goals (try (exact absurd (by assumption) g4))
        refine plainEnd ?_
        k_steps
        refine plainEnd ?_
        k_steps
        refine ksw_end ((sy + 1, _), (left - placesI c, _), (arr3, held3, hb3), (t5, t6), (_, _)) (by assumption) (by assumption) (fun p hp => hp) trivial (by kst_all) (by ksw_same) ⟨by dsimp only; omega, by dsimp only; omega, by dsimp only; omega, W3, V', N', ?e1, ?e2, ?e3⟩ (by dsimp only; omega)
        case e1 => dsimp only; rw [show (sy + 1).toNat = sy.toNat + 1 by omega, d3]; exact E'
        case e2 => dsimp only; rw [pow_add' hZ0 (by have := upL_nonneg (m := left + 1) (v := c + 1) (by omega) (by omega); omega), enc_step]; exact q6
        case e3 => dsimp only; omega
      | @zero _ k d r V' N' g1 g2 g4 g5 E' =>
        obtain ⟨d1, d2, d3⟩ := drop_cons hd
        have hk9 : sy + 1 + k < ts.length := by
          have := congrArg List.length d3
          simp only [List.length_drop, List.length_append, List.length_replicate, List.length_cons] at this
          omega
        have HZ : Hold (∀ e : Int, sy + 1 ≤ e → e ≤ sy + 1 + k → (ts.getD e.toNat 0 = 0 ↔ e < sy + 1 + k)) := go fun e e1 e2 => by
          obtain ⟨z1, z2, z3⟩ := drop_run d3
          by_cases q : e < sy + 1 + k
          · have := z1 (e - (sy + 1)).toNat (by omega)
            rw [show sy.toNat + 1 + (e - (sy + 1)).toNat = e.toNat by omega] at this
            exact ⟨fun _ => q, fun _ => this⟩
          · rw [show sy.toNat + 1 + k = e.toNat by omega] at z2
            exact ⟨fun h => absurd (z2.symm.trans h) g4, fun h => absurd h q⟩
        have HD : Hold (ts.drop (sy + 1 + k).toNat = d :: r) := go (by
          obtain ⟨z1, z2, z3⟩ := drop_run d3
          rwa [show sy.toNat + 1 + k = (sy + 1 + k).toNat by omega] at z3)
        clear d3 hd d1
        refine plainR ?_
        k_steps
        dsimp only
        rw [d2] at *
        refine execs_consR (ExprR (CallR_ ?_))
        k_steps
        k_dflt (refine' callWithR ?k1 ?k2 ?_; (case k1 => k_asm); (case k2 => k_is); k_whole)
        k_steps
        (try dsimp only [List.nil_append])
        refine' use2R (upto_call q4 (by omega) (show 0 ≤ 0 + 1 by decide) (show 0 + 1 ≤ left + 1 by omega) (by omega) (by omega) hne) ?v1 ?v2 ?v3 ?v4 ?vu ?v6 ?vK ?vr ?vd ?vv ?_; (case v1 => k_asm); (case v2 => k_asm); (case v3 => k_asm); (case v4 => k_asm); (case vu => exact UpdF2.head2 hne (List.forall_mem_cons.mpr ⟨nxb, List.forall_mem_cons.mpr ⟨hne, fun _ h => nomatch h⟩⟩) (.tail nxd (.head fun _ h => nomatch h))); (case v6 => k_asm); (case vK => rfl); (case vr => exact List.forall_mem_cons.mpr ⟨⟨News.get (by k_asm) (.tail _ (.head _)), nxd, nxb⟩, fun _ h => nomatch h⟩); (case vd => ktr_room); (case vv => ktr_units)
        refine rW ?_; intro r9 arr3 held3 hb3 t5 t6 W3 h9 tk9 _ F9 N9
        dsimp only [List.nil_append] at N9
        dsimp only
        refine plainR ?_
        k_steps
        dsimp only
        refine plainR ?_
        k_steps
        dsimp only
        refine execs_consR (IfR (wpR_of ?_))
        k_steps
        refine plainR ?_
        k_steps
        dsimp only
        refine plainR ?_
        rename Fr _ _ _ _ => lF'
        rename News _ _ _ _ => lN'
        with_unfolding_all refine' ksw_while (σ := Int × Tok) (fun _ => [(b, baOf arr3), (x, instObj 165 dx), (dx, wDict w b k1 k2 k3 held3 hb3 t5 t6)]) (fun c => [(Str.ofString "end", .int c.1 c.2)]) (fun _ => True) [] (fun c => sy + 1 ≤ c.1 ∧ c.1 ≤ sy + 1 + k) (fun c => (sy + 1 + k - c.1).toNat) (sy + 1, _) lF' lN' trivial ?kk ⟨Int.le_refl _, by dsimp only; omega⟩ ?turn (by with_unfolding_all passes_own)
        case kk => kst_all
        case turn =>
          (first | (refine pz4 ?_; intro en te u2 h2 tk2 cl1; clear cl1; refine an_pp ?_; intro y1 y2 kFr2 kNews2) | (rintro ⟨en, te⟩ u2 h2 tk2 - ⟨y1, y2⟩ kFr2 kNews2))
          clear lF' lN'
          dsimp only [kstB] at kFr2
          dsimp only at kNews2 y1 y2
          try ((try change wpAny _ _ _ _ _ _); k_fold)
          iterate 18 walk1
          · rename ts.getD en.toNat 0 = 0 => h0
            have h1 := (hold HZ en y1 y2).mp h0
            refine ksw_end (en + 1, _) (by assumption) (by assumption) (fun p hp => hp) trivial (by kst_all) (by ksw_same) ⟨by dsimp only; omega, ?_⟩ (by dsimp only; omega)
            dsimp only; omega
          rename ts.getD en.toNat 0 ≠ 0 => h0
          have hE9 : en = sy + 1 + k := by
            apply Classical.byContradiction; intro q
            exact h0 ((hold HZ en y1 y2).mpr (by omega))
          clear h0 HZ
          subst hE9
          dsimp only
          have hN2 := E'.n0
          have hp0 : placesI 0 = 0 := rfl
          rw [show (0 : Int) + 1 = 1 from rfl] at W3
          have hu9 := upL_nonneg (m := left + 1) (v := 1) (by omega) (by omega)
          have hr9 := runL_nonneg (k := k)
          refine execs_consR (ExprR (CallR_ ?_))
          k_steps
          k_dflt (refine' callWithR ?k1 ?k2 ?_; (case k1 => k_asm); (case k2 => k_is); k_whole)
          k_steps
          (try dsimp only [List.nil_append])
          refine' use2R (run_call W3 (by omega) (show 0 ≤ sy + 1 + k - (sy + 1) by omega) (by omega) hne) ?v1 ?v2 ?v3 ?v4 ?vu ?v6 ?vK ?vr ?vd ?vv ?_; (case v1 => k_asm); (case v2 => k_asm); (case v3 => k_asm); (case v4 => k_asm); (case vu => exact UpdF2.head2 hne (List.forall_mem_cons.mpr ⟨nxb, List.forall_mem_cons.mpr ⟨hne, fun _ h => nomatch h⟩⟩) (.tail nxd (.head fun _ h => nomatch h))); (case v6 => k_asm); (case vK => rfl); (case vr => exact List.forall_mem_cons.mpr ⟨⟨News.get (by k_asm) (.tail _ (.head _)), nxd, nxb⟩, fun _ h => nomatch h⟩); (case vd => ktr_room); (case vv => ktr_units)
          refine rW ?_; intro r6 arr4 held4 hb4 t7 t8 W4 h6 tk6 _ F6 N6
          dsimp only [List.nil_append] at N6
          rw [show sy + 1 + k - (sy + 1) = (k : Int) by omega] at W4
          dsimp only
          refine plainEnd ?_
          k_steps
          refine plainEnd ?_
          k_steps
          refine ksw_end ((sy + 1 + k, _), (left - placesI 0, _), (arr4, held4, hb4), (t7, t8), (_, _)) (by assumption) (by assumption) (fun p hp => hp) trivial (by kst_all) (by ksw_same) ⟨by dsimp only; omega, by dsimp only; omega, by dsimp only; omega, W4, V', N', ?e1, ?e2, ?e3⟩ (by dsimp only; omega)
          case e1 => dsimp only; rw [hold HD, show left - placesI 0 = left from Int.sub_zero _]; exact E'
          case e2 => dsimp only; rw [pow_add' (a := Z1' + upL (left + 1) 1) (b := runL k) (by omega) (by omega), pow_add' (a := Z1') hZ0 (by omega), ← q6, enc_step2]
          case e3 => dsimp only; omega
    · have hl0 : left = 0 ∧ Ve = 0 ∧ Ne = 0 := by
        generalize ts.drop sy.toNat = rest at q5
        cases q5 with
        | nil => exact ⟨rfl, rfl, rfl⟩
        | some g1 => exfalso; omega
        | zero g1 => exfalso; omega
      obtain ⟨rfl, rfl, rfl⟩ := hl0
      have hs9 : arr1.size < 10000 := by have := q4.len; have := q4.b0; unfold wLen at *; omega
      try dsimp only
      refine plainEnd ?_
      k_steps
      refine' use0 (done_call q4.h0 q4.h1 q4.b0 q4.b1 hs9) ?i1 ?i2 ?i3 ?i4 ?i6 ?iK ?ir ?id ?iv ?_
      case i1 => k_asm
      case i2 => k_asm
      case i3 => k_asm
      case i4 => k_asm
      case i6 => k_asm
      case iK => rfl
      case ir => tb_rel
      case id => ktr_room
      case iv => ktr_units
      refine rY ?_; intro arr9 t9 y1 y2 h9 tk9 _ F9 N9
      k_steps
      exact fin (Q := okR Q) (muts' := []) (ex := []) hret keep (by assumption) (by assumption) (by assumption) (by assumption) (fun _ h => nomatch h) (fun _ h => nomatch h) (fun _ h => nomatch h) ⟨rfl, rfl, arr9, t9, rfl, by rw [y1, q4.val]; omega, by rw [y2, q4.len]; omega⟩

theorem fresh_Crc : True := by
  k_with_none
  w_top off
  trivial
section
variable {prog : Program} {w : World} {A : Around} {E : Value → Shared → Prop} {s : Shared} {h₀ : Heap} {L D b : Addr} {m : Str → Option Value} {news : List (Addr × Obj)} {vs ws : List Value} {n n2 : Nat}
/-- a list is led on by another one -/
theorem ext_any {Q : Value → Shared → Prop} {nw : Obj → List (Addr × Obj)} (F : Fr h₀ L s.heap m) (N : News h₀ L s.heap news) (hb : (b, listOf ws.toArray n2) ∈ news)
    (U : ∀ o', Upd D (listOf vs.toArray n) o' news (nw o')) (hz : vs.length + ws.length ≤ 1000)
    (h : ∀ h' k, Fr h₀ L h' m → News h₀ L h' (nw (listOf (vs ++ ws).toArray k)) → Q .none { s with heap := h' }) : wpAny (model prog w) A (call (.builtin "list.extend") [.ref D, .ref b]) Q E s := by
  have h1 : ¬(!vs.toArray.isEmpty && Builtin.List.listTooLong (vs.toArray.size + ws.toArray.size)) = true := by
    simp [Builtin.List.listTooLong, sizeLine_eq]
    intros; omega
  by_cases e0 : ws = []
  · subst e0
    refine kxn_extend F N hb rfl (U _) h1 (by rw [sizeLine_eq]; simp at hz ⊢; omega) (by rw [sizeLine_eq]; simp at hz ⊢; omega) fun h' F' N' => h h' n F' (by simpa using N')
  · refine kl_extend F N hb (l := vs ++ ws) (by simp) (by simpa using e0) (U _) h1 (by rw [sizeLine_eq]; simp at hz ⊢; omega) (by rw [sizeLine_eq]; simp at hz ⊢; omega) fun h' F' N' => h h' (n + 1) F' N'
end
theorem ints_app {vs ws : List Value} {xs ys : List Int} (h1 : IntsAre vs xs) (h2 : IntsAre ws ys) : IntsAre (vs ++ ws) (xs ++ ys) := by
  induction h1 with
  | nil => exact h2
  | cons n t _ ih => exact .cons n t ih
theorem rcounts_call {w : World} {xo dq : Addr} {arr : Array UInt8} {ks ts : List Int} {tb j1 j2 j3 u1 u2 tl tm : Tok} {log V Nv : Int} (hk9 : KBw.bInts arr = ks) (hz : ks.length < 10000) (hl1 : 5 ≤ log) (hl2 : log ≤ 6) (hb : ∀ c ∈ ts, -1 ≤ c ∧ c ≤ 64) (hlen : ts.length < 100) (E : Enc (2 ^ log.toNat) ts V Nv) (hV : leZ ks = (log - 5) + V * 16) (hN : 4 + Nv ≤ 8 * ks.length) :
    Call w 365 [.ref xo, .int log tl, .int (ts.length - 1) tm] 12 300 [(xo, instObj 243 dq)] [(dq, oDict w arr tb j1 j2 j3 0 u1 u2)] (P1 dq fun r o' ex => ∃ pl' u2' d d2 vs k t, o' = oDict w arr tb j1 j2 j3 pl' u1 u2' ∧ ex = [(d, { cls := .type "tuple", data := .seq #[.ref d2, .int log t] }), (d2, listOf vs.toArray k)] ∧ r = .ref d ∧ IntsAre vs ts) := by
  k_with_none
  k_with "getMethod ref" => ((k_here; (with_reducible show wpAny _ _ (getMethod (Value.ref _) (PySem.Str.ofString "append") _) _ _ _); k_dflt (refine' ba_getMethod ?q1 ?q2 ?q3 ?_; (case q1 => exact News.get (by k_asm) (by k_mem)); (case q2 => exact rfl); (case q3 => exact rfl); k_whole)))
  k_with "call ref" => ((k_here; (with_reducible show wpAny _ _ (call (Value.ref 85) _) _ _ _); k_dflt (refine' use0 (needc_call ?q1 ?q2) ?k1 ?k2 ?k3 ?k4 ?k6 ?kK ?kr ?kd ?ku ?_; (case k1 => k_asm); (case k2 => k_asm); (case k3 => k_asm); (case k4 => k_asm); (case k6 => k_asm); (case kK => first | exact rfl | assumption); (case kr => tb_rel); (case q1 => first | assumption | omega); (case q2 => first | assumption | omega); (case kd => ktr_room); (case ku => ktr_units); k_whole; refine rB ?_; intro  h9 tk9 _ F9 N9; (dsimp only [List.nil_append] at N9); (try k_sweep))))
  k_with "call ref" => ((k_here; (with_reducible show wpAny _ _ (call (Value.ref 254) _) _ _ _); k_dflt (refine' use0 (places_call ?q1 ?q2) ?k1 ?k2 ?k3 ?k4 ?k6 ?kK ?kr ?kd ?ku ?_; (case k1 => k_asm); (case k2 => k_asm); (case k3 => k_asm); (case k4 => k_asm); (case k6 => k_asm); (case kK => first | exact rfl | assumption); (case kr => tb_rel); (case q1 => first | assumption | omega); (case q2 => first | assumption | omega); (case kd => ktr_room); (case ku => ktr_units); k_whole; refine rA ?_; intro t9 h9 tk9 _ F9 N9; (dsimp only [List.nil_append] at N9); (try k_sweep))))
  k_with "call ref" => ((k_here; (with_reducible show wpAny _ _ (call (Value.ref 92) _) _ _ _); k_dflt (refine' use0 (needv_call ?q1 ?q2 ?q3 ?q4) ?k1 ?k2 ?k3 ?k4 ?k6 ?kK ?kr ?kd ?ku ?_; (case k1 => k_asm); (case k2 => k_asm); (case k3 => k_asm); (case k4 => k_asm); (case k6 => k_asm); (case kK => first | exact rfl | assumption); (case kr => tb_rel); (case q1 => first | assumption | omega); (case q2 => first | assumption | omega); (case q3 => first | assumption | omega); (case q4 => first | assumption | omega); (case kd => ktr_room); (case ku => ktr_units); k_whole; refine rB ?_; intro  h9 tk9 _ F9 N9; (dsimp only [List.nil_append] at N9); (try k_sweep))))
  k_with "call ref" => ((k_here; (with_reducible show wpAny _ _ (call (Value.ref 254) _) _ _ _); k_dflt (refine' use0 (places_call' ?q1 ?q2) ?k1 ?k2 ?k3 ?k4 ?k6 ?kK ?kr ?kd ?ku ?_; (case k1 => k_asm); (case k2 => k_asm); (case k3 => k_asm); (case k4 => k_asm); (case k6 => k_asm); (case kK => first | exact rfl | assumption); (case kr => tb_rel); (case q1 => first | assumption | omega); (case q2 => first | assumption | omega); (case kd => ktr_room); (case ku => ktr_units); k_whole; refine rA ?_; intro t9 h9 tk9 _ F9 N9; (dsimp only [List.nil_append] at N9); (try k_sweep))))
  unfold Call
  k_fill
  intro dp un gd cn sc a ccd cl outer A₀ base h₀ L m
  refine ps5 ?_
  intro sH0 sG0 sD0 sT0 sO0 loose mean mg mb Q B F X N T hk hrd hd1 hu hret
  (try dsimp only at F)
  (try dsimp only at N)
  (try dsimp only at hrd)
  (try dsimp only at hret)
  k_dflt (refine' enterR ?k1 ?k2 ?k3 ?k4 ?k5 ?kA ?kF ?kK ?k6 ?k7 ?k8 ?k9 ?kB ?_ ?c2 ?c3 ?c4 ?c5; (case kA => exact rfl); (case kF => exact rfl); (case kK => assumption); (case k1 => k_asm); (case k2 => k_asm); (case k3 => k_asm); (case k4 => k_asm); (case k5 => k_asm); (case k6 => k_is); (case k7 => k_is); (case k8 => ktr_room); (case k9 => first | exact BindsTo.of_eq rfl | exact binds_K (by k_in) rfl (by k_is) rfl rfl rfl); (case c5 => decide); (case kB => exact locs rfl); (case c2 => exact rfl); (case c3 => exact rfl); (case c4 => exact rfl); k_whole)
  intro g L1 h1 FG F1 N1 B1 X1 T1 keep hlt
  (try dsimp only)
  (try ((try change wpAny _ _ _ _ _ _); k_fold))
  have RR : ∀ z ∈ [(xo, instObj 243 dq)], g.get? z.1 = some z.2 := fun x hx => keep _ _ (hrd x hx).2 (hrd x hx).1
  have r2 := RR _ (.head _)
  try dsimp only at r2
  clear RR
  clear hrd hlt
  have W0 : RSt ks 0 0 0 (leZ ks) (8 * ks.length) := ⟨Int.le_refl _, Int.natCast_nonneg _, Int.le_refl _, by decide, Int.le_refl _, by decide, by rw [show (2 : Int) ^ (0 : Int).toNat = 1 from rfl]; show 0 + 1 * leZ ks = _; omega, by omega⟩
  k_steps
  refine' useInit (fun x dx => initC_call) ?k1 ?k2 ?k3 ?k4 ?k6 ?kK ?k7 ?k8 ?k9 ?kr ?kd ?ku ?_
  case k1 => k_asm
  case k2 => k_asm
  case k3 => k_asm
  case k4 => k_asm
  case k6 => k_asm
  case kK => rfl
  case k7 => k_is
  case k8 => k_is
  case k9 => k_is
  case kr => exact fun _ h => nomatch h
  case kd => ktr_room
  case ku => ktr_units
  rintro xc dc o9 ex9 h9 tk9 ⟨k1, k2, k3, t1, t2, rfl, rfl⟩ F9 N9 l1 l2 off9
  have hcq : @LT.lt Nat _ dq dc := l1 _ (.head _)
  have nxc : @Ne Nat xc dc := fun q => Nat.lt_irrefl _ (q ▸ l2 : @LT.lt Nat _ dc dc)
  have nxq : @Ne Nat xc dq := fun q => Nat.lt_irrefl dc (Nat.lt_trans (q ▸ l2 : @LT.lt Nat _ dc dq) hcq)
  have hne : @Ne Nat dc dq := fun q => Nat.lt_irrefl _ (q ▸ hcq : @LT.lt Nat _ dc dc)
  dsimp only [List.cons_append, List.nil_append] at N9
  clear l1 l2 off9
  k_steps
  refine' use2 (takeC_call hk9 hz W0 (show 0 ≤ 4 by decide) (by decide) (show 4 ≤ 8 * (ks.length : Int) by have := E.n0; omega) hne) ?v1 ?v2 ?v3 ?v4 ?vu ?v6 ?vK ?vr ?vd ?vv ?_; (case v1 => k_asm); (case v2 => k_asm); (case v3 => k_asm); (case v4 => k_asm); (case vu => exact (.tail nxc nxq (UpdF2.head1 hne (List.forall_mem_cons.mpr ⟨hne.symm, fun _ h => nomatch h⟩) (.head fun _ h => nomatch h)))); (case v6 => k_asm); (case vK => rfl); (case vr => exact List.forall_mem_cons.mpr ⟨⟨News.get (by k_asm) (.head _), nxc, nxq⟩, List.forall_mem_cons.mpr ⟨⟨Fr.keep (by k_asm) _ _ r2, gneO r2 (by k_asm) (.tail _ (.head _)), gneO r2 (by k_asm) (.tail _ (.tail _ (.head _)))⟩, fun _ h => nomatch h⟩⟩); (case vd => ktr_room); (case vv => ktr_units)
  refine rS ?_; intro pl1 st1 hv1 t3 t4 u3 t5 W1 h8 tk8 _ F8 N8
  dsimp only [List.nil_append] at N8
  have ha1 : leZ ks % 2 ^ (4 : Int).toNat = log - 5 := by rw [hV, show (2 : Int) ^ (4 : Int).toNat = 16 from rfl]; omega
  have ha2 : leZ ks / 2 ^ (4 : Int).toNat = V := by rw [hV, show (2 : Int) ^ (4 : Int).toNat = 16 from rfl]; omega
  rw [ha2] at W1
  rw [ha1]
  clear ha1 ha2 W0
  have hH1 := go W1
  have hHE := go E
  clear W1 E
  k_with "exec While Compare cons nil" => refine hold ?_
  k_steps
  rename_i lc g4 ll D g3 lD g2 g1 gg lF' lN'
  refine go ?_
  rw [show log - 5 + 5 = log by omega] at lF' lN'
  have nlc : @Ne Nat lc dc := fun q => Nat.lt_irrefl _ (q ▸ ll.2.1 : @LT.lt Nat _ dc dc)
  have nlq : @Ne Nat lc dq := fun q => Nat.lt_irrefl _ (q ▸ ll.2.2 : @LT.lt Nat _ dq dq)
  have nlx : @Ne Nat lc xc := fun q => Nat.lt_irrefl _ (q ▸ ll.1 : @LT.lt Nat _ xc xc)
  clear ll lD
  with_unfolding_all refine' ksw_while (σ := (Int × Tok) × (List Value × List Int × Nat) × (Int × Int × Int) × (Tok × Tok × Tok) × (Int × Int)) (fun c => [(lc, listOf c.2.1.1.toArray c.2.1.2.2), (xc, instObj 356 dc), (dc, cDict w xo k1 k2 k3 c.2.2.1.1 c.2.2.1.2.1 c.2.2.2.1.1 c.2.2.2.1.2.1), (dq, oDict w arr tb j1 j2 j3 c.2.2.1.2.2 u1 c.2.2.2.1.2.2)]) (fun c => [(Str.ofString "left", .int c.1.1 c.1.2)]) (fun c => IntsAre c.2.1.1 c.2.1.2.1) [Str.ofString "count"] (fun c => c.1.1 ≤ 64 ∧ Hold (RSt ks c.2.2.1.2.2 c.2.2.1.1 c.2.2.1.2.1 c.2.2.2.2.1 c.2.2.2.2.2) ∧ Hold (∃ rest N', c.2.1.2.1 ++ rest = ts ∧ Enc c.1.1 rest c.2.2.2.2.1 N' ∧ N' ≤ c.2.2.2.2.2)) (fun c => ts.length - c.2.1.2.1.length) ((1 * 2 ^ log.toNat, _), ([], [], 0), (st1, hv1, pl1), (t3, t4, u3), (V, 8 * ks.length - 4)) lF' (fun p hp => lN' p (.tail _ hp)) .nil ?kk ⟨?p0, hH1, ?p1⟩ ?turn (by with_unfolding_all passes_own)
  case kk => intro p hp; rw [List.mem_singleton.mp hp]; rfl
  case p0 => dsimp only; rcases (by omega : log = 5 ∨ log = 6) with rfl | rfl <;> decide
  case p1 => exact go ⟨ts, Nv, rfl, by rw [Int.one_mul]; exact hold hHE, by dsimp only; omega⟩
  case turn =>
    (first | (refine pz6 ?_; intro left tl9 vs xs kk st hv2 pl2 ta tb' tc Rc Ac u h tk' hs1; refine an_ppp ?_; intro q1 q2 q3 kFr kNews) | (rintro ⟨⟨left, tl9⟩, ⟨vs, xs, kk⟩, ⟨st, hv2, pl2⟩, ⟨ta, tb', tc⟩, ⟨Rc, Ac⟩⟩ u h tk' hs1 ⟨q1, q2, q3⟩ kFr kNews))
    clear lF' lN' hH1 hHE
    dsimp only [kstB] at kFr
    dsimp only at kNews hs1 q1 q2 q3
    have hz1 := hs1.length
    obtain ⟨rest, N', e1, E', e3⟩ := hold q3
    clear q3
    cases E' with
    | nil =>
      rw [List.append_nil] at e1
      subst e1
      try ((try change wpAny _ _ _ _ _ _); k_fold)
      k_steps
      rename _ ∧ _ => lD
      have nD := (Nat.ne_of_lt lD.2.2.2).symm
      exact fin (muts' := [(dq, _)]) (ex := [(_, _), (lc, _)]) hret keep (by assumption) (by assumption) (by assumption) (by assumption) (List.forall_mem_cons.mpr ⟨.head _, List.forall_mem_cons.mpr ⟨.tail _ (.head _), List.forall_mem_cons.mpr ⟨.tail _ (.tail _ (.tail _ (.tail _ (.head _)))), fun _ h => nomatch h⟩⟩⟩) (List.forall_mem_cons.mpr ⟨.head _, List.forall_mem_cons.mpr ⟨.tail _ (.head _), fun _ h => nomatch h⟩⟩) (List.forall_mem_cons.mpr ⟨fun q => nD (List.mem_singleton.mp q), List.forall_mem_cons.mpr ⟨fun q => nlq (List.mem_singleton.mp q), fun _ h => nomatch h⟩⟩) ⟨_, rfl, pl2, _, _, _, _, _, _, rfl, rfl, rfl, hs1⟩
    | @some _ c r V' N' g1 g2 g3 g4 g5 E' =>
      try ((try change wpAny _ _ _ _ _ _); k_fold)
      have hxl : xs.length < ts.length := by rw [← e1]; simp only [List.length_append, List.length_cons]; omega
      k_steps
      have g6 : c ≤ left := by unfold placesI at g5; split at g5 <;> omega
      have g7 : 1 ≤ placesI c := by unfold placesI; split <;> omega
      have hN0 := E'.n0
      refine' use2 (uptoC_call (v := c + 1) hk9 hz (hold q2) (show 2 ≤ left + 1 by omega) (show left + 1 ≤ 65 by omega) (show 0 ≤ c + 1 by omega) (show c + 1 ≤ left + 1 by omega) rfl (by omega) hne) ?v1 ?v2 ?v3 ?v4 ?vu ?v6 ?vK ?vr ?vd ?vv ?_; (case v1 => k_asm); (case v2 => k_asm); (case v3 => k_asm); (case v4 => k_asm); (case vu => exact (.tail nlc nlq (.tail nxc nxq (UpdF2.head1 hne (List.forall_mem_cons.mpr ⟨hne.symm, fun _ h => nomatch h⟩) (.head fun _ h => nomatch h))))); (case v6 => k_asm); (case vK => rfl); (case vr => exact List.forall_mem_cons.mpr ⟨⟨News.get (by k_asm) (.tail _ (.head _)), nxc, nxq⟩, List.forall_mem_cons.mpr ⟨⟨Fr.keep (by k_asm) _ _ r2, gneO r2 (by k_asm) (.tail _ (.tail _ (.head _))), gneO r2 (by k_asm) (.tail _ (.tail _ (.tail _ (.head _))))⟩, fun _ h => nomatch h⟩⟩); (case vd => ktr_room); (case vv => ktr_units)
      refine rS ?_; intro pl3 st3 hv3 t6 t7 u7 t8 W3 h7 tk7 _ F7 N7
      dsimp only [List.nil_append] at N7
      have hH3 := go W3
      have hHE := go E'
      clear W3 E' q2
      k_steps
      all_goals (try (exfalso; omega))
      rename Fr _ _ _ _ => lE
      rename News _ _ _ _ => nE
      rw [show c + 1 - 1 = c by omega] at lE nE
      simp only [List.push_toArray] at nE
      refine ksw_end ((left - placesI c, _), (vs ++ [.int c _], xs ++ [c], kk + 1), (st3, hv3, pl3), (t6, t7, u7), (V', Ac - upL (left + 1) (c + 1))) lE nE (fun p hp => hp) (ints_snoc hs1 _ _) (by kst_all) (by ksw_same) ⟨by dsimp only; omega, hH3, go ⟨r, N', by rw [List.append_assoc]; exact e1, hold hHE, by dsimp only; omega⟩⟩ (by dsimp only; rw [List.length_append, List.length_singleton]; omega)
    | @zero _ k d r V' N' g1 g2 g4 g5 E' =>
      have hxl : xs.length + 1 + k < ts.length := by rw [← e1]; simp only [List.length_append, List.length_cons, List.length_replicate]; omega
      try ((try change wpAny _ _ _ _ _ _); k_fold)
      k_steps
      have hN0 := E'.n0
      have hr9 := runL_nonneg (k := k)
      refine' use2 (uptoC_call (v := 1) hk9 hz (hold q2) (show 2 ≤ left + 1 by omega) (show left + 1 ≤ 65 by omega) (show 0 ≤ 1 by decide) (show 1 ≤ left + 1 by omega) rfl (by omega) hne) ?v1 ?v2 ?v3 ?v4 ?vu ?v6 ?vK ?vr ?vd ?vv ?_; (case v1 => k_asm); (case v2 => k_asm); (case v3 => k_asm); (case v4 => k_asm); (case vu => exact (.tail nlc nlq (.tail nxc nxq (UpdF2.head1 hne (List.forall_mem_cons.mpr ⟨hne.symm, fun _ h => nomatch h⟩) (.head fun _ h => nomatch h))))); (case v6 => k_asm); (case vK => rfl); (case vr => exact List.forall_mem_cons.mpr ⟨⟨News.get (by k_asm) (.tail _ (.head _)), nxc, nxq⟩, List.forall_mem_cons.mpr ⟨⟨Fr.keep (by k_asm) _ _ r2, gneO r2 (by k_asm) (.tail _ (.tail _ (.head _))), gneO r2 (by k_asm) (.tail _ (.tail _ (.tail _ (.head _))))⟩, fun _ h => nomatch h⟩⟩); (case vd => ktr_room); (case vv => ktr_units)
      refine rS ?_; intro pl3 st3 hv3 t6 t7 u7 t8 W3 h7 tk7 _ F7 N7
      dsimp only [List.nil_append] at N7
      have hH3 := go W3
      have hHE := go E'
      clear W3 E' q2
      k_steps
      refine' use2 (runC_call (k := k) hk9 hz (hold hH3) (Int.natCast_nonneg k) (by omega) (by omega) rfl (by omega) hne) ?v1 ?v2 ?v3 ?v4 ?vu ?v6 ?vK ?vr ?vd ?vv ?_; (case v1 => k_asm); (case v2 => k_asm); (case v3 => k_asm); (case v4 => k_asm); (case vu => exact (.tail nlc nlq (.tail nxc nxq (UpdF2.head1 hne (List.forall_mem_cons.mpr ⟨hne.symm, fun _ h => nomatch h⟩) (.head fun _ h => nomatch h))))); (case v6 => k_asm); (case vK => rfl); (case vr => exact List.forall_mem_cons.mpr ⟨⟨News.get (by k_asm) (.tail _ (.head _)), nxc, nxq⟩, List.forall_mem_cons.mpr ⟨⟨Fr.keep (by k_asm) _ _ r2, gneO r2 (by k_asm) (.tail _ (.tail _ (.head _))), gneO r2 (by k_asm) (.tail _ (.tail _ (.tail _ (.head _))))⟩, fun _ h => nomatch h⟩⟩); (case vd => ktr_room); (case vv => ktr_units)
      refine rS ?_; intro pl4 st4 hv4 t9 t10 u9 t11 W4 h6 tk6 _ F6 N6
      dsimp only [List.nil_append] at N6
      have hH4 := go W4
      clear W4 hH3
      k_steps
      rename News _ _ _ _ => nE
      refine go ?_
      refine cr_src (σ := Unit) (n := k) (fun _ => _) (fun i ys _ => IntsAre ys (List.replicate i 0)) () (by rfl) (by assumption) (small_one (by omega) (by omega) (by omega) (by omega)) (by simp only [Builtin.Range.rangeSize]; split <;> (try split) <;> omega) (by omega) (by k_asm) nE .nil (fun _ _ => rfl) ?ct ?cd
      case ct =>
        (first | (refine rE ?_; intro gA i cc tv ys I oI C oC DD m₂ hh2 tk2 E2 hi hys hC ha kFr2 kNews2 off2 ne2) | (rintro _ ⟨gA, rfl⟩ i cc tv ys I oI C oC DD m₂ hh2 tk2 E2 hi hys hC ha kFr2 kNews2 off2 ne2))
        clear nE
        try ((try change wpAny _ _ _ _ _ _); k_fold)
        k_with_none
        k_with "getMethod ref" => ((k_here; (with_reducible show wpAny _ _ (getMethod (Value.ref _) (PySem.Str.ofString "append") _) _ _ _); k_dflt (refine' ba_getMethod ?q1 ?q2 ?q3 ?_; (case q1 => exact News.get (by k_asm) (by k_mem)); (case q2 => exact rfl); (case q3 => exact rfl); k_whole)))
        k_with "call ref" => ((k_here; (with_reducible show wpAny _ _ (call (Value.ref 85) _) _ _ _); k_dflt (refine' use0 (needc_call ?q1 ?q2) ?k1 ?k2 ?k3 ?k4 ?k6 ?kK ?kr ?kd ?ku ?_; (case k1 => k_asm); (case k2 => k_asm); (case k3 => k_asm); (case k4 => k_asm); (case k6 => k_asm); (case kK => first | exact rfl | assumption); (case kr => tb_rel); (case q1 => first | assumption | omega); (case q2 => first | assumption | omega); (case kd => ktr_room); (case ku => ktr_units); k_whole; refine rB ?_; intro  h9 tk9 _ F9 N9; (dsimp only [List.nil_append] at N9); (try k_sweep))))
        k_with "call ref" => ((k_here; (with_reducible show wpAny _ _ (call (Value.ref 254) _) _ _ _); k_dflt (refine' use0 (places_call ?q1 ?q2) ?k1 ?k2 ?k3 ?k4 ?k6 ?kK ?kr ?kd ?ku ?_; (case k1 => k_asm); (case k2 => k_asm); (case k3 => k_asm); (case k4 => k_asm); (case k6 => k_asm); (case kK => first | exact rfl | assumption); (case kr => tb_rel); (case q1 => first | assumption | omega); (case q2 => first | assumption | omega); (case kd => ktr_room); (case ku => ktr_units); k_whole; refine rA ?_; intro t9 h9 tk9 _ F9 N9; (dsimp only [List.nil_append] at N9); (try k_sweep))))
        k_with "call ref" => ((k_here; (with_reducible show wpAny _ _ (call (Value.ref 92) _) _ _ _); k_dflt (refine' use0 (needv_call ?q1 ?q2 ?q3 ?q4) ?k1 ?k2 ?k3 ?k4 ?k6 ?kK ?kr ?kd ?ku ?_; (case k1 => k_asm); (case k2 => k_asm); (case k3 => k_asm); (case k4 => k_asm); (case k6 => k_asm); (case kK => first | exact rfl | assumption); (case kr => tb_rel); (case q1 => first | assumption | omega); (case q2 => first | assumption | omega); (case q3 => first | assumption | omega); (case q4 => first | assumption | omega); (case kd => ktr_room); (case ku => ktr_units); k_whole; refine rB ?_; intro  h9 tk9 _ F9 N9; (dsimp only [List.nil_append] at N9); (try k_sweep))))
        k_with "call ref" => ((k_here; (with_reducible show wpAny _ _ (call (Value.ref 254) _) _ _ _); k_dflt (refine' use0 (places_call' ?q1 ?q2) ?k1 ?k2 ?k3 ?k4 ?k6 ?kK ?kr ?kd ?ku ?_; (case k1 => k_asm); (case k2 => k_asm); (case k3 => k_asm); (case k4 => k_asm); (case k6 => k_asm); (case kK => first | exact rfl | assumption); (case kr => tb_rel); (case q1 => first | assumption | omega); (case q2 => first | assumption | omega); (case kd => ktr_room); (case ku => ktr_units); k_whole; refine rA ?_; intro t9 h9 tk9 _ F9 N9; (dsimp only [List.nil_append] at N9); (try k_sweep))))
        k_steps
        exact ps_end () (by assumption) (by assumption) (by rw [List.replicate_succ']; exact ints_snoc hys _ _)
      case cd =>
        (first | (refine rE ?_; intro gA ys cc hys) | (rintro _ ⟨gA, rfl⟩ ys cc hys))
        clear nE
        try ((try change wpAny _ _ _ _ _ _); k_fold)
        k_with_none
        k_with "getMethod ref" => ((k_here; (with_reducible show wpAny _ _ (getMethod (Value.ref _) (PySem.Str.ofString "append") _) _ _ _); k_dflt (refine' ba_getMethod ?q1 ?q2 ?q3 ?_; (case q1 => exact News.get (by k_asm) (by k_mem)); (case q2 => exact rfl); (case q3 => exact rfl); k_whole)))
        k_with "call ref" => ((k_here; (with_reducible show wpAny _ _ (call (Value.ref 85) _) _ _ _); k_dflt (refine' use0 (needc_call ?q1 ?q2) ?k1 ?k2 ?k3 ?k4 ?k6 ?kK ?kr ?kd ?ku ?_; (case k1 => k_asm); (case k2 => k_asm); (case k3 => k_asm); (case k4 => k_asm); (case k6 => k_asm); (case kK => first | exact rfl | assumption); (case kr => tb_rel); (case q1 => first | assumption | omega); (case q2 => first | assumption | omega); (case kd => ktr_room); (case ku => ktr_units); k_whole; refine rB ?_; intro  h9 tk9 _ F9 N9; (dsimp only [List.nil_append] at N9); (try k_sweep))))
        k_with "call ref" => ((k_here; (with_reducible show wpAny _ _ (call (Value.ref 254) _) _ _ _); k_dflt (refine' use0 (places_call ?q1 ?q2) ?k1 ?k2 ?k3 ?k4 ?k6 ?kK ?kr ?kd ?ku ?_; (case k1 => k_asm); (case k2 => k_asm); (case k3 => k_asm); (case k4 => k_asm); (case k6 => k_asm); (case kK => first | exact rfl | assumption); (case kr => tb_rel); (case q1 => first | assumption | omega); (case q2 => first | assumption | omega); (case kd => ktr_room); (case ku => ktr_units); k_whole; refine rA ?_; intro t9 h9 tk9 _ F9 N9; (dsimp only [List.nil_append] at N9); (try k_sweep))))
        k_with "call ref" => ((k_here; (with_reducible show wpAny _ _ (call (Value.ref 92) _) _ _ _); k_dflt (refine' use0 (needv_call ?q1 ?q2 ?q3 ?q4) ?k1 ?k2 ?k3 ?k4 ?k6 ?kK ?kr ?kd ?ku ?_; (case k1 => k_asm); (case k2 => k_asm); (case k3 => k_asm); (case k4 => k_asm); (case k6 => k_asm); (case kK => first | exact rfl | assumption); (case kr => tb_rel); (case q1 => first | assumption | omega); (case q2 => first | assumption | omega); (case q3 => first | assumption | omega); (case q4 => first | assumption | omega); (case kd => ktr_room); (case ku => ktr_units); k_whole; refine rB ?_; intro  h9 tk9 _ F9 N9; (dsimp only [List.nil_append] at N9); (try k_sweep))))
        k_with "call ref" => ((k_here; (with_reducible show wpAny _ _ (call (Value.ref 254) _) _ _ _); k_dflt (refine' use0 (places_call' ?q1 ?q2) ?k1 ?k2 ?k3 ?k4 ?k6 ?kK ?kr ?kd ?ku ?_; (case k1 => k_asm); (case k2 => k_asm); (case k3 => k_asm); (case k4 => k_asm); (case k6 => k_asm); (case kK => first | exact rfl | assumption); (case kr => tb_rel); (case q1 => first | assumption | omega); (case q2 => first | assumption | omega); (case kd => ktr_room); (case ku => ktr_units); k_whole; refine rA ?_; intro t9 h9 tk9 _ F9 N9; (dsimp only [List.nil_append] at N9); (try k_sweep))))
        k_steps
        rename News _ _ _ _ => nE
        rename _ ∧ _ => oD
        simp only [List.push_toArray] at nE
        have hyl := hys.length
        rw [List.length_replicate] at hyl
        refine ext_any (by k_asm) nE (.head _) (fun o' => .tail oD.1.symm (.head (List.forall_mem_cons.mpr ⟨nlx.symm, List.forall_mem_cons.mpr ⟨nlc.symm, List.forall_mem_cons.mpr ⟨nlq.symm, fun _ h => nomatch h⟩⟩⟩))) (by rw [List.length_append, List.length_singleton]; omega) fun hE kE FE NE => ?_
        k_steps
        rename Fr _ _ _ _ => lE
        rename News _ _ _ _ => nF
        have hz0 : left - placesI (1 - 1) = left := Int.sub_zero _
        rw [hz0] at lE
        refine ksw_end ((left, _), (vs ++ [.int (1 - 1) _] ++ ys, xs ++ [1 - 1] ++ List.replicate k 0, kE), (st4, hv4, pl4), (t9, t10, u9), (V', Ac - upL (left + 1) 1 - runL k)) lE nF (fun p hp => .tail _ hp) (ints_app (ints_snoc hs1 _ _) hys) (by kst_all) (by ksw_same) ⟨q1, hH4, go ⟨d :: r, N', ?x1, hold hHE, by dsimp only; omega⟩⟩ (by dsimp only; rw [List.length_append, List.length_append, List.length_singleton, List.length_replicate]; omega)
        case x1 =>
          dsimp only
          rw [← e1, List.append_assoc, List.append_assoc]
          rfl

end
theorem fresh_Claw : True := by
  k_with_none
  w_top off
  trivial
section
variable {M : Model} {A : Around} {s : Shared} {env : Env}
theorem isTrueR {l : PySem.Expr} {op : CmpOp} {r : PySem.Expr} {pos : Pos} {whole : Sem Value} {Q : Bool → Shared → Prop}
    (h : wpR M A (eval l env) (fun a s₁ => wpAny M A (eval r env) (fun b s₂ => wpAny M A (compareOp op a b) (fun c s₃ => wpAny M A (truthy c) Q (fun _ _ => False) s₃) (fun _ _ => False) s₂) (fun _ _ => False) s₁) s)
    (hm : behindInMarks op r = false := by with_unfolding_all rfl) : wpR M A (isTrue (.Compare l [op] [r] pos) env whole) Q s := fun Γ p hΓ hb hc => by
  simp only [isTrue_Compare1, markedBehindIn_of_false hm, Sem.wp_bind', Sem.wp_holding, Sem.wp_cmd_standAt, Sem.wp_operate]
  exact Sem.wp_mono M Γ _ (fun a p₁ s₁ h₁ => Sem.wp_mono M Γ _ (fun b _ s₂ h₂ => Sem.wp_mono M Γ _ (fun c p₃ s₃ h₃ => h₃ Γ p₃ hΓ)
    (fun _ _ _ h' => h') _ _ (h₂ Γ _ hΓ)) (fun _ _ _ h' => h') _ _ (h₁ Γ p₁ hΓ)) (fun _ _ _ h' => h') _ _ (h Γ p hΓ hb hc)
end
section
variable {w : World} {f : Addr} {args : List Value} {c1 c2 : Nat} {reads : List (Addr × Obj)}
  {dp un : Nat} {gd : Option (List Code)} {cn : Str} {cs : Scope} {a : Addr} {ccd : Value} {cl : List (Str × Addr)} {outer : List Env} {A₀ : Around} {base h₀ : Heap} {L : Addr} {m : Str → Option Value} {s : Shared}
  {loose : List Str} {mean : ExcName → Option Value} {mg mb : Str → Option Value} {Q : Value → Shared → Prop} {news : List (Addr × Obj)}
theorem use0R {P : Value → List (Addr × Obj) → Prop} (C : CallR w f args c1 c2 reads [] (P0 P))
    (B : Below A₀ base outer h₀) (F : Fr h₀ L s.heap m) (X : (hd.heap_1 w.params).In h₀) (N : News h₀ L s.heap news) (T : Top hd.view_1 loose mean mg mb h₀) (hk : cs.kind = .function)
    (hr : ∀ x ∈ reads, s.heap.get? x.1 = some x.2) (hd1 : dp + c1 < recursionLimit) (hu : un + c2 < cLine)
    (ret : ∀ (r : Value) (ex : List (Addr × Obj)), P r ex → ∀ (h' : Heap) (tk' : Nat), Offs news ex → Fr h₀ L h' m → News h₀ L h' (ex ++ news) → Q r { s with heap := h', toks := tk' }) :
    wpR (model PySem.Challenge.rw_pq1220_01.row.prog w) (ktrTop dp un gd cn cs L a ccd cl outer) (call (.ref f) args) Q s := by
  refine wpR_call (C dp un gd cn cs a ccd cl outer A₀ base h₀ L m s loose mean mg mb _ B F X News.nil T hk (fun x hx => ⟨hr x hx, List.not_mem_nil⟩) hd1 hu fun r mu ex h' tk' hp F' N' k hne => ?_)
  refine ret r ex hp.2 h' tk' (offs_of fun x hx => off_of fun q hq => hne x hx _ _ (N q hq).1) F' fun x hx => ?_
  rcases List.mem_append.mp hx with hx | hx
  · exact N' x (List.mem_append_left _ hx)
  · exact ⟨k _ _ List.not_mem_nil (N x hx).1, (N x hx).2⟩
end
theorem call_cellsR {prog : Program} {w : World} {A : Around} {R : Flow → Shared → Prop} {s : Shared} {name : Str} {params : Arguments} {body : List Stmt} {scope : Scope}
    {pm cd doc : Value} {a : Addr} {o : Obj} {args : List Value} {binds : List (Str × Value)}
    (hroom : A.depth < recursionLimit) (ho : s.heap.get? a = some o) (hdata : o.data = .func (Calls.docDef name params body scope pm cd doc)) (hlim : s.heap.NoLimit) (hcd : s.heap.CodeRec cd name)
    (hbind : bindArgs (Calls.docDef name params body scope pm cd doc) ⟨args, []⟩ = pure binds)
    (hkind : ∀ x ∈ binds, scope.names.lookup x.1 = some .local ∨ (scope.names.lookup x.1 = some .cell ∧ ((cellsFrom (s.heap.objs.size + 1) scope.names []).lookup x.1).isSome = true))
    (hnd : ((cellsFrom 0 scope.names []).map (·.1)).Nodup)
    (h : ∀ h₁ tk cells, Fr s.heap s.heap.objs.size h₁ (bindL (envOfC name scope s.heap.objs.size a cd).kindOf binds fun _ => none) → News s.heap s.heap.objs.size h₁ cells →
      CellsAre (bindC (envOfC name scope s.heap.objs.size a cd).kindOf binds fun _ => none) (cellsFrom (s.heap.objs.size + 1) scope.names []) cells →
      wpR (model prog w) (A.deeper (envOfC name scope s.heap.objs.size a cd)) (execs body (envOfC name scope s.heap.objs.size a cd))
        (fun f s' => R (.ret (match f with | .ret v => v | _ => .none)) s') { s with heap := h₁, toks := tk })
    (hco : scope.isCoroutine = false := by rfl) (hgen : scope.isGenerator = false := by rfl) (hk : scope.kind = .function := by rfl) :
    codeR (model prog w) A (.call (.ref a) ⟨args, []⟩) R s := by
  refine codeR_call_function hroom ho hdata hco hgen rfl hcd (wpAny_of_eq hbind ?_)
  refine wpAny_newFunctionEnv_cells hk hkind fun env' he s' x => ?_
  subst he
  refine ⟨hlim.keeps x.toInCall.keep, codeR_func ?_⟩
  obtain ⟨h₁, tk, rfl, _⟩ := x.done
  obtain ⟨cells, N, Y⟩ := Cl.news (h₀ := s.heap) (Nat.le_refl _) fun n c hm => ⟨x.cell n c (lookup_of_mem_nodup (cellsFrom_names scope.names 0 (s.heap.objs.size + 1) [] [] rfl ▸ hnd) hm), x.above n c hm⟩
  exact h h₁ tk cells ⟨x.toInCall.ns, fun b o e => x.toInCall.keep b o e, Nat.le_refl _⟩ N Y
section
variable {prog : Program} {w : World} {A : Around} {E : Value → Shared → Prop} {s : Shared} {Q : Value → Shared → Prop}
theorem ne_pair {a b la lb : Addr} {va vb : List Value} {ts : List Int} {log : Int} {t1 t2 : Tok} (h1 : s.heap.get? a = some { cls := .type "tuple", data := .seq #[.ref la, .int log t1] }) (h2 : s.heap.get? b = some { cls := .type "tuple", data := .seq #[.ref lb, .int log t2] })
    (l1 : s.heap.IsList la va.toArray) (l2 : s.heap.IsList lb vb.toArray) (i1 : IntsAre va ts) (i2 : IntsAre vb ts) (hu : A.units + 64 < cLine) (h : Q (.bool false) s) : wpAny (model prog w) A (compareOp .NotEq (.ref a) (.ref b)) Q E s := by
  refine ne_dataH (reads_tuple_at h1 rfl rfl (.cons (reads_newData l1 (ke_carried i1)) (.cons (Reads.int _ _) .nil))) (reads_tuple_at h2 rfl rfl (.cons (reads_newData l2 (ke_carried i2)) (.cons (Reads.int _ _) .nil)))
    (by simp [SeqAt.shaped, PyData.canLay0, PyData.canLayAll0, PyData.depth, PyData.depthAll, ke_canLayAll0, ke_depthAll]) (by simp [SeqAt.shaped, PyData.canLay0, PyData.canLayAll0, PyData.depth, PyData.depthAll, ke_canLayAll0, ke_depthAll]) hu ?_
  have e : PyData.eqv (.tuple [.list (ts.map PyData.int), .int log]) (.tuple [.list (ts.map PyData.int), .int log]) = true := by simp [PyData.eqv, PyData.eqvAll, ked_eqvAll]
  rw [e]; exact h
end
theorem lacks_len (cs ts : List Int) (size : Int) : (lacksV cs ts size).length ≤ cs.length := by
  have := List.length_filterMap_le (fun p : Int × Int => if p.1 > 0 then some (p.1 * size - absI p.2 * cs.sum) else none) (cs.zip ts)
  unfold lacksV
  rw [List.length_zip] at this
  omega
theorem sorted_eq {a b : List Int} (p : a.Perm b) (ha : a.Pairwise (· ≤ ·)) (hb : b.Pairwise (· ≤ ·)) : a = b := List.Perm.eq_of_pairwise (fun _ _ _ _ h1 h2 => Int.le_antisymm h1 h2) ha hb p
theorem pick4 {α : Type} {a b c d : α} {r : List α} {p : α} (h : p ∈ a :: r) : p ∈ a :: b :: c :: d :: r := by
  rcases List.mem_cons.mp h with rfl | h
  · exact .head _
  · exact .tail _ (.tail _ (.tail _ (.tail _ h)))
theorem used_bound {us : List Int} (h : NormOk us 5) (hl : us.length = 32) : ∀ t ∈ normF us 5, -1000 ≤ t ∧ t ≤ 1000 := by
  have f : Fair us (2 ^ (5 : Int).toNat) := ⟨fun c hc => (h.b c hc).1, h.pos, h.used, by decide⟩
  intro t ht
  have := told_bound f t ht
  have e : (2 : Int) ^ (5 : Int).toNat = 32 := rfl
  omega
theorem rep_len (n : Nat) (l : List Int) : ((List.replicate n l).flatten).length = n * l.length := by
  induction n with
  | zero => simp
  | succ k ih => rw [List.replicate_succ, List.flatten_cons, List.length_append, ih, Nat.succ_mul]; omega
theorem used_list {cs : List Int} (G : Good cs) : (List.take (32 : Int).toNat (List.replicate (32 : Int).toNat (usedC cs)).flatten).length = 32 ∧ ∀ u ∈ List.take (32 : Int).toNat (List.replicate (32 : Int).toNat (usedC cs)).flatten, 0 < u ∧ u ≤ 449 := by
  have h0 := (G.fair (size := 32) (by decide)).n0
  constructor
  · rw [List.length_take, rep_len]
    have : (32 : Int).toNat = 32 := rfl
    rw [this]
    omega
  · intro u hu
    have h1 := List.mem_of_mem_take hu
    obtain ⟨l, hl, h2⟩ := List.mem_flatten.mp h1
    rw [(List.mem_replicate.mp hl).2] at h2
    obtain ⟨c, hc, he⟩ := List.mem_filterMap.mp h2
    split at he
    · cases he; exact ⟨by assumption, (G.each _ hc).2⟩
    · cases he
theorem nameR {α : Type} {M : Model} {A : Around} {t : Sem α} {s : Shared} {Q : α → Shared → Prop} (h : ∀ Qn : α → Shared → Prop, (∀ a s', Q a s' → Qn a s') → wpR M A t Qn s) : wpR M A t Q s := h Q fun _ _ h => h
theorem law_walk : PySem.Challenge.rw_pq1220_01.Holds := by
  refine Mine.hd ⟨top_left, ?_⟩
  k_with_none
  k_with "call ref" => ((k_here; (with_reducible show wpAny _ _ (call (Value.ref 278) _) _ _ _); k_dflt (refine' use0 (lack_call ?q1 ?q2 ?q3 ?q4) ?k1 ?k2 ?k3 ?k4 ?k6 ?kK ?kr ?kd ?ku ?_; (case k1 => k_asm); (case k2 => k_asm); (case k3 => k_asm); (case k4 => k_asm); (case k6 => k_asm); (case kK => first | exact rfl | assumption); (case kr => tb_rel); (case q1 => assumption); (case q2 => assumption); (case q3 => assumption); (case q4 => first | assumption | (refine SD.Ok.hus ?_ _ ?_ <;> assumption)); (case kd => ktr_room); (case ku => ktr_units); k_whole; refine rA ?_; intro t9 h9 tk9 _ F9 N9; (dsimp only [List.nil_append] at N9); (try k_sweep))))
  k_with "call ref" => ((k_here; (with_reducible show wpAny _ _ (call (Value.ref 285) _) _ _ _); k_dflt (refine' use0 (most_call ?q1 ?q2 ?q3) ?k1 ?k2 ?k3 ?k4 ?k6 ?kK ?kr ?kd ?ku ?_; (case k1 => k_asm); (case k2 => k_asm); (case k3 => k_asm); (case k4 => k_asm); (case k6 => k_asm); (case kK => first | exact rfl | assumption); (case kr => tb_rel); (case q1 => assumption); (case q2 => assumption); (case q3 => assumption); (case kd => ktr_room); (case ku => ktr_units); k_whole; refine rA ?_; intro t9 h9 tk9 _ F9 N9; (dsimp only [List.nil_append] at N9); (try k_sweep))))
  k_with "call ref" => ((k_here; (with_reducible show wpAny _ _ (call (Value.ref 292) _) _ _ _); k_dflt (refine' use0 (least_call' ?q1 ?q2 ?q3 ?q4) ?k1 ?k2 ?k3 ?k4 ?k6 ?kK ?kr ?kd ?ku ?_; (case k1 => k_asm); (case k2 => k_asm); (case k3 => k_asm); (case k4 => k_asm); (case k6 => k_asm); (case kK => first | exact rfl | assumption); (case kr => tb_rel); (case q1 => assumption); (case q2 => assumption); (case q3 => assumption); (case q4 => assumption); (case kd => ktr_room); (case ku => ktr_units); k_whole; refine rA ?_; intro t9 h9 tk9 _ F9 N9; (dsimp only [List.nil_append] at N9); (try k_sweep))))
  k_with "call ref" => ((k_here; (with_reducible show wpAny _ _ (call (Value.ref 318) _) _ _ _); k_dflt (refine' use0 (norm_call ?q1 ?q2) ?k1 ?k2 ?k3 ?k4 ?k6 ?kK ?kr ?kd ?ku ?_; (case k1 => k_asm); (case k2 => k_asm); (case k3 => k_asm); (case k4 => k_asm); (case k6 => k_asm); (case kK => first | exact rfl | assumption); (case kr => tb_rel); (case q1 => assumption); (case q2 => assumption); (case kd => ktr_room); (case ku => ktr_units); k_whole; refine rC ?_; intro d9 vs9 k9 hi9 h9 tk9 off9 F9 N9; (dsimp only [List.cons_append, List.nil_append] at N9); (simp only [Offs, LCg.Off1, and_true] at off9); (try k_sweep))))
  k_with "getMethod ref" => ((k_here; (with_reducible show wpAny _ _ (getMethod (Value.ref _) (PySem.Str.ofString "append") _) _ _ _); k_dflt (refine' ba_getMethod ?q1 ?q2 ?q3 ?_; (case q1 => exact News.get (by k_asm) (by k_mem)); (case q2 => exact rfl); (case q3 => exact rfl); k_whole)))
  k_with "call ref" => ((k_here; (with_reducible show wpAny _ _ (call (Value.ref 85) _) _ _ _); k_dflt (refine' use0 (needc_call ?q1 ?q2) ?k1 ?k2 ?k3 ?k4 ?k6 ?kK ?kr ?kd ?ku ?_; (case k1 => k_asm); (case k2 => k_asm); (case k3 => k_asm); (case k4 => k_asm); (case k6 => k_asm); (case kK => first | exact rfl | assumption); (case kr => tb_rel); (case q1 => first | assumption | omega); (case q2 => first | assumption | omega); (case kd => ktr_room); (case ku => ktr_units); k_whole; refine rB ?_; intro  h9 tk9 _ F9 N9; (dsimp only [List.nil_append] at N9); (try k_sweep))))
  k_with "call ref" => ((k_here; (with_reducible show wpAny _ _ (call (Value.ref 254) _) _ _ _); k_dflt (refine' use0 (places_call ?q1 ?q2) ?k1 ?k2 ?k3 ?k4 ?k6 ?kK ?kr ?kd ?ku ?_; (case k1 => k_asm); (case k2 => k_asm); (case k3 => k_asm); (case k4 => k_asm); (case k6 => k_asm); (case kK => first | exact rfl | assumption); (case kr => tb_rel); (case q1 => first | assumption | omega); (case q2 => first | assumption | omega); (case kd => ktr_room); (case ku => ktr_units); k_whole; refine rA ?_; intro t9 h9 tk9 _ F9 N9; (dsimp only [List.nil_append] at N9); (try k_sweep))))
  k_with "call ref" => ((k_here; (with_reducible show wpAny _ _ (call (Value.ref 92) _) _ _ _); k_dflt (refine' use0 (needv_call ?q1 ?q2 ?q3 ?q4) ?k1 ?k2 ?k3 ?k4 ?k6 ?kK ?kr ?kd ?ku ?_; (case k1 => k_asm); (case k2 => k_asm); (case k3 => k_asm); (case k4 => k_asm); (case k6 => k_asm); (case kK => first | exact rfl | assumption); (case kr => tb_rel); (case q1 => first | assumption | omega); (case q2 => first | assumption | omega); (case q3 => first | assumption | omega); (case q4 => first | assumption | omega); (case kd => ktr_room); (case ku => ktr_units); k_whole; refine rB ?_; intro  h9 tk9 _ F9 N9; (dsimp only [List.nil_append] at N9); (try k_sweep))))
  k_with "call ref" => ((k_here; (with_reducible show wpAny _ _ (call (Value.ref 254) _) _ _ _); k_dflt (refine' use0 (places_call' ?q1 ?q2) ?k1 ?k2 ?k3 ?k4 ?k6 ?kK ?kr ?kd ?ku ?_; (case k1 => k_asm); (case k2 => k_asm); (case k3 => k_asm); (case k4 => k_asm); (case k6 => k_asm); (case kK => first | exact rfl | assumption); (case kr => tb_rel); (case q1 => first | assumption | omega); (case q2 => first | assumption | omega); (case kd => ktr_room); (case ku => ktr_units); k_whole; refine rA ?_; intro t9 h9 tk9 _ F9 N9; (dsimp only [List.nil_append] at N9); (try k_sweep))))
  k_fill
  intro w s₀ s₁ mg mb G Y fa o pm cd doc dV kV ho hd hcd hD hmg hg args vals as hpre hlay hrd hwl hlo
  have KX := kIn_of Y
  have X := (Ground.X G).1
  have V := (Ground.X G).2
  try w_nolog (first | (have GL := glob_more (Ground.glob G (by decide +kernel) (by decide +kernel)) V) | (have GL := glob_more (Ground.glob G (by decide +kernel)) V))
  refine Ground.open G ?_
  intro T B D TE TW
  try (refine guard_noD D (by decide +kernel) ?_; clear D)
  obtain ⟨_, _, M⟩ := bmod_of_top T
  have TA := at_of_top T
  try (obtain ⟨_, _, he, B0⟩ := based_of_top T rfl hmg ho hd; have he' : cd = _ := he; subst he'; clear he)
  clear hmg
  wrow_args hpre hlay hrd hwl hlo
  w_top on
  refine wpR_call (codeR_mono (R := flR fun v s' => GoodW _ _ _ _ _ (.ok (.ret v)) s') ?_ (fun f s' g => by rcases f with _ | _ | _ | v <;> first | exact g.elim | exact GoodW.toG g))
  have K0 := below_caller (Top.heap T)
  have he := Dflts.none hD rfl; subst he; have he := Dflts.noKw hD; subst he
  refine call_cellsR (by decide) ho (fd_plain hd) (Top.nolimit T) hcd rfl (kinds_of (by kinds_ok)) (by decide) fun h₁ tk₁ cells F N0 X0 => ?_
  cells_open X0
  clear hd TA
  k_drop
  all_goals try ((try change wpAny _ _ _ _ _ _); k_fold)
  refine nameR fun Qn hQn => ?_
  rename ¬ _ < _ => hlen63
  rename Heap.IsList _ _ _ => hL1
  rename IntsAre _ _ => hI1
  rename List Int => ns1
  have hlen9 := hI1.length
  have hV0 : 0 ≤ (ns1.map absI).sum := (sum_ge fun c hc => by obtain ⟨d, _, rfl⟩ := List.mem_map.mp hc; unfold absI; split <;> omega).1
  clear X0 V X B M TE TW G Y
  refine plainR ?_
  k_steps
  refine go ?_
  refine c0_src (by rfl) (by k_asm) (by k_asm) (.inl hL1) hI1 (by omega) absI ?t1 ?d1
  case t1 =>
    (first | (refine rE ?_; intro g1 v tv zs I oI C oC D m₂ h tk E' hmem hC ha kFr kNews) | (rintro _ ⟨g1, rfl⟩ v tv zs I oI C oC D m₂ h tk E' hmem hC ha kFr kNews))
    try ((try change wpAny _ _ _ _ _ _); k_fold)
    k_steps
    exact pc_end (by assumption) (by assumption) ⟨_, rfl⟩
  (first | (refine rE ?_; intro g1 vsA hvsA) | (rintro _ ⟨g1, rfl⟩ vsA hvsA))
  try ((try change wpAny _ _ _ _ _ _); k_fold)
  k_steps
  dsimp only
  clear hvsA
  generalize (ns1.map absI).sum = V0 at *
  rename Addr => lp
  rename _ ∧ _ => lp9
  rename News _ _ _ _ => nE
  have npc : @Ne Nat (s₁.heap.objs.size + 1) lp := Nat.ne_of_lt lp9.2
  have nP : News _ _ _ [(lp, _), _] := fun p hp => by
    rcases List.mem_cons.mp hp with rfl | hp
    · exact nE _ (.head _)
    · rw [List.mem_singleton.mp hp]; exact nE _ (.tail _ (.tail _ (.head _)))
  clear nE lp9
  k_with "call ref" => refine hold ?_
  k_with "call ref" => ((k_here; (with_reducible show wpAny _ _ (call (Value.ref 278) _) _ _ _); k_dflt (refine' use0 (lack_call ?q1 ?q2 ?q3 ?q4) ?k1 ?k2 ?k3 ?k4 ?k6 ?kK ?kr ?kd ?ku ?_; (case k1 => k_asm); (case k2 => k_asm); (case k3 => k_asm); (case k4 => k_asm); (case k6 => k_asm); (case kK => first | exact rfl | assumption); (case kr => tb_rel); (case q1 => assumption); (case q2 => assumption); (case q3 => assumption); (case q4 => first | assumption | (refine SD.Ok.hus ?_ _ ?_ <;> assumption)); (case kd => ktr_room); (case ku => ktr_units); k_whole; refine rA ?_; intro t9 h9 tk9 _ F9 N9; (dsimp only [List.nil_append] at N9); (try k_sweep))))
  k_with "call ref" => ((k_here; (with_reducible show wpAny _ _ (call (Value.ref 285) _) _ _ _); k_dflt (refine' use0 (most_call ?q1 ?q2 ?q3) ?k1 ?k2 ?k3 ?k4 ?k6 ?kK ?kr ?kd ?ku ?_; (case k1 => k_asm); (case k2 => k_asm); (case k3 => k_asm); (case k4 => k_asm); (case k6 => k_asm); (case kK => first | exact rfl | assumption); (case kr => tb_rel); (case q1 => assumption); (case q2 => assumption); (case q3 => assumption); (case kd => ktr_room); (case ku => ktr_units); k_whole; refine rA ?_; intro t9 h9 tk9 _ F9 N9; (dsimp only [List.nil_append] at N9); (try k_sweep))))
  k_with "call ref" => ((k_here; (with_reducible show wpAny _ _ (call (Value.ref 292) _) _ _ _); k_dflt (refine' use0 (least_call' ?q1 ?q2 ?q3 ?q4) ?k1 ?k2 ?k3 ?k4 ?k6 ?kK ?kr ?kd ?ku ?_; (case k1 => k_asm); (case k2 => k_asm); (case k3 => k_asm); (case k4 => k_asm); (case k6 => k_asm); (case kK => first | exact rfl | assumption); (case kr => tb_rel); (case q1 => assumption); (case q2 => assumption); (case q3 => assumption); (case q4 => assumption); (case kd => ktr_room); (case ku => ktr_units); k_whole; refine rA ?_; intro t9 h9 tk9 _ F9 N9; (dsimp only [List.nil_append] at N9); (try k_sweep))))
  k_with "call ref" => ((k_here; (with_reducible show wpAny _ _ (call (Value.ref 318) _) _ _ _); k_dflt (refine' use0 (norm_call ?q1 ?q2) ?k1 ?k2 ?k3 ?k4 ?k6 ?kK ?kr ?kd ?ku ?_; (case k1 => k_asm); (case k2 => k_asm); (case k3 => k_asm); (case k4 => k_asm); (case k6 => k_asm); (case kK => first | exact rfl | assumption); (case kr => tb_rel); (case q1 => assumption); (case q2 => assumption); (case kd => ktr_room); (case ku => ktr_units); k_whole; refine rC ?_; intro d9 vs9 k9 hi9 h9 tk9 off9 F9 N9; (dsimp only [List.cons_append, List.nil_append] at N9); (simp only [Offs, LCg.Off1, and_true] at off9); (try k_sweep))))
  k_with "call ref" => ((k_here; (with_reducible show wpAny _ _ (call (Value.ref 85) _) _ _ _); k_dflt (refine' use0 (needc_call ?q1 ?q2) ?k1 ?k2 ?k3 ?k4 ?k6 ?kK ?kr ?kd ?ku ?_; (case k1 => k_asm); (case k2 => k_asm); (case k3 => k_asm); (case k4 => k_asm); (case k6 => k_asm); (case kK => first | exact rfl | assumption); (case kr => tb_rel); (case q1 => first | assumption | omega); (case q2 => first | assumption | omega); (case kd => ktr_room); (case ku => ktr_units); k_whole; refine rB ?_; intro  h9 tk9 _ F9 N9; (dsimp only [List.nil_append] at N9); (try k_sweep))))
  k_with "call ref" => ((k_here; (with_reducible show wpAny _ _ (call (Value.ref 254) _) _ _ _); k_dflt (refine' use0 (places_call ?q1 ?q2) ?k1 ?k2 ?k3 ?k4 ?k6 ?kK ?kr ?kd ?ku ?_; (case k1 => k_asm); (case k2 => k_asm); (case k3 => k_asm); (case k4 => k_asm); (case k6 => k_asm); (case kK => first | exact rfl | assumption); (case kr => tb_rel); (case q1 => first | assumption | omega); (case q2 => first | assumption | omega); (case kd => ktr_room); (case ku => ktr_units); k_whole; refine rA ?_; intro t9 h9 tk9 _ F9 N9; (dsimp only [List.nil_append] at N9); (try k_sweep))))
  k_with "call ref" => ((k_here; (with_reducible show wpAny _ _ (call (Value.ref 92) _) _ _ _); k_dflt (refine' use0 (needv_call ?q1 ?q2 ?q3 ?q4) ?k1 ?k2 ?k3 ?k4 ?k6 ?kK ?kr ?kd ?ku ?_; (case k1 => k_asm); (case k2 => k_asm); (case k3 => k_asm); (case k4 => k_asm); (case k6 => k_asm); (case kK => first | exact rfl | assumption); (case kr => tb_rel); (case q1 => first | assumption | omega); (case q2 => first | assumption | omega); (case q3 => first | assumption | omega); (case q4 => first | assumption | omega); (case kd => ktr_room); (case ku => ktr_units); k_whole; refine rB ?_; intro  h9 tk9 _ F9 N9; (dsimp only [List.nil_append] at N9); (try k_sweep))))
  k_with "call ref" => ((k_here; (with_reducible show wpAny _ _ (call (Value.ref 254) _) _ _ _); k_dflt (refine' use0 (places_call' ?q1 ?q2) ?k1 ?k2 ?k3 ?k4 ?k6 ?kK ?kr ?kd ?ku ?_; (case k1 => k_asm); (case k2 => k_asm); (case k3 => k_asm); (case k4 => k_asm); (case k6 => k_asm); (case kK => first | exact rfl | assumption); (case kr => tb_rel); (case q1 => first | assumption | omega); (case q2 => first | assumption | omega); (case kd => ktr_room); (case ku => ktr_units); k_whole; refine rA ?_; intro t9 h9 tk9 _ F9 N9; (dsimp only [List.nil_append] at N9); (try k_sweep))))
  refine plainR ?_
  k_steps
  refine go ?_
  refine' use1 (figure_call (M := 2) hV0 (by decide) (by decide)) ?i1 ?i2 ?i3 ?i4 ?iu ?i6 ?iK ?ir ?id ?iv ?_; (case i1 => k_asm); (case i2 => k_asm); (case i3 => k_asm); (case i4 => k_asm); (case iu => exact .head (List.forall_mem_cons.mpr ⟨npc, fun _ h => nomatch h⟩)); (case i6 => k_asm); (case iK => rfl); (case ir => exact fun _ h => nomatch h); (case id => ktr_room); (case iv => ktr_units)
  refine rD ?_; intro t1 t2 ep1 h1 tk1 _ F1 N1
  dsimp only [List.nil_append] at N1
  have hV1 : 0 ≤ V0 / 2 := by omega
  have hb1 : 0 ≤ V0 % 2 ∧ V0 % 2 ≤ 1 := by omega
  generalize V0 / 2 = V1 at *
  generalize V0 % 2 = x1 at *
  k_steps
  refine go ?_
  refine' use1 (given_call hV1) ?i1 ?i2 ?i3 ?i4 ?iu ?i6 ?iK ?ir ?id ?iv ?_
  case i1 => k_asm
  case i2 => k_asm
  case i3 => k_asm
  case i4 => k_asm
  case iu => exact .head (List.forall_mem_cons.mpr ⟨npc, fun _ h => nomatch h⟩)
  case i6 => k_asm
  case iK => rfl
  case ir => exact fun _ h => nomatch h
  case id => ktr_room
  case iv => ktr_units
  refine rG ?_; intro V2 t3 ep2 lc vc cs kc hV2 hIc G h2 tk2 off2 F2 N2
  dsimp only [List.cons_append, List.nil_append] at N2
  simp only [Offs, LCg.Off1, and_true] at off2
  have ncp : @Ne Nat lc lp := off2.1.symm
  k_steps
  dsimp only
  rename News _ _ _ _ => nE
  have nP2 : News _ _ _ [(lc, listOf vc.toArray kc), (lp, _), _] := fun p hp => nE p (.tail _ hp)
  clear nE
  have l1 : 5 ≤ 5 + x1 := by omega
  have l2 : 5 + x1 ≤ 6 := by omega
  generalize 5 + x1 = log at *
  clear hb1
  have hp := pow_5 l1 (by omega)
  have hTo := G.told l1 l2
  have hcs : cs.length ≤ 32 := G.len
  have hbc : ∀ c ∈ cs, 0 ≤ c ∧ c ≤ 10000 := fun c hc => by have := G.each c hc; omega
  have hsum : 0 < cs.sum ∧ cs.sum ≤ 10000000 := ⟨(G.fair hp.1).pos, by have := G.sum_le; omega⟩
  have hHp := go hp
  refine plainR ?_
  k_steps
  refine go ?_
  refine' use0 (norm_call hIc (G.norm l1 (by omega))) ?i1 ?i2 ?i3 ?i4 ?i6 ?iK ?ir ?id ?iv ?_; (case i1 => k_asm); (case i2 => k_asm); (case i3 => k_asm); (case i4 => k_asm); (case i6 => k_asm); (case iK => rfl); (case ir => tb_rel); (case id => ktr_room); (case iv => ktr_units)
  refine rC ?_; intro lt vt kt hIt h3 tk3 off3 F3 N3
  dsimp only [List.cons_append, List.nil_append] at N3
  simp only [Offs, LCg.Off1, and_true] at off3
  have ntp : @Ne Nat lt lp := off3.2.1.symm
  have hbt : ∀ t ∈ normF cs log, -1000 ≤ t ∧ t ≤ 1000 := fun t ht => by have := hTo.b t ht; omega
  k_steps
  dsimp only
  rename News _ _ _ _ => nE
  have nP3 : News _ _ _ [(lt, listOf vt.toArray kt), (lc, listOf vc.toArray kc), (lp, _), _] := fun p hp => nE p (.tail _ hp)
  clear nE
  refine plainR ?_
  k_steps
  refine go ?_
  refine' use0 (tr_call hIc hIt (by omega) hbc hbt hsum (by omega) hTo.ok) ?i1 ?i2 ?i3 ?i4 ?i6 ?iK ?ir ?id ?iv ?_; (case i1 => k_asm); (case i2 => k_asm); (case i3 => k_asm); (case i4 => k_asm); (case i6 => k_asm); (case iK => rfl); (case ir => tb_rel); (case id => ktr_room); (case iv => ktr_units)
  refine rB ?_; intro  h4 tk4 _ F4 N4
  dsimp only [List.nil_append] at N4
  k_steps
  refine go ?_
  refine' use0 (near_call hIc hIt (by omega) (normF_length ..) hbc hbt hsum.1 hsum.2 l1 l2 (G.norm (by omega) (by omega)) (fun t ht => by have := told_bound (G.fair (pow_5 (by omega) (by omega)).1) t ht; have := pow_5 (log := log + 1) (by omega) (by omega); omega) hTo.near) ?i1 ?i2 ?i3 ?i4 ?i6 ?iK ?ir ?id ?iv ?_; (case i1 => k_asm); (case i2 => k_asm); (case i3 => k_asm); (case i4 => k_asm); (case i6 => k_asm); (case iK => rfl); (case ir => tb_rel); (case id => ktr_room); (case iv => ktr_units)
  refine rB ?_; intro  h5 tk5 _ F5 N5
  dsimp only [List.nil_append] at N5
  k_steps
  dsimp only
  refine execs_consR (IfR (isTrueR (CallR_ ?_)))
  k_steps
  refine callWithR1 (K := hd.heap_1 w.params) KX (by k_is) (CallR_ ?_)
  k_steps
  refine callWithR1 (K := hd.heap_1 w.params) KX (by k_is) (CallR_ ?_)
  k_steps
  refine callWithR (K := hd.heap_1 w.params) KX (by k_is) ?_
  k_steps
  obtain ⟨Ve, Nq, hE, hNe⟩ := hTo.enc
  have hlt := hTo.len
  refine' use0R (wcounts_call hIt l1 l2 hTo.b (by omega) hTo.places hE (by omega)) ?i1 ?i2 ?i3 ?i4 ?i6 ?iK ?ir ?id ?iv ?_; (case i1 => k_asm); (case i2 => k_asm); (case i3 => k_asm); (case i4 => k_asm); (case i6 => k_asm); (case iK => rfl); (case ir => tb_rel); (case id => ktr_room); (case iv => ktr_units)
  refine rY ?_; intro arr tb hle hsz h6 tk6 _ F6 N6
  dsimp only [List.nil_append] at N6
  have hN0 := hE.n0
  k_steps
  refine wpR_of ?_
  refine' useInit (fun x dx => initO_call (by omega)) ?k1 ?k2 ?k3 ?k4 ?k6 ?kK ?k7 ?k8 ?k9 ?kr ?kd ?ku ?_
  case k1 => k_asm
  case k2 => k_asm
  case k3 => k_asm
  case k4 => k_asm
  case k6 => k_asm
  case kK => rfl
  case k7 => k_is
  case k8 => k_is
  case k9 => k_is
  case kr => exact fun _ h => nomatch h
  case kd => ktr_room
  case ku => ktr_units
  rintro xo dq o7 ex7 h7 tk7 ⟨tbq, j1, j2, j3, u1, u2, rfl, rfl⟩ F7 N7 lo1 lo2 off7
  dsimp only [List.nil_append] at N7
  have hall := lo1
  have nxo : @Ne Nat xo dq := fun q => Nat.lt_irrefl _ (q ▸ lo2 : @LT.lt Nat _ dq dq)
  try k_lt lo1
  try k_lt2 lo2
  k_steps
  have hvl := hIt.length
  first
    | rw [show ((vt.toArray.size : Nat) : Int) = ((normF cs log).length : Int) by rw [List.size_toArray, hvl]]
    | rw [show ((vt.length : Nat) : Int) = ((normF cs log).length : Int) by rw [hvl]]
    | skip
  have hka : (KBw.bInts arr).length = arr.size := KBw.ints_length arr
  refine wpR_of ?_
  refine' use1 (rcounts_call (ts := normF cs log) (dq := dq) (ks := KBw.bInts arr) (V := Ve) (Nv := Nq) rfl (by omega) l1 l2 hTo.b (by omega) hE (by rw [← leI_leZ]; exact hle) (by omega)) ?i1 ?i2 ?i3 ?i4 ?iu ?i6 ?iK ?ir ?id ?iv ?_
  case i1 => k_asm
  case i2 => k_asm
  case i3 => k_asm
  case i4 => k_asm
  case iu => exact .tail nxo (.head fun p hp q => Nat.lt_irrefl _ (show @LT.lt Nat _ dq dq from q ▸ hall p hp))
  case i6 => k_asm
  case iK => rfl
  case ir => exact List.forall_mem_cons.mpr ⟨⟨News.get (by k_asm) (.head _), nxo⟩, fun _ h => nomatch h⟩
  case id => ktr_room
  case iv => ktr_units
  refine rX ?_; intro pl8 u8 d8 d9 v8 k8 t8 hI8 h8 tk8 off8 F8 N8
  dsimp only [List.cons_append, List.nil_append] at N8
  iterate 7 walk1
  rename News _ _ _ _ => nE
  refine ne_pair (News.get nE (.tail _ (.head _))) (News.get nE (.head _)) (News.isList nE (.tail _ (.tail _ (.head _)))) (News.isList nE (.tail _ (.tail _ (.tail _ (.tail _ (.tail _ (.head _))))))) hI8 hIt (by ke_room) ?_
  k_steps
  dsimp only
  refine plainEnd ?_
  k_steps
  refine plainEnd ?_
  have nM : News _ _ _ [(lt, listOf vt.toArray kt), (lc, listOf vc.toArray kc), (lp, _), _] := fun p hp => nE p (.tail _ (.tail _ (.tail _ (.tail _ (.tail _ hp)))))
  clear nE hI8 off8 hall nxo lo1 lo2 hE hNe hle hsz hka hvl hN0
  have hp4 := hold hHp
  clear hHp
  k_with "compareOp NotEq ref ref" => refine hold ?_
  k_steps
  refine go ?_
  refine' use1 (figure_call (M := 7) hV2 (by decide) (by decide)) ?i1 ?i2 ?i3 ?i4 ?iu ?i6 ?iK ?ir ?id ?iv ?_; (case i1 => k_asm); (case i2 => k_asm); (case i3 => k_asm); (case i4 => k_asm); (case iu => exact .tail ntp (.tail ncp (.head (List.forall_mem_cons.mpr ⟨npc, fun _ h => nomatch h⟩)))); (case i6 => k_asm); (case iK => rfl); (case ir => exact fun _ h => nomatch h); (case id => ktr_room); (case iv => ktr_units)
  refine rD ?_; intro t91 t92 ep9 h9 tk9 _ F9 N9
  dsimp only [List.nil_append] at N9
  k_steps
  have hV3 : 0 ≤ V2 / 7 := by omega
  have htm : 0 < 2 + V2 % 7 ∧ 2 + V2 % 7 ≤ 8 := by omega
  generalize V2 / 7 = V3 at *
  generalize 2 + V2 % 7 = tm at *
  refine go ?_
  refine c0_src (by rfl) (by k_asm) (by k_asm) (src_led (.tail _ (.head _))) hIc (by omega) (fun c => c * tm) ?t2 ?d2
  case t2 =>
    (first | (refine rE ?_; intro g1 v tv zs I oI C oC D m₂ h tk E' hmem hC ha kFr kNews) | (rintro _ ⟨g1, rfl⟩ v tv zs I oI C oC D m₂ h tk E' hmem hC ha kFr kNews))
    have hq1 := hbc _ hmem
    try ((try change wpAny _ _ _ _ _ _); k_fold)
    k_steps
    exact pc_end (by assumption) (by assumption) ⟨_, rfl⟩
  (first | (refine rE ?_; intro g1 vsB hvsB) | (rintro _ ⟨g1, rfl⟩ vsB hvsB))
  try ((try change wpAny _ _ _ _ _ _); k_fold)
  k_steps
  refine go ?_
  refine' use0 (norm_call hvsB (G.norm_times l1 (by omega) htm.1 htm.2)) ?i1 ?i2 ?i3 ?i4 ?i6 ?iK ?ir ?id ?iv ?_; (case i1 => k_asm); (case i2 => k_asm); (case i3 => k_asm); (case i4 => k_asm); (case i6 => k_asm); (case iK => rfl); (case ir => tb_rel); (case id => ktr_room); (case iv => ktr_units)
  refine rC ?_; intro l9 v9 k9 hI9 h11 tk11 _ F11 N11
  dsimp only [List.cons_append, List.nil_append] at N11
  rw [normF_times htm.1] at hI9
  k_steps
  refine go ?_
  refine' use0 (lacks_call hIc hIt (by omega) hbc hbt ⟨by omega, hsum.2⟩ (by omega)) ?i1 ?i2 ?i3 ?i4 ?i6 ?iK ?ir ?id ?iv ?_; (case i1 => k_asm); (case i2 => k_asm); (case i3 => k_asm); (case i4 => k_asm); (case i6 => k_asm); (case iK => rfl); (case ir => tb_rel); (case id => ktr_room); (case iv => ktr_units)
  refine rC ?_; intro dL vL kL hIL h13 tk13 _ F13 nS
  dsimp only [List.cons_append, List.nil_append] at nS
  k_steps
  refine kso_sorted (by k_asm) nS (News.isList nS (.head _)) hIL (by have := lacks_len cs (normF cs log) (2 ^ log.toNat); omega) fun D1 vD nD cD hD FD ND lD iD eD pD oD _ => ?_
  have nM2 : News _ _ _ [(D1, listOf vD.toArray cD), (lt, listOf vt.toArray kt), (lc, listOf vc.toArray kc), (lp, _), _] := fun p hp => by
    rcases List.mem_cons.mp hp with rfl | hp
    · exact ND _ (.head _)
    · exact ND _ (.tail _ (.tail _ (.tail _ (.tail _ hp))))
  have n1p : @Ne Nat D1 lp := Nat.ne_of_gt (lD _ (.tail _ (.tail _ (.tail _ (.tail _ (.tail _ (.head _)))))))
  k_lt lD
  clear ND nS hIL
  k_steps
  refine go ?_
  refine' use1 (figure_call (M := 3) hV3 (by decide) (by decide)) ?i1 ?i2 ?i3 ?i4 ?iu ?i6 ?iK ?ir ?id ?iv ?_; (case i1 => k_asm); (case i2 => k_asm); (case i3 => k_asm); (case i4 => k_asm); (case iu => exact .tail n1p (.tail ntp (.tail ncp (.head (List.forall_mem_cons.mpr ⟨npc, fun _ h => nomatch h⟩))))); (case i6 => k_asm); (case iK => rfl); (case ir => exact fun _ h => nomatch h); (case id => ktr_room); (case iv => ktr_units)
  refine rD ?_; intro t12 t13 ep12 h12 tk12 _ F12 N12
  dsimp only [List.nil_append] at N12
  iterate 12 walk1
  have hled : 1 ≤ 1 + V3 % 3 ∧ 1 + V3 % 3 ≤ 3 := by omega
  generalize 1 + V3 % 3 = led at *
  rename News _ _ _ _ => nE
  have nM3 : News _ _ _ [(D1, listOf vD.toArray cD), (lt, listOf vt.toArray kt), (lc, listOf vc.toArray kc)] := fun p hp => nE p (.tail _ (by
    rcases List.mem_cons.mp hp with rfl | hp
    · exact .head _
    rcases List.mem_cons.mp hp with rfl | hp
    · exact .tail _ (.head _)
    rw [List.mem_singleton.mp hp]; exact .tail _ (.tail _ (.head _))))
  clear nE
  iterate 14 walk1
  rename Addr => lr
  rename List Value => wr
  rename News _ _ _ _ => nR
  rename IntsAre _ cs.reverse => hIr
  iterate 9 walk1
  refine kmk_slice_ints (by k_asm) nR (News.isList nR (.tail _ (.tail _ (.tail _ (.head _))))) (IsPart.int _ _) IsPart.none hIc (kmk_from hIc (show 0 ≤ led by omega)) rfl (fun D2 w2 hh2 FF2 NN2 ll2 hI2 _ hL2 => ?_) (by with_unfolding_all rfl) (by kmk_pure) (by have := hIc.length; rw [List.size_toArray, sizeLine_eq]; omega)
  iterate 7 walk1
  refine kmk_slice_ints (by k_asm) NN2 (News.isList NN2 (.tail _ (.tail _ (.tail _ (.tail _ (.head _)))))) IsPart.none (IsPart.int _ _) hIc (kmk_upto hIc (show 0 ≤ led by omega)) rfl (fun D3 w3 hh3 FF3 NN3 ll3 hI3 _ hL3 => ?_) (by with_unfolding_all rfl) (by kmk_pure) (by have := hIc.length; rw [List.size_toArray, sizeLine_eq]; omega)
  iterate 1 walk1
  rename Addr => l2
  rename List Value => v2
  rename News _ _ _ _ => n2
  rename IntsAre _ (_ ++ _) => hI5
  rename _ ∧ _ => ll5
  have n12 : @Ne Nat l2 lr := Nat.ne_of_gt ll5.2.2.1
  have nM4 : News _ _ _ [(l2, listOf v2.toArray 0), (lr, listOf wr.toArray 0), (D1, listOf vD.toArray cD), (lt, listOf vt.toArray kt), (lc, listOf vc.toArray kc)] := fun p hp => by
    rcases List.mem_cons.mp hp with rfl | hp
    · exact n2 _ (.head _)
    · exact n2 _ (.tail _ (.tail _ (.tail _ hp)))
  clear n2 hI2 hI3 ll2 ll3 hL2 hL3 ll5
  k_steps
  refine go ?_
  have hG1 := G.norm_perm ((List.reverse_perm cs).symm) l1 (show log ≤ 7 by omega)
  have hf1 := (G.fair hp4.1).perm ((List.reverse_perm cs).symm)
  have hb1 := hG1.b
  have hbt1 : ∀ t ∈ normF (cs.reverse) log, -1000 ≤ t ∧ t ≤ 1000 := fun t ht => by have := told_bound hf1 t ht; omega
  have hq1 := lacks_perm ((List.reverse_perm cs).symm) (G.fair hp4.1) (log := log)
  have hs1 : 0 ≤ (cs.reverse).sum ∧ (cs.reverse).sum ≤ 10000000 := ⟨Int.le_of_lt hG1.pos, hG1.sum⟩
  have hl1 := ((List.reverse_perm cs).symm).length_eq
  refine' use0 (norm_call hIr hG1) ?i1 ?i2 ?i3 ?i4 ?i6 ?iK ?ir ?id ?iv ?_; (case i1 => k_asm); (case i2 => k_asm); (case i3 => k_asm); (case i4 => k_asm); (case i6 => k_asm); (case iK => rfl); (case ir => tb_rel); (case id => ktr_room); (case iv => ktr_units)
  refine rC ?_; intro la1 va1 ka1 hIa1 ha1 tka1 _ Fa1 Na1
  dsimp only [List.cons_append, List.nil_append] at Na1
  k_steps
  refine go ?_
  refine' use0 (lacks_call hIr hIa1 (by omega) hb1 hbt1 hs1 (by omega)) ?i1 ?i2 ?i3 ?i4 ?i6 ?iK ?ir ?id ?iv ?_; (case i1 => k_asm); (case i2 => k_asm); (case i3 => k_asm); (case i4 => k_asm); (case i6 => k_asm); (case iK => rfl); (case ir => tb_rel); (case id => ktr_room); (case iv => ktr_units)
  refine rC ?_; intro lb1 vb1 kb1 hIb1 hhb1 tkb1 _ Fb1 Nb1
  dsimp only [List.cons_append, List.nil_append] at Nb1
  k_steps
  refine kso_sorted (by k_asm) Nb1 (News.isList Nb1 (.head _)) hIb1 (by have := lacks_len (cs.reverse) (normF (cs.reverse) log) (2 ^ log.toNat); omega) fun Ds1 vs1 ns1 cs1 hs'1 Fs1 Ns1 ls1 is1 es1 ps1 os1 _ => ?_
  have hE1 : ns1 = nD := sorted_eq (ps1.trans (hq1.symm.trans pD.symm)) os1 oD
  subst hE1
  clear hb1 hbt1 hs1 hIb1 hIa1 hf1 hG1 ls1
  k_steps
  rename News _ _ _ _ => nE
  have nT := fun p hp => nE p (pick4 hp)
  have hrot : cs.Perm (cs.drop led.toNat ++ cs.take led.toNat) := by
    have := List.perm_append_comm (l₁ := cs.take led.toNat) (l₂ := cs.drop led.toNat)
    rwa [List.take_append_drop] at this
  replace nT : News _ _ _ _ := nT
  clear nE
  refine go ?_
  have hG2 := G.norm_perm (hrot) l1 (show log ≤ 7 by omega)
  have hf2 := (G.fair hp4.1).perm (hrot)
  have hb2 := hG2.b
  have hbt2 : ∀ t ∈ normF (cs.drop led.toNat ++ cs.take led.toNat) log, -1000 ≤ t ∧ t ≤ 1000 := fun t ht => by have := told_bound hf2 t ht; omega
  have hq2 := lacks_perm (hrot) (G.fair hp4.1) (log := log)
  have hs2 : 0 ≤ (cs.drop led.toNat ++ cs.take led.toNat).sum ∧ (cs.drop led.toNat ++ cs.take led.toNat).sum ≤ 10000000 := ⟨Int.le_of_lt hG2.pos, hG2.sum⟩
  have hl2 := (hrot).length_eq
  refine' use0 (norm_call hI5 hG2) ?i1 ?i2 ?i3 ?i4 ?i6 ?iK ?ir ?id ?iv ?_; (case i1 => k_asm); (case i2 => k_asm); (case i3 => k_asm); (case i4 => k_asm); (case i6 => k_asm); (case iK => rfl); (case ir => tb_rel); (case id => ktr_room); (case iv => ktr_units)
  refine rC ?_; intro la2 va2 ka2 hIa2 ha2 tka2 _ Fa2 Na2
  dsimp only [List.cons_append, List.nil_append] at Na2
  k_steps
  refine go ?_
  refine' use0 (lacks_call hI5 hIa2 (by omega) hb2 hbt2 hs2 (by omega)) ?i1 ?i2 ?i3 ?i4 ?i6 ?iK ?ir ?id ?iv ?_; (case i1 => k_asm); (case i2 => k_asm); (case i3 => k_asm); (case i4 => k_asm); (case i6 => k_asm); (case iK => rfl); (case ir => tb_rel); (case id => ktr_room); (case iv => ktr_units)
  refine rC ?_; intro lb2 vb2 kb2 hIb2 hhb2 tkb2 _ Fb2 Nb2
  dsimp only [List.cons_append, List.nil_append] at Nb2
  k_steps
  refine kso_sorted (by k_asm) Nb2 (News.isList Nb2 (.head _)) hIb2 (by have := lacks_len (cs.drop led.toNat ++ cs.take led.toNat) (normF (cs.drop led.toNat ++ cs.take led.toNat) log) (2 ^ log.toNat); omega) fun Ds2 vs2 ns2 cs2 hs'2 Fs2 Ns2 ls2 is2 es2 ps2 os2 _ => ?_
  have hE2 := sorted_eq (ps2.trans (hq2.symm.trans pD.symm)) os2 oD
  subst hE2
  clear hb2 hbt2 hs2 hIb2 hIa2 hf2 hG2 ls2
  k_steps
  rename News _ _ _ _ => nE
  have nP5 : News _ _ _ [(lc, listOf vc.toArray kc)] := fun p hp => by
    rw [List.mem_singleton.mp hp]; exact nE _ (.tail _ (.tail _ (.tail _ (.tail _ (.tail _ (.tail _ (.tail _ (.tail _ (.head _)))))))))
  clear nE nT
  refine go ?_
  refine c1_src (by rfl) (by k_asm) (by k_asm) (src_led (.head _)) hIc (by omega) (fun c => if c > 0 then some c else none) ?t3 ?d3
  case' t3 => (first | (refine rE ?_; intro g1 v tv zs I oI C oC D m₂ h tk E' hmem hC ha kFr kNews) | (rintro _ ⟨g1, rfl⟩ v tv zs I oI C oC D m₂ h tk E' hmem hC ha kFr kNews))
  case' d3 =>
    (first | (refine rE ?_; intro g1 vsU hvsU) | (rintro _ ⟨g1, rfl⟩ vsU hvsU))
    have hIU : IntsAre vsU (usedC cs) := hvsU
    clear hvsU
  all_goals (try ((try change wpAny _ _ _ _ _ _); k_fold))
  k_steps
  rotate_left
  · exact pc_end (by assumption) (by assumption) ⟨_, _, if_pos (by omega), rfl⟩
  · exact pc_end (by assumption) (by assumption) (if_neg (by omega))
  rename News _ _ _ _ => nU
  have hUl := hIU.length
  have hUc := usedC_le cs
  refine KM.mul (by k_asm) nU (News.isList nU (.head _)) hIU (by decide) (by decide) (show vsU.length * 32 ≤ 2 ^ 24 by omega) fun DM hM FM NM lM hIM _ _ _ _ _ => ?_
  obtain ⟨hu1, hu2⟩ := used_list G
  have hNu := used_norm hu1 hu2
  have hOn := used_ones hu1 fun u hu => (hu2 u hu).1
  have hbu := used_bound hNu hu1
  have hfl : (List.replicate (32 : Int).toNat (usedC cs)).flatten.length ≤ 1024 := by rw [rep_len]; show 32 * _ ≤ 1024; omega
  generalize (List.replicate (32 : Int).toNat (usedC cs)).flatten = full at hIM hu1 hu2 hNu hOn hfl hbu
  generalize (List.replicate (32 : Int).toNat vsU).flatten = vm at NM hIM
  have hvm := hIM.length
  have nW : News _ _ _ [(DM, listOf vm.toArray 0)] := fun p hp => by rw [List.mem_singleton.mp hp]; exact NM _ (.head _)
  clear NM lM nU hIU hUl
  iterate 5 walk1
  refine kba_turn (value' := .Name (Str.ofString "_") default) (fun _ => by with_unfolding_all rfl) ?_
  refine kmk_slice_ints (by k_asm) nW (News.isList nW (.head _)) IsPart.none (IsPart.int _ _) hIM (kmk_upto hIM (show (0 : Int) ≤ 32 by decide)) rfl (fun D6 w6 hh6 FF6 NN6 ll6 hI6 _ hL6 => ?_) (by with_unfolding_all rfl) (by kmk_pure) (by rw [List.size_toArray, sizeLine_eq]; omega)
  generalize List.take (32 : Int).toNat full = us at hI6 hNu hOn hu1 hu2 hbu
  clear hL6
  k_steps
  rename IntsAre _ (normF us 5) => hIz
  have hz9 := hIz.length
  have hz8 := normF_length us 5
  refine go ?_
  refine c0_src (by rfl) (by k_asm) (by k_asm) (src_led (.head _)) hIz (by omega) absI ?t4 ?d4
  case t4 =>
    (first | (refine rE ?_; intro g1 v tv zs I oI C oC D m₂ h tk E' hmem hC ha kFr kNews) | (rintro _ ⟨g1, rfl⟩ v tv zs I oI C oC D m₂ h tk E' hmem hC ha kFr kNews))
    have hq1 := hbu _ hmem
    try ((try change wpAny _ _ _ _ _ _); k_fold)
    k_steps
    exact pc_end (by assumption) (by assumption) ⟨_, rfl⟩
  (first | (refine rE ?_; intro g1 vsZ hvsZ) | (rintro _ ⟨g1, rfl⟩ vsZ hvsZ))
  rw [hOn] at hvsZ
  try ((try change wpAny _ _ _ _ _ _); k_fold)
  k_steps
  refine hQn _ _ ?_
  k_steps

end Mine
theorem PySem.Challenge.cw_pq1220_01_holds : PySem.Challenge.rw_pq1220_01.Holds :=
  Mine.law_walk
