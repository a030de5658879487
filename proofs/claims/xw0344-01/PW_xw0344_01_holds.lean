import PyProof.Rows.All
import Wide.All
import OpenK.AllK
import Wide.FinOn
import Lean
import PySem.Challenge.RW_xw0344_01
set_option Elab.async false
set_option linter.unusedVariables false
set_option compiler.extract_closed false
section
open PySem PySem.W PyProof.Rows
set_option Elab.async false
set_option maxRecDepth 1000000
namespace Mine
/-- the top's run, told by one recursion over the fuel, the heap a tree -/
noncomputable def runT (den : Code → Sem Fin) (p : Program) (w : World) (n₀ : Nat) (ann : Option Value) (n : Nat) : SharedT → Thread → Option SharedT :=
  @Nat.rec (fun _ => SharedT → Thread → Option SharedT) (fun _ _ => none)
    (fun _ ih s t => match through t with
      | true => some s
      | false => match Fast.tw6613529449190102663 n₀ ann t with
        | false => none
        | true => match Fast.tw10156331382660048174 den p w s t with
          | some (s', t') => ih s' t'
          | none => none) n
noncomputable def insAll : Nat → BT → List Obj → BT
  | _, T, [] => T
  | n, T, o :: r => insAll (n + 1) (T.ins n o) r
noncomputable def T0 (P : Params) : BT := insAll 0 .nil (boot_heap P).objs.toList
noncomputable def S0 (w : World) (os : OsState) : SharedT := ⟨T0 w.params, 11, (boot_heap w.params).life, #[], boot_drawn, boot_toks, os⟩
noncomputable def den : Code → Sem Fin := Fast.tw11892475500146522536 Fast.tw14364793385576792824
theorem den_eq : den = denote treeTable := by
  unfold den
  rw [← Fast.te11892475500146522536, ← Fast.te14364793385576792824]
theorem runT_sound {p : Program} {w : World} {n₀ : Nat} {ann : Option Value} : ∀ (n : Nat) (s : SharedT) (t : Thread) (s' : SharedT), runT den p w n₀ ann n s t = some s' → topRun treeTable p w n₀ ann n s.abs t = some s'.abs
  | 0, _, _, _, h => by
    have h' : (none : Option SharedT) = some _ := h
    cases h'
  | n + 1, s, t, s', h => by
    have h' : (match through t with
      | true => some s
      | false => match Fast.tw6613529449190102663 n₀ ann t with
        | false => none
        | true => match Fast.tw10156331382660048174 den p w s t with
          | some (a, b) => runT den p w n₀ ann n a b
          | none => none) = some s' := h
    rw [← Fast.te6613529449190102663, ← Fast.te10156331382660048174, den_eq] at h'
    unfold topRun
    cases ht : through t with
    | true => rw [ht] at h'; cases h'; rfl
    | false =>
      rw [ht] at h'
      dsimp only at h' ⊢
      cases hk : stepOk n₀ ann t with
      | false => rw [hk] at h'; cases h'
      | true =>
        rw [hk] at h'
        dsimp only at h' ⊢
        cases hs : stepT (denote treeTable) p w s t with
        | none => rw [hs] at h'; cases h'
        | some r =>
          obtain ⟨s₂, t₂⟩ := r
          rw [hs] at h'
          rw [stepT_spec hs]
          dsimp only at h' ⊢
          rw [← den_eq] at h'
          exact runT_sound n s₂ t₂ s' h'
theorem abs_boot (P : Params) : absHeap (T0 P) 11 (boot_heap P).life = boot_heap P := by kernel_rfl
theorem boot_size (P : Params) : ((boot_heap P).isNs mainGlobals && (#[] : Array GenState).size == 0, (boot_heap P).objs.size, (boot_heap P).nsMap mainGlobals "__annotations__") = (true, 11, some (.ref 6)) := by kernel_rfl
abbrev pw : Program := PySem.Challenge.pw_xw0344_01
theorem open_pw : opening pw = plainProg pw.main.scope.names := by kernel_rfl
theorem fence_pw (s : Shared) : fenceModules? pw s = some s := by kernel_rfl

def getT (s : SharedT) (a : Nat) : Option Obj := match Nat.blt a s.n with
  | true => match s.tree.get a with
    | some o => alive o
    | none => none
  | false => none
theorem getT_of {s : SharedT} {as : List Nat} {r : List (Option Obj)} (h : as.map (getT s) = r) (hn : as.all (fun a => (s.tree.get a).isSome) = true) : as.map s.abs.heap.get? = r := by
  rw [← h]
  refine List.map_congr_left fun a ha => ?_
  unfold getT
  cases e : Nat.blt a s.n with
  | false => exact abs_get_none fun lt => by rw [show Nat.blt a s.n = true from Nat.ble_eq_true_of_le lt] at e; cases e
  | true =>
    have hg := List.all_eq_true.mp hn a ha
    cases g : s.tree.get a with
    | none => rw [g] at hg; cases hg
    | some o => exact abs_get (Nat.le_of_ble_eq_true e) g
theorem left_gen {p q : Program} {loose : List Str} {Xt : Shared → Bool} {as : List Nat} {Ya : World → List (Option Obj)} {N n₀ : Nat} {ann : Option Value} {H : Params → Heap} {T : Params → BT} {gs : Array GenState} {d : Drawn} {k : Nat}
    (open_ : ∀ w : World, (fencedOpening treeTable p w N).map (fun s => (s.heap, s.gens, s.drawn, s.toks)) = some (H w.params, gs, d, k))
    (size : ∀ P : Params, ((H P).isNs mainGlobals && gs.size == 0, (H P).objs.size, (H P).nsMap mainGlobals "__annotations__") = (true, n₀, ann))
    (tree : ∀ P : Params, absHeap (T P) n₀ (H P).life = H P)
    (h : ∀ (w : World) (os : OsState), (runT den p w n₀ ann N ⟨T w.params, n₀, (H w.params).life, gs, d, k, os⟩ (topStub p)).map (fun s =>
        ((staticsOk (importedModules p.main.body) (H w.params) s.abs.heap && namesBound p s.abs.heap && gensDone s.abs && laidKept (H w.params) s.abs.heap),
         Fast.tw4187177175401517315 q loose (importedModules p.main.body) Xt true s.abs, as.map (getT s), as.all (fun a => (s.tree.get a).isSome))) = some (true, openGood q loose, Ya w, true)) : LeftO p q loose Xt (fun s => as.map s.heap.get?) Ya N true := fun w => by
  obtain ⟨⟨h0, gs', d', k', os⟩, e, e'⟩ := Option.map_eq_some_iff.mp (open_ w)
  obtain ⟨rfl, rfl, rfl, rfl⟩ : h0 = H w.params ∧ gs' = gs ∧ d' = d ∧ k' = k := by simpa using e'
  obtain ⟨s, hs, hl⟩ := Option.map_eq_some_iff.mp (h w os)
  rw [← Fast.te4187177175401517315] at hl
  obtain ⟨l1, l2, l3, l4⟩ : _ ∧ _ ∧ _ ∧ _ := by simpa only [Prod.mk.injEq] using hl
  obtain ⟨z1, z2, z3⟩ : _ ∧ _ ∧ _ := by simpa only [Prod.mk.injEq] using size w.params
  have r := runT_sound _ _ _ _ hs
  have ea : (⟨T w.params, n₀, (H w.params).life, gs', d', k', os⟩ : SharedT).abs = ⟨H w.params, gs', d', k', os⟩ := by
    show (⟨absHeap (T w.params) n₀ (H w.params).life, gs', d', k', os⟩ : Shared) = _
    rw [tree]
  rw [ea] at r
  have t : topFrom treeTable p w N ⟨H w.params, gs', d', k', os⟩ = some s.abs := by
    unfold topFrom
    dsimp only
    rw [z1, z2, z3, r]
    show (match staticsOk (importedModules p.main.body) (H w.params) s.abs.heap && namesBound p s.abs.heap && gensDone s.abs && laidKept (H w.params) s.abs.heap with | true => _ | false => _) = _
    rw [l1]
  unfold openEnds
  rw [e]
  show (topFrom treeTable p w N _).map _ = _
  rw [t]
  exact congrArg some (Prod.ext l2 (getT_of l3 l4))
end Mine
end
section
open PySem PySem.W PyProof.Rows
set_option Elab.async false
set_option maxRecDepth 1000000
namespace Mine
theorem said : PySem.Challenge.rw_xw0344_01.wellSaid = true :=
  (congrFun Fast.te9446332074065402090 _).trans (by decide +kernel)
end Mine
end
section
open PySem PySem.W PyProof.Rows PySem.Calls
set_option Elab.async false
set_option maxRecDepth 100000
namespace Mine
open PySem.Builtin.Bytes (decodersThatHold)
def badIds : List String := decodersThatHold ++ ["bytearray.__contains__", "bytearray.__mod__", "bytearray.__rmod__", "_struct.pack_into.held", "bytearray.find.held"]
def okC : Code → Bool
  | .builtin id _ => !badIds.contains id
  | _ => true
def Cl (Γ : Ctx) : Prop := okC Γ.code = true ∧ ∀ x ∈ Γ.below, okC x.1 = true
def wpC {α : Type} (M : Model) (A : Around) (t : Sem α) (Q : α → Shared → Prop) (E : Value → Shared → Prop) (s : Shared) : Prop :=
  ∀ Γ p, Γ.In A → Cl Γ → Sem.wp M Γ t (fun a _ s' => Q a s') (fun e _ s' => E e s') p s
def codeC (M : Model) (A : Around) (c : Code) (R : Result → Shared → Prop) (s : Shared) : Prop :=
  ∀ Γ p, Γ.code = c → Γ.Below A → (∀ x ∈ Γ.below, okC x.1 = true) → wpCode M Γ R p s
theorem caller_clean : Cl (⟨.builtin "claim.caller" {}, none, none, [], none⟩ : Ctx) := ⟨by decide +kernel, fun _ h => nomatch h⟩
theorem wpC_pure {α : Type} {M : Model} {A : Around} {E : Value → Shared → Prop} {s : Shared} {a : α} {Q : α → Shared → Prop} (h : Q a s) : wpC M A (pure a) Q E s := fun _ _ _ _ => h
theorem wpC_mono {α : Type} {M : Model} {A : Around} {E : Value → Shared → Prop} {s : Shared} {t : Sem α} {Q Q' : α → Shared → Prop} {E' : Value → Shared → Prop} (h : wpC M A t Q E s) (hQ : ∀ a s, Q a s → Q' a s) (hE : ∀ e s, E e s → E' e s) : wpC M A t Q' E' s :=
  fun Γ p hΓ c => Sem.wp_mono M Γ t (fun a _ s => hQ a s) (fun e _ s => hE e s) p s (h Γ p hΓ c)
theorem wpC_anyBind {α β : Type} {M : Model} {A : Around} {E : Value → Shared → Prop} {s : Shared} {m : Sem α} {f : α → Sem β} {Q : β → Shared → Prop} (h : wpAny M A m (fun a s' => wpC M A (f a) Q E s') E s) : wpC M A (m >>= f) Q E s := fun Γ p hΓ c => by
  rw [Sem.wp_bind']
  exact Sem.wp_mono M Γ m (fun a p' s' h' => h' Γ p' hΓ c) (fun _ _ _ h' => h') p s (h Γ p hΓ)
theorem wpC_bind {α β : Type} {M : Model} {A : Around} {E : Value → Shared → Prop} {s : Shared} {m : Sem α} {f : α → Sem β} {Q : β → Shared → Prop} (h : wpC M A m (fun a s' => wpC M A (f a) Q E s') E s) : wpC M A (m >>= f) Q E s := fun Γ p hΓ c => by
  rw [Sem.wp_bind']
  exact Sem.wp_mono M Γ m (fun a p' s' h' => h' Γ p' hΓ c) (fun _ _ _ h' => h') p s (h Γ p hΓ c)
/-- the caller's thread starts on a clean stack -/
theorem thread_clean {prog : Program} {w : World} {t : Sem Fin} {s : Shared} {R : Result → Shared → Prop} (hreg : s.asleep)
    (h : wpC (model prog w) callerA t (fun fin s' => ∃ f, fin = .done f ∧ (R (.ok f) s' ∧ AllBare s'.gens)) (fun e s' => R (.error e) s' ∧ AllBare s'.gens) s) :
    ∃ n r s' s'', runN (denote table) prog w n s ⟨t, .builtin "claim.caller" {}, default, []⟩ = .halted (outcomeOf r) s' ∧
      schedN (denote table) prog w n (.single s ⟨t, .builtin "claim.caller" {}, default, []⟩) = .halted (outcomeOf r) s' ∧ s'.forget = s''.forget ∧ R r s'' := by
  have h0 : Sem.wp (model prog w) ⟨.builtin "claim.caller" {}, none, none, [], none⟩ t (Sem.finPost (model prog w) ⟨.builtin "claim.caller" {}, none, none, [], none⟩ fun r s' => R r s' ∧ leftWithCleanup s'.gens = false)
      (fun e _ s' => R (.error e) s' ∧ leftWithCleanup s'.gens = false) default s := by
    refine Sem.wp_mono _ _ t (fun fin p' s' h' => ?_) (fun _ _ _ h' => ⟨h'.1, leftWithCleanup_false_of_bare h'.2⟩) default s (h _ default caller_in caller_clean)
    obtain ⟨f, rfl, h1, h2⟩ := h'
    exact ⟨h1, leftWithCleanup_false_of_bare h2⟩
  obtain ⟨n, r, s₁, s₂, hs, hn, hfo, hR⟩ := wp_halts_full (M := model prog w) (R := R) hreg h0
  exact ⟨n, r, s₂, s₁, hn, hs, hfo, hR⟩
theorem callFrom_clean {c : ClaimW} {tree : List Value → Sem Fin} {w : World} {s : Shared} {free : Addr → Prop} {gens : Prop} {kept : Heap → Prop} (hz : s.asleep) (hgens : s.gens = #[])
    (hspec : ∀ args, c.pre args = true → WData.layableAll args = true → ∀ ord : List DictEntry → List DictEntry, (∀ l, (ord l).Perm l) →
      ∃ vs s₁, layAllW c.records (classAt s.heap) w.params ord args s = some (vs, s₁) ∧
        wpC (model c.prog w) callerA (tree vs) (fun fin s' => ∃ f, fin = .done f ∧ (c.Ends s args vs s₁ (.ok f) s' ∧ s'.os = s.os ∧ AllBare s'.gens ∧ kept s'.heap))
          (fun e s' => c.Ends s args vs s₁ (.error e) s' ∧ s'.os = s.os ∧ AllBare s'.gens ∧ kept s'.heap) s₁) :
    c.CallFrom (fun vs => ⟨tree vs, .builtin "claim.caller" {}, default, []⟩) w free gens kept s := by
  intro args hpre hlay ord hord
  obtain ⟨vs, s₁, hlaid, hcode⟩ := hspec args hpre hlay ord hord
  have hal := layAllW_rest _ _ _ hlaid
  obtain ⟨k, r, s', s'', hrun, hsched, hfo, hcase, hos, hkp⟩ := thread_clean (prog := c.prog) (w := w) (t := tree vs) (s := s₁) (R := fun r s' => c.Ends s args vs s₁ r s' ∧ s'.os = s.os ∧ kept s'.heap)
    (Shared.asleep_of_life hal.2.2.2 hz) (wpC_mono hcode (fun _ _ ⟨f, e, h1, h2, h3, h4⟩ => ⟨f, e, ⟨h1, h2, h4⟩, h3⟩) fun _ _ ⟨h1, h2, h3, h4⟩ => ⟨⟨h1, h2, h4⟩, h3⟩)
  obtain ⟨eh, _, _, eo, _⟩ := Shared.forget_eq hfo
  have hcase := hcase.congr eh
  rw [← eh] at hkp
  rw [← eo] at hos
  have hlife : s'.heap.life = s.heap.life := (runN_life _ _ _ hrun).trans hal.2.2.2
  refine ⟨vs, s₁, hlaid, k, _, s', hsched, ?_, (fun _ i x hx => by rw [hgens] at hx; simp at hx), hkp, by rw [hlife], Shared.rest_eq hos⟩
  rcases hcase with ⟨v, rfl, d1, d2, d3, d4, d5⟩ | ⟨e, ob, cls, rfl, d1, d2, d3, d4, d5⟩
  · exact .inl ⟨v, rfl, d1, d2, d3, fun b o y _ => d4 b o y, d5⟩
  · exact .inr ⟨e, ob, cls, rfl, d1, d2, d3, d4, fun b o y _ => d5 b o y⟩
/-- as WalkO, on a clean stack -/
abbrev WalkCl (q : Program) (loose : List Str) (XP : (Str → Option Value) → Heap → Prop) (YP : World → Heap → Prop) (r : RowW) (d : DefRec) (kwd : List (Str × Expr)) : Prop :=
  ∀ (w : World) (s₀ s₁ : Shared) (mg mb : Str → Option Value), Ground q loose r.records XP w s₀ mg mb s₁.heap → YP w s₁.heap → ∀ (a : Addr) (o : Obj) (pm cd doc dV kV : Value), s₁.heap.get? a = some o →
    o.data = .func { docDef d.name d.params d.body d.scope pm cd doc with defaults := dV, kwdefaults := kV } → s₁.heap.CodeRec cd d.name → Dflts mg s₁.heap d.params kwd dV kV → mg d.name = some (.ref a) → s₁.gens = #[] →
    ∀ (args : List WData) (vals : List Value) (as : List Addr), r.claim.pre args = true → WData.layableAll args = true → ReadsAllW r.records (classAt s₀.heap) s₁.heap vals args as → WellAll w.params s₁.heap vals args → (∀ a ∈ as, (a == sysModules) = false) →
      wpC (model r.prog w) callerA (PySem.call (.ref a) vals) (fun v s' => GoodWG r.claim (classAt s₀.heap) (ExcName.means s₀.heap) args s₁ (.ok (.ret v)) s')
        (fun e s' => GoodWG r.claim (classAt s₀.heap) (ExcName.means s₀.heap) args s₁ (.error e) s') s₁
theorem holds_clean {r : OpenRow} {q : Program} {loose : List Str} {Xt : Shared → Bool} {XP : (Str → Option Value) → Heap → Prop} {α : Type} {Yf : Shared → α} {Ya : World → α} {YP : World → Heap → Prop} {d : DefRec} {kwd : List (Str × Expr)} {N : Nat}
    (left : LeftO r.prog q loose Xt Yf Ya N) (hY : ∀ w s, Yf s = Ya w → YP w s.heap) (hYk : ∀ w h h', YP w h → (∀ b o, h.get? b = some o → h'.get? b = some o) → YP w h')
    (hX : ∀ s, Xt s = true → XP (s.heap.nsMap mainGlobals) s.heap) (hXk : ∀ mg h h', XP mg h → (∀ b o, h.get? b = some o → h'.get? b = some o) → XP mg h')
    (hdef : defOf q r.name = some (d, kwd)) (hp : r.prog.theDef r.name = some (d.params, d.body, d.scope)) (hk : kwWritten? d.params.kwonlyargs d.params.kw_defaults = some kwd) (hRf : ∀ s, Xt s = true → RecFacts r.records s.heap) (hwr : (!r.writes || r.records.isEmpty) = true)
    (k1 : r.wellSaid = true) (ok : (chainsOk q && opensWell r.prog && (frees r.toRowW && r.within.isEmpty)) = true) (hb : r.prog.bare) (hw : r.toRowW.promised)
    (call : WalkCl q loose XP YP r.toRowW d kwd) : r.Holds := by
  obtain ⟨ok1, k5⟩ := Bool.and_eq_true_iff.mp ok
  obtain ⟨hch, o1⟩ := Bool.and_eq_true_iff.mp ok1
  obtain ⟨k5, k6⟩ := Bool.and_eq_true_iff.mp k5
  obtain ⟨hsame, hu, ha, hap, hm⟩ := frees_parts k5
  have hL := fun w => left.behind (XP := fun mg h => XP mg h ∧ RecFacts r.records h) (fun s hs => ⟨hX s hs, hRf s hs⟩) hch w
  refine ⟨k1, hw, ⟨hb, o1, by show r.makers.map _ = []; rw [hm]; rfl⟩, hw.witness, fun w => ⟨(hL w).1, fun s' hs' => ?_⟩⟩
  obtain ⟨s₀, hf, hg0, s, hT, hz, hgens, hg, G00, y⟩ := (hL w).2 s' hs'
  have G0 : Ground q loose [] XP w s (s.heap.nsMap mainGlobals) (s.heap.nsMap builtinsNs) s.heap := ⟨G00.T, G00.B, G00.D, G00.TE, G00.TD, G00.W, G00.X.1, G00.cls, G00.has, G00.apart, G00.once, G00.K⟩
  have RF := G00.X.2
  have hT' := hT
  refine ⟨s₀, hf, hg0, s, hT, fun n hn => ?_, RF.1, RF.2.1, ?_⟩
  · obtain rfl : n = r.name := by split at hn <;> simp_all
    exact pinned_of_view hg G0 hdef hp hk
  have hgens : s.gens = #[] := Array.eq_empty_of_size_eq_zero (beq_iff_eq.mp hgens)
  have G : Ground q loose r.records XP w s _ _ s.heap := RF.ground G0
  refine callFrom_clean (c := r.claim) hz hgens fun args hpre hlay ord hord => ?_
  obtain ⟨⟨vs, s₁⟩, hlaid⟩ := Option.isSome_iff_exists.mp (layAllW_isSome (P := w.params) (ord := ord) G.has args r.args s (pre_splitW hpre).1)
  have keeps := layAllW_keeps _ _ _ hlaid
  have hal := layAllW_rest _ _ _ hlaid
  obtain ⟨as, hrd, hin, hold⟩ := reads_layAllW hord _ _ _ hlaid hlay s₁.heap (fun _ _ e => e)
  have L : Laid r.records w s s₁ args vs as := ⟨⟨ord, hord, hlaid⟩, hrd, hin, hold, keeps, hal.1.trans hgens, hal.2.2.1⟩
  have G₁ := G.keeps hXk keeps
  have Y₁ := hYk _ _ _ (hY w s y) keeps
  obtain ⟨a, o, pm, cd, doc, dV, kV, h1, h2, h3, h4, h5⟩ := G₁.fn hdef
  have hc := call w s s₁ _ _ G₁ Y₁ a o pm cd doc dV kV h2 h3 h4 h5 (defOf_name hdef ▸ h1) L.gens args vs as hpre hlay L.reads L.well (L.low G.low)
  have hi := ident_freeW hu ha hap
  have hwi : r.claim.within = [] := List.isEmpty_iff.mp k6
  refine ⟨vs, s₁, hlaid, ?_⟩
  refine wpC_anyBind (wpAny_nsGet G₁.T.g ?_)
  rw [h1]
  refine wpC_bind (wpC_mono hc (fun v s' g => wpC_pure ⟨_, rfl, ?_⟩) fun e s' g => ?_)
  · have z := g.laid (c := r.claim) hsame hwi hi L
    exact ⟨z.1, z.2.1, z.2.2, fun q => ⟨namesKept_of hT' hg _ keeps g.2.1.old, noTable hwr q⟩⟩
  · have z := g.laid (c := r.claim) hsame hwi hi L
    exact ⟨z.1, z.2.1, z.2.2, fun q => ⟨namesKept_of hT' hg _ keeps g.2.1.old, noTable hwr q⟩⟩
end Mine
end
section
open PySem PySem.W PyProof.Rows
set_option Elab.async false
set_option maxRecDepth 1000000
namespace Mine
noncomputable def q : Program := view pw [57]
def loose : List Str := (["_wall", "StackError", "SizeError", "StateError", "put16", "SYN", "ACK", "OPTION_MSS", "MSS_SIZE", "Segment", "check_number", "mss_option", "syn_segment", "plus", "distance", "is_before", "is_at_most", "latest", "Assembly", "Receiver", "AckPolicy", "Congestion", "MOST_SHIFT", "RetransmitClock", "RttEstimate", "SendQueue", "PeerWindow", "Sender", "CLOSED", "Wheel", "DELAYED", "MOST_WINDOW", "Limits", "clock_of", "Tcb", "_law_pool", "_law_take", "_law_one", "_law_is_refused", "_law_told_right", "_law_all_right"] : List String).map Str.ofString
local macro_rules | `(tactic| o_law) => `(tactic| refine holds_law Mine.said fun said => ?_)
local macro_rules | `(tactic| o_head $H) => `(tactic| (refine holds_clean (q := Mine.q) (loose := Mine.loose) (Xt := fun s => xlAt Mine.q [] s && recOk [] s) (XP := XL Mine.q []) (Yf := Hook.obs $H) (Ya := Hook.val $H) (YP := Hook.says $H) (N := 7800) ?hl (Hook.of $H) (Hook.keeps $H) (fun s e => xl_of s (Bool.and_eq_true_iff.mp e).1) XL.keeps (by rfl) (by rfl) (by rfl) (fun s e => recFacts_of (Bool.and_eq_true_iff.mp e).2) (by rfl) (by first | assumption | decide +kernel) (by decide +kernel) ⟨rfl, rfl, rfl, rfl, rfl, by decide +kernel⟩ ?hw ?hc; (case hl => exact left_gen (boot_open open_pw (by decide) fence_pw) boot_size abs_boot (by intro w os; kernel_rfl))))
set_option maxHeartbeats 8000000
open_top hd for PySem.Challenge.rw_xw0344_01
end Mine
end
section
open PySem PySem.W PyProof.Rows PySem.Calls
set_option Elab.async false
set_option maxRecDepth 100000
namespace Mine
noncomputable abbrev Kf (w : World) : Frag := Mine.hd.heap_1 w.params
noncomputable abbrev P0 : Program := PySem.Challenge.rw_xw0344_01.row.prog

/-- what stood apart from 'pre' stands, and nothing of 'post' lies where it stood -/
def Apart (h h' : Heap) (pre post : List (Addr × Obj)) : Prop := ∀ b o, h.get? b = some o → b ∉ pre.map (·.1) → h'.get? b = some o ∧ ∀ q ∈ post, q.1 ≠ b

abbrev ent (w : World) (n : Str) (t : Tok) (v : Value) : DictEntry := ⟨PyData.keyHash w.params n, .str n t, v⟩

abbrev PostT := (Value → List (Addr × Obj) → Prop) → Prop
abbrev CodeT := Model → Around → Code → (Result → Shared → Prop) → Shared → Prop
def Mono (P : PostT) : Prop := ∀ C C' : Value → List (Addr × Obj) → Prop, (∀ v post, C v post → C' v post) → P C → P C'
/-- the addresses of a ledger -/
def addrs : List (Addr × Obj) → List Nat
  | [] => []
  | p :: l => p.1 :: addrs l
def Nd (l : List Nat) : Prop := l.Nodup
/-- a contract: from the ledger 'pre' the call gives a value and a ledger as P hands them on -/
def ConX (cd : CodeT) (lv : Nat) (w : World) (f : Addr) (pre : List (Addr × Obj)) (args : Args) (P : PostT) : Prop :=
  Mono P ∧ ∀ (view : Program) (loose : List Str) (mean : ExcName → Option Value) (mg mb : Str → Option Value) (dp un : Nat) (gd : Option (List Code)) (cn : Str) (cs : Scope) (ca : Addr) (ccd : Value) (cl : List (Str × Addr)) (outer : List Env)
    (A₀ : Around) (base h₀ : Heap) (L : Addr) (m : Str → Option Value) (s : Shared) (R : Result → Shared → Prop),
    Below A₀ base outer h₀ → Fr h₀ L s.heap m → (Kf w).In h₀ → News h₀ L s.heap pre → Nd (addrs pre) → Top view loose mean mg mb h₀ → cs.kind = .function → dp + 8 * lv < recursionLimit → un + 60 * lv < cLine →
    P (fun v post => ∀ h' tk', Fr h₀ L h' m → News h₀ L h' post → Nd (addrs post) → Apart s.heap h' pre post → R (.ok (.ret v)) { s with heap := h', toks := tk' }) →
    cd (model P0 w) (ktrTop dp un gd cn cs L ca ccd cl outer) (.call (.ref f) args) R s
abbrev Con := ConX codeAny

section
variable {w : World} {A A₀ : Around} {s : Shared} {L : Addr} {h₀ base : Heap} {m mg mb : Str → Option Value} {pre news : List (Addr × Obj)} {p : Program} {loose : List Str} {mean : ExcName → Option Value} {outer : List Env}

theorem code_frame {prog : Program} {K : Frag} {env : Env} {R : Result → Shared → Prop} {name qual : Str} {params : Arguments} {body : List Stmt} {scope : Scope} {dV kV doc pm cdv ct oc : Value} {an od : Option Addr} {osl : Array (Option Value)} {f : Addr} {args : Args} {binds : List (Str × Value)}
    (B : Below A₀ base outer h₀) (F : Fr h₀ L s.heap m) (X₀ : K.In h₀) (N : News h₀ L s.heap pre) (T : Top p loose mean mg mb h₀) (hA : A.frames = some (env :: outer)) (hf : env.frame = some L) (hke : env.scope.kind = .function)
    (ho : K.lookup f = some ⟨oc, od, .func (fnOf name qual params body scope dV kV doc pm an cdv ct), osl⟩) (hcd : codeIn K cdv qual = true) (hroom : A.depth < recursionLimit)
    (hbind : BindsTo s (fnOf name qual params body scope dV kV doc pm an cdv ct) args binds) (hloc : ∀ y ∈ binds, scope.names.lookup y.1 = some .local)
    (h : ∀ g L' h₁, Fr h₀ L g m → Fr g L' h₁ (fun y => binds.reverse.lookup y) → News g L' h₁ pre → Below A base (env :: outer) g → K.In g → Top p loose mean mg mb g →
      (∀ b o, s.heap.get? b = some o → b ∉ pre.map (·.1) → g.get? b = some o) →
      wpAny (model prog w) (A.deeper (envOf qual scope L' f cdv)) (execs body (envOf qual scope L' f cdv))
        (fun fl s' => LeaveK h₀ L m g R (match fl with | .ret v => v | _ => .none) s')
        (fun e s' => wpAny (model prog w) (A.deeper (envOf qual scope L' f cdv)) (leaving (envOf qual scope L' f cdv) e) (fun _ s'' => R (.error e) s'') (fun e' s'' => R (.error e') s'') s')
        { s with heap := h₁, toks := s.toks + binds.length })
    (hco : scope.isCoroutine = false) (hgen : scope.isGenerator = false) (hk : scope.kind = .function)
    (hcell : ∀ x ∈ scope.names, x.2 ≠ .cell) : codeAny (model prog w) A (.call (.ref f) args) R s := by
  obtain ⟨FG, BG, st, lv⟩ := groundX (R := R) B F N hA hf hke
  refine codeAny_call_def (fd := fnOf name qual params body scope dV kV doc pm an cdv ct) (body := body) (binds := binds) hroom ((X₀.keeps F.keep) _ _ ho) rfl (T.nolimit.keeps F.keep) (codeRec_of (X₀.keeps F.keep) hcd) rfl hbind hcell hloc (fun h₁ hns hk₁ => ?_) hco hgen hk
  exact wpAny_mono (h _ s.heap.objs.size h₁ FG ⟨hns, fun b o e => hk₁ b o (of_hideAll _ e), Nat.le_of_eq (hideAll_size _ _)⟩
    (fun q hq => ⟨hk₁ _ _ (N q hq).1, Nat.ne_of_lt (Heap.lt_size (N q hq).1), hideAll_none _ (List.mem_map_of_mem hq)⟩) BG (X₀.keeps st) (T.keeps st) fun b o e n => hideAll_get _ e n) (fun fl s' hl => lv _ _ hl) fun _ _ y => y

theorem apart_of {g : Heap} {L' : Addr} {h h' : Heap} {m' : Str → Option Value} {post : List (Addr × Obj)} (keep : ∀ b o, h.get? b = some o → b ∉ pre.map (·.1) → g.get? b = some o) (F' : Fr g L' h' m') (N' : News g L' h' post) : Apart h h' pre post := by
  intro b o e n
  have hg := keep b o e n
  refine ⟨F'.keep b o hg, fun q hq z => ?_⟩
  have := (N' q hq).2.2
  rw [z, hg] at this
  cases this

end

theorem gap1 {f r : Int} (hr : 2 < r) (h0 : 0 ≤ f) (h1 : f < r) : ((f + 1) % r - f) % r = 1 := by
  by_cases e : f + 1 = r
  · rw [e, Int.emod_self]
    have : (0 - f) % r = (0 - f + r) % r := by rw [Int.add_emod_right]
    rw [this, Int.emod_eq_of_lt (by omega) (by omega)]
    omega
  · rw [Int.emod_eq_of_lt (by omega : 0 ≤ f + 1) (by omega), Int.emod_eq_of_lt (by omega) (by omega)]
    omega
theorem gapne {f r : Int} (hr : 2 < r) (h0 : 0 ≤ f) (h1 : f < r) : (f + 1) % r ≠ f := by
  intro q
  have := gap1 hr h0 h1
  rw [q, Int.sub_self, Int.zero_emod] at this
  omega
theorem gapC {n m r : Int} (hr : 0 < m) (hr2 : 2 * m ≤ r) (h0 : 0 ≤ n) (h1 : n < r) : ((n + m) % r - n) % r = m := by
  by_cases e : n + m < r
  · rw [Int.emod_eq_of_lt (by omega : 0 ≤ n + m) e, Int.emod_eq_of_lt (by omega) (by omega)]
    omega
  · have e2 : (n + m) % r = n + m - r := by
      rw [← Int.sub_emod_right, Int.emod_eq_of_lt (by omega) (by omega)]
    rw [e2]
    have : (n + m - r - n) % r = (n + m - r - n + r) % r := by rw [Int.add_emod_right]
    rw [this, Int.emod_eq_of_lt (by omega) (by omega)]
    omega
theorem gapB {n m r : Int} (hr : 0 < m) (hr2 : 2 * m ≤ r) (h0 : 0 ≤ n) (h1 : n < r) : (n - (n + m) % r) % r = r - m := by
  by_cases e : n + m < r
  · rw [Int.emod_eq_of_lt (by omega : 0 ≤ n + m) e]
    have : (n - (n + m)) % r = (n - (n + m) + r) % r := by rw [Int.add_emod_right]
    rw [this, Int.emod_eq_of_lt (by omega) (by omega)]
    omega
  · have e2 : (n + m) % r = n + m - r := by
      rw [← Int.sub_emod_right, Int.emod_eq_of_lt (by omega) (by omega)]
    rw [e2, Int.emod_eq_of_lt (by omega) (by omega)]
    omega
theorem bcase {P Q R : Prop} [Decidable P] (h : P ↔ (Q ∧ R)) : (Value.bool (decide P) = .bool true ∧ Q ∧ R) ∨ (Value.bool (decide P) = .bool false ∧ ¬ (Q ∧ R)) := by
  by_cases q : P
  · exact .inl ⟨by rw [decide_eq_true q], h.mp q⟩
  · exact .inr ⟨by rw [decide_eq_false q], fun x => q (h.mpr x)⟩
theorem addrs_map : ∀ l : List (Addr × Obj), addrs l = l.map (·.1)
  | [] => rfl
  | p :: l => by show p.1 :: addrs l = _; rw [addrs_map l]; rfl
inductive Del (p : Addr × Obj) : List (Addr × Obj) → List (Addr × Obj) → Prop
  | here {l : List (Addr × Obj)} : Del p (p :: l) l
  | there {q : Addr × Obj} {l l' : List (Addr × Obj)} : Del p l l' → Del p (q :: l) (q :: l')
inductive Take : List (Addr × Obj) → List (Addr × Obj) → List (Addr × Obj) → Prop
  | nil {l : List (Addr × Obj)} : Take [] l l
  | cons {p : Addr × Obj} {pre l l' rest : List (Addr × Obj)} : Del p l l' → Take pre l' rest → Take (p :: pre) l rest
theorem Del.perm {p : Addr × Obj} : ∀ {l l' : List (Addr × Obj)}, Del p l l' → List.Perm l (p :: l')
  | _, _, .here => List.Perm.refl _
  | _, _, .there d => List.Perm.trans (List.Perm.cons _ d.perm) (List.Perm.swap _ _ _)
theorem Take.perm : ∀ {pre l rest : List (Addr × Obj)}, Take pre l rest → List.Perm l (pre ++ rest)
  | _, _, _, .nil => List.Perm.refl _
  | _, _, _, .cons d t => List.Perm.trans d.perm (List.Perm.cons _ t.perm)
theorem Take.nd {pre l rest : List (Addr × Obj)} {as : List Nat} (t : Take pre l rest) (e : addrs l = as) (D : Nd as) : (pre.map (·.1) ++ rest.map (·.1)).Nodup := by
  subst e
  have D : (addrs l).Nodup := D
  rw [addrs_map, (t.perm.map _).nodup_iff, List.map_append] at D
  exact D
theorem Take.sub {pre l rest : List (Addr × Obj)} (t : Take pre l rest) : ∀ q ∈ pre, q ∈ l := fun _ h => t.perm.mem_iff.mpr (List.mem_append.mpr (.inl h))
theorem Take.sub2 {pre l rest : List (Addr × Obj)} (t : Take pre l rest) : ∀ q ∈ rest, q ∈ l := fun _ h => t.perm.mem_iff.mpr (List.mem_append.mpr (.inr h))
theorem Take.nd1 {pre l rest : List (Addr × Obj)} {as : List Nat} (t : Take pre l rest) (e : addrs l = as) (D : Nd as) : Nd (addrs pre) := by
  rw [addrs_map]
  exact (List.nodup_append.mp (t.nd e D)).1
theorem Take.apart {pre l rest : List (Addr × Obj)} {as : List Nat} (t : Take pre l rest) (e : addrs l = as) (D : Nd as) : ∀ r ∈ rest, r.1 ∉ pre.map (·.1) := fun r hr hm =>
  (List.nodup_append.mp (t.nd e D)).2.2 _ hm _ (List.mem_map_of_mem hr) rfl
section
variable {w : World} {A A₀ : Around} {s : Shared} {L : Addr} {h₀ base : Heap} {m mg mb : Str → Option Value} {pre news rest : List (Addr × Obj)} {p : Program} {loose : List Str} {mean : ExcName → Option Value} {outer : List Env}
theorem ConX.at {cd : CodeT} {lv : Nat} {f : Addr} {args : Args} {P : PostT} {dp un : Nat} {gd : Option (List Code)} {cn : Str} {cs : Scope} {ca : Addr} {ccd : Value} {cl : List (Str × Addr)} {R : Result → Shared → Prop} {as : List Nat} (C : ConX cd lv w f pre args P)
    (B : Below A₀ base outer h₀) (F : Fr h₀ L s.heap m) (X : (Kf w).In h₀) (N : News h₀ L s.heap news) (D : Nd as) (T : Top p loose mean mg mb h₀) (hk : cs.kind = .function) (hd : dp + 8 * lv < recursionLimit) (hu : un + 60 * lv < cLine)
    (t : Take pre news rest) (e : addrs news = as)
    (ret : P (fun v post => ∀ h' tk', Fr h₀ L h' m → News h₀ L h' (post ++ rest) → Nd (addrs (post ++ rest)) → R (.ok (.ret v)) { s with heap := h', toks := tk' })) :
    cd (model P0 w) (ktrTop dp un gd cn cs L ca ccd cl outer) (.call (.ref f) args) R s := by
  refine C.2 _ _ _ _ _ _ _ _ _ _ _ _ _ _ _ _ _ _ _ _ _ B F X (fun q hq => N q (t.sub q hq)) (t.nd1 e D) T hk hd hu (C.1 _ _ (fun v post hc h' tk' F' N' D' ap => hc h' tk' F' (fun q hq => ?_) ?_) ret)
  · rcases List.mem_append.mp hq with h | h
    · exact N' q h
    · have := N q (t.sub2 q h)
      exact ⟨(ap _ _ this.1 (t.apart e D q h)).1, this.2⟩
  · rw [addrs_map, List.map_append]
    refine List.nodup_append.mpr ⟨addrs_map post ▸ D', (List.nodup_append.mp (t.nd e D)).2.1, ?_⟩
    intro a ha b hb
    obtain ⟨q, hq, rfl⟩ := List.mem_map.mp ha
    obtain ⟨r, hr, rfl⟩ := List.mem_map.mp hb
    have := N r (t.sub2 r hr)
    exact (ap _ _ this.1 (t.apart e D r hr)).2 q hq
/-- the end of a contract -/
theorem fin {g : Heap} {L' : Addr} {h' : Heap} {m' : Str → Option Value} {post : List (Addr × Obj)} {as : List Nat} {R : Result → Shared → Prop} {v : Value} {tk' : Nat} (keep : ∀ b o, s.heap.get? b = some o → b ∉ pre.map (·.1) → g.get? b = some o)
    (F : Fr h₀ L h' m) (N : News h₀ L h' news) (Fg : Fr g L' h' m') (Ng : News g L' h' news) (D : Nd as) (e : addrs news = as) (t : Take post news rest)
    (ret : ∀ h' tk', Fr h₀ L h' m → News h₀ L h' post → Nd (addrs post) → Apart s.heap h' pre post → R (.ok (.ret v)) { s with heap := h', toks := tk' }) : R (.ok (.ret v)) { s with heap := h', toks := tk' } :=
  ret _ _ F (fun q hq => N q (t.sub q hq)) (t.nd1 e D) (apart_of keep Fg fun q hq => Ng q (t.sub q hq))
end
/-- the ledger with another object at one place -/
inductive Pth (d : Addr) (o o' : Obj) : List (Addr × Obj) → List (Addr × Obj) → Prop
  | head {r : List (Addr × Obj)} : Pth d o o' ((d, o) :: r) ((d, o') :: r)
  | tail {p : Addr × Obj} {r r' : List (Addr × Obj)} : Pth d o o' r r' → Pth d o o' (p :: r) (p :: r')
theorem Pth.mem {d : Addr} {o o' : Obj} : ∀ {l l' : List (Addr × Obj)}, Pth d o o' l l' → d ∈ addrs l
  | _, _, .head => .head _
  | _, _, .tail t => .tail _ t.mem
theorem mem_addrs {p : Addr × Obj} : ∀ {l : List (Addr × Obj)}, p ∈ l → p.1 ∈ addrs l := fun h => addrs_map _ ▸ List.mem_map_of_mem h
theorem Pth.upd {d : Addr} {o o' : Obj} : ∀ {l l' : List (Addr × Obj)}, (addrs l).Nodup → Pth d o o' l l' → Upd d o o' l l'
  | _, _, D, .head => .head fun p hp e => (List.nodup_cons.mp D).1 (by have := mem_addrs hp; rw [e] at this; exact this)
  | _, _, D, .tail t => .tail (fun e => (List.nodup_cons.mp D).1 (e ▸ t.mem)) (t.upd (List.nodup_cons.mp D).2)
theorem Upd.of {d : Addr} {o o' : Obj} {l l' : List (Addr × Obj)} {as : List Nat} (D : Nd as) (t : Pth d o o' l l') (e : addrs l = as) : Upd d o o' l l' := t.upd (e ▸ D)
inductive Bef (x y : Nat) : List Nat → Prop
  | here {l : List Nat} : y ∈ l → Bef x y (x :: l)
  | there {z : Nat} {l : List Nat} : Bef x y l → Bef x y (z :: l)
theorem Bef.mem {x y : Nat} : ∀ {l : List Nat}, Bef x y l → y ∈ l
  | _, .here h => .tail _ h
  | _, .there h => .tail _ h.mem
theorem nd_ne {x y : Nat} : ∀ {l : List Nat}, Nd l → Bef x y l → x ≠ y
  | _, D, .here h => fun e => (List.nodup_cons.mp D).1 (e ▸ h)
  | _, D, .there h => nd_ne (List.nodup_cons.mp D).2 h
theorem nd_ne' {x y : Nat} {l : List Nat} (D : Nd l) (h : Bef y x l) : x ≠ y := fun e => nd_ne D h e.symm
theorem nd_new {d : Nat} {news : List (Addr × Obj)} {as : List Nat} (D : Nd as) (l1 : ∀ p ∈ news, p.1 < d) (e : addrs news = as) : Nd (d :: as) := by
  subst e
  refine List.nodup_cons.mpr ⟨fun hm => ?_, D⟩
  rw [addrs_map] at hm
  obtain ⟨q, hq, rfl⟩ := List.mem_map.mp hm
  exact Nat.lt_irrefl _ (l1 q hq)
theorem nd_new2 {d x : Nat} {news : List (Addr × Obj)} {as : List Nat} (D : Nd as) (l1 : ∀ p ∈ news, p.1 < d) (l2 : d < x) (e : addrs news = as) : Nd (x :: d :: as) := by
  refine List.nodup_cons.mpr ⟨fun hm => ?_, nd_new D l1 e⟩
  subst e
  rcases List.mem_cons.mp hm with rfl | hm
  · exact Nat.lt_irrefl _ l2
  · rw [addrs_map] at hm
    obtain ⟨q, hq, rfl⟩ := List.mem_map.mp hm
    exact Nat.lt_irrefl _ (Nat.lt_trans l2 (l1 q hq))
/-- one function for many tokens -/
def kf (l : List Tok) : Nat → Tok := fun i => l.getD i 0
theorem st_let {α : Type} {M : Model} {A : Around} {c : Sem α} {Q : α → Shared → Prop} {E : Value → Shared → Prop} {s : Shared} (h : let sk := s; wpAny M A c Q E sk) : wpAny M A c Q E s := h
theorem env_let {M : Model} {A : Around} {env : Env} {body : List Stmt} {Q : Flow → Shared → Prop} {E : Value → Shared → Prop} {s : Shared} (h : let ev := env; let Ak := A.deeper ev; wpAny M Ak (execs body ev) Q E s) : wpAny M (A.deeper env) (execs body env) Q E s := h
section
variable {prog : Program} {w : World} {A : Around} {s : Shared} {a b : Int} {t u : Tok} {Q : Value → Shared → Prop} {E : Value → Shared → Prop}
theorem shr16 (ha : 0 ≤ a) (h : ∀ r : Int, r = a / 65536 → 0 ≤ r → Q (.int r s.toks) { s with toks := s.toks + 1 }) : wpAny (model prog w) A (binaryOp .RShift (.int a t) (.int 16 u)) Q E s := by
  refine rshift_int (by decide) ?_
  have e : a.fdiv (2 ^ (16 : Int).toNat) = a / 65536 := Int.fdiv_eq_ediv_of_nonneg a (by decide)
  rw [e]
  exact h _ rfl (by omega)
theorem shr8 (ha : 0 ≤ a) (h : ∀ r : Int, r = a / 256 → 0 ≤ r → Q (.int r s.toks) { s with toks := s.toks + 1 }) : wpAny (model prog w) A (binaryOp .RShift (.int a t) (.int 8 u)) Q E s := by
  refine rshift_int (by decide) ?_
  have e : a.fdiv (2 ^ (8 : Int).toNat) = a / 256 := Int.fdiv_eq_ediv_of_nonneg a (by decide)
  rw [e]
  exact h _ rfl (by omega)
theorem and255 (h : ∀ r : Int, r = a % 256 → 0 ≤ r → r < 256 → Q (.int r s.toks) { s with toks := s.toks + 1 }) : wpAny (model prog w) A (binaryOp .BitAnd (.int a t) (.int 255 u)) Q E s := by
  refine and_int ?_
  rw [bitAnd_m8]
  exact h _ rfl (by omega) (by omega)
end
theorem noPy {a b : Int} (h0 : 0 < b) (hb : b < 2 ^ 40) : Builtin.divisionGoesByPylong a b = false := by
  refine PyProof.noPylong_of_log2 ?_
  have h1 : b.natAbs ≠ 0 := by omega
  have h2 : b.natAbs < 2 ^ 40 := by omega
  have := (Nat.log2_lt h1).mpr h2
  omega

section
variable {prog : Program} {w : World} {A : Around} {s : Shared} {a b : Int} {t u : Tok} {Q : Value → Shared → Prop} {E : Value → Shared → Prop}
theorem mod_let (hb : 0 < b) (h : ∀ r : Int, r = a % b → 0 ≤ r → r < b → Q (.int r s.toks) { s with toks := s.toks + 1 }) : wpAny (model prog w) A (binaryOp .Mod (.int a t) (.int b u)) Q E s := by
  refine mod_int' (by omega) ?_
  rw [Int.fmod_eq_emod_of_nonneg a (by omega)]
  exact h _ rfl (Int.emod_nonneg _ (by omega)) (Int.emod_lt_of_pos _ hb)
theorem mod_x (hb : 0 < b) (h : 0 ≤ a % b → a % b < b → Q (.int (a % b) s.toks) { s with toks := s.toks + 1 }) : wpAny (model prog w) A (binaryOp .Mod (.int a t) (.int b u)) Q E s :=
  mod_let hb fun _ e h0 h1 => by subst e; exact h h0 h1
theorem div_let (hb : 0 < b) (hb2 : b < 2 ^ 40) (ha : 0 ≤ a) (h : ∀ r : Int, r = a / b → 0 ≤ r → r ≤ a → Q (.int r s.toks) { s with toks := s.toks + 1 }) : wpAny (model prog w) A (binaryOp .FloorDiv (.int a t) (.int b u)) Q E s := by
  refine floordiv_int (by omega) ?_ (Or.inl (noPy hb hb2))
  rw [Int.fdiv_eq_ediv_of_nonneg a (by omega)]
  exact h _ rfl (Int.ediv_nonneg ha (by omega)) (Int.ediv_le_self _ ha)
theorem mul_let (ha : 0 ≤ a) (ha2 : a < 2 ^ 63) (hb : 0 ≤ b) (hb2 : b < 2 ^ 63) (h : ∀ r : Int, r = a * b → 0 ≤ r → Q (.int r s.toks) { s with toks := s.toks + 1 }) : wpAny (model prog w) A (binaryOp .Mult (.int a t) (.int b u)) Q E s := by
  refine mul_int ?_ ?_
  · exact h _ rfl (Int.mul_nonneg ha hb)
  · exact IntMulOk.of_left (intBits_le_64 (by omega) (by omega))
end
end Mine
end
section
open PySem PySem.W PyProof.Rows PySem.Calls
set_option Elab.async false
set_option maxRecDepth 100000
namespace Mine
theorem slot_ba_len : Slot "bytearray" "__len__" "bytearray.__len__" :=
  .of (owner := "bytearray") (n := "__len__") (by rw [typeLookup_type, builtinLookup_eq_fast]; kernel_rfl) (by decide +kernel) (by decide +kernel) (by decide +kernel)
    (by first | exact .inl (by decide +kernel) | exact .inr (by decide +kernel)) (by rw [isSubtype_type]; kernel_rfl)
theorem entry_ba_len : entryFor table "bytearray.__len__" = some Builtin.«bytearray.__len__» := entryFor_of_tree (by kernel_rfl)
theorem args_ba_len (a : Value) : argsOk "bytearray.__len__" ⟨[a], []⟩ := by unfold argsOk; kernel_rfl
section
variable {prog : Program} {w : World} {A : Around} {E : Value → Shared → Prop} {s : Shared}
theorem call_len_ba {l : Addr} {o : Obj} {b : Array UInt8} {n : Nat} {Q : Value → Shared → Prop} (ho : s.heap.get? l = some o) (hc : o.cls = .type "bytearray") (hd : o.data = .bytearray b n) (hfit : (b.size : Int) < 2 ^ 63)
    (h : Q (.int b.size (s.toks + 1)) { s with toks := s.toks + 1 + 1 }) : wpAny (model prog w) A (call (.builtin "len") [.ref l]) Q E s := by
  have hT : s.TypeIs (.ref l) "bytearray" := ⟨o, ho, hc⟩
  refine call_function_entry kind_len plain_len entry_len (args_len1 _) ?_
  unfold Builtin.«len»
  refine wpAny_bind (m := oneArg "len" _) (wpAny_pure ?_)
  refine wpAny_bind (m := callSpecial? (.ref l) (Str.ofString "__len__")) (wpAny_callSpecial?_slot (name := Str.ofString "__len__") hT slot_ba_len
    (wpAny_call_entry slot_ba_len hT entry_ba_len ?_ (args_ba_len _)))
  · show wpAny _ _ (do retInt (← Builtin.Bytes.payload (.ref l)).size) _ _ s
    unfold Builtin.Bytes.payload Builtin.Bytes.payload?
    refine wpAny_bind (wpAny_bind (wpAny_bind (wpAny_load ho ?_)))
    rw [hd]
    refine wpAny_pure (wpAny_pure (wpAny_bind (wpAny_mkInt (wpAny_pure ⟨_, rfl, ?_⟩))))
    refine wpAny_bind (wpAny_holding (wpAny_pure ?_))
    refine wpAny_bind (wpAny_letGo ?_)
    show wpAny _ _ (if ((b.size : Nat) : Int) < 0 then _ else _) _ _ _
    rw [if_neg (by omega)]
    show wpAny _ _ (if ((b.size : Nat) : Int) ≥ 2 ^ 63 then _ else _) _ _ _
    rw [if_neg (by omega)]
    exact wpAny_bind (wpAny_mkInt (wpAny_pure ⟨_, rfl, h⟩))
end
section
variable {prog : Program} {w : World} {A : Around} {E : Value → Shared → Prop} {s : Shared} {value slice : PySem.Expr} {b : Array UInt8} {t ti : Tok} {h₀ : Heap} {L : Addr} {m : PySem.Str → Option Value} {news : List (Addr × Obj)} {i : Int} {Q : Value → Shared → Prop}
theorem picked_full (h : i = b.size) : KBy.picked b none (some i) = b := by
  subst h
  rw [KBc.picked_eq]
  simp only [Option.elim, clipAt_nat, List.drop_zero, Nat.sub_zero, Nat.min_self]
  rw [List.take_of_length_le (by simp), Array.toArray_toList]
theorem picked_zero : KBy.picked b (some 0) none = b := by
  rw [KBc.picked_eq]
  have : clipAt b.size 0 = 0 := by
    have := clipAt_nat b.size 0
    simpa using this
  simp only [Option.elim, this, List.drop_zero, Nat.sub_zero]
  rw [List.take_of_length_le (by simp), Array.toArray_toList]
theorem slice_full (hF : Fr h₀ L s.heap m) (hN : News h₀ L s.heap news) (hi : i = b.size) (hz : b.size ≤ 16777216)
    (h : ∀ h' t' k, Fr h₀ L h' m → News h₀ L h' news → Q (.bytes b t') { s with heap := h', toks := k })
    (hs : subscripted slice false (.bytes b t) (.ref s.heap.objs.size) = operate [.ref s.heap.objs.size, .bytes b t] (getItem (.bytes b t) (.ref s.heap.objs.size)) := by with_unfolding_all rfl)
    (ht : ∀ r, letTemporaryGo value (.bytes b t) r = pure () := by intro _; with_unfolding_all rfl) :
    wpAny (model prog w) A (subscriptTail value slice (.bytes b t) (.ref s.heap.objs.size)) Q E { s with heap := s.heap.push { cls := .type "slice", data := .fields #[.none, .int i ti, .none] } } :=
  KBc.slice_K (ks := KBw.bInts b) hF hN rfl (by constructor) (by constructor) (by rw [KBw.ints_length]; exact hz) (fun h' t' k F N _ => by rw [picked_full hi]; exact h h' t' k F N) hs ht
theorem slice_zero (hF : Fr h₀ L s.heap m) (hN : News h₀ L s.heap news) (hz : b.size ≤ 16777216)
    (h : ∀ h' t' k, Fr h₀ L h' m → News h₀ L h' news → Q (.bytes b t') { s with heap := h', toks := k })
    (hs : subscripted slice false (.bytes b t) (.ref s.heap.objs.size) = operate [.ref s.heap.objs.size, .bytes b t] (getItem (.bytes b t) (.ref s.heap.objs.size)) := by with_unfolding_all rfl)
    (ht : ∀ r, letTemporaryGo value (.bytes b t) r = pure () := by intro _; with_unfolding_all rfl) :
    wpAny (model prog w) A (subscriptTail value slice (.bytes b t) (.ref s.heap.objs.size)) Q E { s with heap := s.heap.push { cls := .type "slice", data := .fields #[.int 0 ti, .none, .none] } } :=
  KBc.slice_K (ks := KBw.bInts b) hF hN rfl (by constructor) (by constructor) (by rw [KBw.ints_length]; exact hz) (fun h' t' k F N _ => by rw [picked_zero]; exact h h' t' k F N) hs ht
theorem slice_zero' (hi : i = 0) (hF : Fr h₀ L s.heap m) (hN : News h₀ L s.heap news) (hz : b.size ≤ 16777216)
    (h : ∀ h' t' k, Fr h₀ L h' m → News h₀ L h' news → Q (.bytes b t') { s with heap := h', toks := k })
    (hs : subscripted slice false (.bytes b t) (.ref s.heap.objs.size) = operate [.ref s.heap.objs.size, .bytes b t] (getItem (.bytes b t) (.ref s.heap.objs.size)) := by with_unfolding_all rfl)
    (ht : ∀ r, letTemporaryGo value (.bytes b t) r = pure () := by intro _; with_unfolding_all rfl) :
    wpAny (model prog w) A (subscriptTail value slice (.bytes b t) (.ref s.heap.objs.size)) Q E { s with heap := s.heap.push { cls := .type "slice", data := .fields #[.int i ti, .none, .none] } } := by
  subst hi
  exact slice_zero hF hN hz h hs ht
end
end Mine
end
section
open PySem PySem.W PyProof.Rows PySem.Calls
set_option Elab.async false
set_option maxRecDepth 100000
namespace Mine
theorem bb_lookup : typeLookup (.type "bytes") "__bytes__" = pure (some (.builtin "bytes.__bytes__")) := by rw [typeLookup_type, builtinLookup_eq_fast]; kernel_rfl
theorem bi_no_bytes : typeLookup (.type "int") "__bytes__" = pure none := by rw [typeLookup_type, builtinLookup_eq_fast]; kernel_rfl
theorem bi_index : typeLookup (.type "int") "__index__" = pure (some (.builtin "int.__index__")) := by rw [typeLookup_type, builtinLookup_eq_fast]; kernel_rfl
section
variable {prog : Program} {w : World} {A : Around} {E : Value → Shared → Prop} {s : Shared}
theorem bb_new {b : Array UInt8} {t : Tok} {Q : Value → Shared → Prop} (hQ : Q (.bytes b t) s) :
    codeAny (model prog w) A (.call (.builtin "bytes.__new__") ⟨[.type "bytes", .bytes b t], []⟩) (wants Q E) s := by
  refine codeAny_of_tree ?_
  show wpAny _ A.in1 (do checkBuiltinCall "bytes.__new__" ⟨[.type "bytes", .bytes b t], []⟩; again (.builtin "bytes.__new__" ⟨[.type "bytes", .bytes b t], []⟩)) _ _ s
  refine wpAny_bind (wpAny_of_eq (F.bm_newCall _) (wpAny_pure ⟨plainId_quiet F.bm_plain _, codeAny_builtin F.bm_entry ?_⟩))
  rw [Around.under_plainId F.bm_plain _]
  have hT : s.TypeIs (.bytes b t) "bytes" := PySem.W.typeIs_bytes _ _ _
  unfold Builtin.«bytes.__new__»
  refine wpAny_bind (wpAny_of_eq (a := true) rfl ?_)
  refine bm_if_false rfl ?_
  refine wpAny_bind (wpAny_of_eq F.bm_sub ?_)
  refine bm_if_false rfl ?_
  refine wpAny_bind (wpAny_of_eq (F.bm_bind _) ?_)
  refine wpAny_bind (wpAny_of_eq (a := ()) rfl ?_)
  refine wpAny_bind (wpAny_of_eq (a := ()) rfl ?_)
  refine bm_if_false rfl ?_
  refine wpAny_bind (wpAny_specialOf hT bb_lookup ?_)
  refine wpAny_bind (wpAny_rule ?_)
  refine wpAny_bind (wpAny_typeOf hT ?_)
  refine bm_if_true (by decide +kernel) ?_
  show wpAny _ _ (if (Value.type "bytes" == Value.type "bytes") = true then _ else _) _ _ _
  refine bm_if_true (by decide) ?_
  first
    | exact wpAny_pure (hQ)
    | exact wpAny_bind (wpAny_pure (wpAny_pure (hQ)))
theorem bi_new {n : Int} {t : Tok} {Q : Value → Shared → Prop} (h0 : 0 ≤ n) (h1 : n ≤ 1000) (hQ : ∀ t' k, Q (.bytes (Array.replicate n.toNat 0) t') { s with toks := k }) :
    codeAny (model prog w) A (.call (.builtin "bytes.__new__") ⟨[.type "bytes", .int n t], []⟩) (wants Q E) s := by
  refine codeAny_of_tree ?_
  show wpAny _ A.in1 (do checkBuiltinCall "bytes.__new__" ⟨[.type "bytes", .int n t], []⟩; again (.builtin "bytes.__new__" ⟨[.type "bytes", .int n t], []⟩)) _ _ s
  refine wpAny_bind (wpAny_of_eq (F.bm_newCall _) (wpAny_pure ⟨plainId_quiet F.bm_plain _, codeAny_builtin F.bm_entry ?_⟩))
  rw [Around.under_plainId F.bm_plain _]
  have hT : s.TypeIs (.int n t) "int" := rfl
  unfold Builtin.«bytes.__new__»
  refine wpAny_bind (wpAny_of_eq (a := true) rfl ?_)
  refine bm_if_false rfl ?_
  refine wpAny_bind (wpAny_of_eq F.bm_sub ?_)
  refine bm_if_false rfl ?_
  refine wpAny_bind (wpAny_of_eq (F.bm_bind _) ?_)
  refine wpAny_bind (wpAny_of_eq (a := ()) rfl ?_)
  refine wpAny_bind (wpAny_of_eq (a := ()) rfl ?_)
  refine bm_if_false rfl ?_
  refine wpAny_bind (wpAny_specialOf hT bi_no_bytes ?_)
  refine wpAny_bind (wpAny_of_eq (a := false) rfl ?_)
  refine bm_if_false rfl ?_
  refine wpAny_bind (wpAny_specialOf hT bi_index ?_)
  refine bm_if_false rfl ?_
  refine wpAny_bind (wpAny_attempt (wpAny_of_eq (a := n) rfl ?_))
  dsimp only
  refine bm_if_false (by simp only [Builtin.Bytes.fitsIndex, Bool.not_eq_eq_eq_not, Bool.not_false, Bool.and_eq_true, decide_eq_true_eq]; omega) ?_
  rw [if_neg (by omega), if_neg (by omega)]
  refine bm_if_false (by simp only [Builtin.Bytes.tooLong, decide_eq_false_iff_not, sizeLine_eq]; omega) ?_
  refine wpAny_bind (wpAny_rule ?_)
  refine wpAny_bind (wpAny_mkBytes ?_ (by simp only [Array.size_replicate, sizeLine_eq]; omega))
  show wpAny _ _ (if (Value.type "bytes" == Value.type "bytes") = true then _ else _) _ _ _
  refine bm_if_true (by decide) ?_
  first
    | exact wpAny_pure (hQ _ _)
    | exact wpAny_bind (wpAny_pure (wpAny_pure (hQ _ _)))
theorem call_bytes_bytes {b : Array UInt8} {t : Tok} {Q : Value → Shared → Prop} (hQ : Q (.bytes b t) s) : wpAny (model prog w) A (call (.type "bytes") [.bytes b t]) Q E s := by
  refine callType_codes (Q₁ := fun obj s₁ => s₁.TypeIs obj "bytes" ∧ Q obj s₁) F.bm_called (F.bm_typeCall _) F.entry_object_init
    (bb_new ⟨PySem.W.typeIs_bytes _ _ _, hQ⟩) fun obj s₁ h₁ => ?_
  exact ⟨h₁.1, F.args_object_init_2 obj _, object_init_meets F.bm_called.init.lookup F.bm_called.made (by decide) prog w A.in1 _ s₁ ⟨h₁.1, rfl, h₁.2⟩⟩
theorem call_bytes_int {n : Int} {t : Tok} {Q : Value → Shared → Prop} (h0 : 0 ≤ n) (h1 : n ≤ 1000) (hQ : ∀ t' k, Q (.bytes (Array.replicate n.toNat 0) t') { s with toks := k }) : wpAny (model prog w) A (call (.type "bytes") [.int n t]) Q E s := by
  refine callType_codes (Q₁ := fun obj s₁ => s₁.TypeIs obj "bytes" ∧ Q obj s₁) F.bm_called (F.bm_typeCall _) F.entry_object_init
    (bi_new h0 h1 fun t' k => ⟨PySem.W.typeIs_bytes _ _ _, hQ t' k⟩) fun obj s₁ h₁ => ?_
  exact ⟨h₁.1, F.args_object_init_2 obj _, object_init_meets F.bm_called.init.lookup F.bm_called.made (by decide) prog w A.in1 _ s₁ ⟨h₁.1, rfl, h₁.2⟩⟩
theorem add_empty {o : Array UInt8} {t u : Tok} {Q : Value → Shared → Prop} (hz : o.size ≤ 100) (hQ : ∀ t' k, Q (.bytes o t') { s with toks := k }) : wpAny (model prog w) A (binaryOp .Add (.bytes #[] t) (.bytes o u)) Q E s := by
  refine KBy.add_bytes (by simp only [Array.size_empty, sizeLine_eq]; omega) ?_
  intro t' k
  rw [Array.empty_append]
  exact hQ t' k
end
end Mine
end
section
open PySem PySem.W PyProof.Rows PySem.Calls
set_option Elab.async false
set_option maxRecDepth 100000
namespace Mine
theorem weight_tc (C : Addr) (vals : List Value) (kw : List (Str × Value)) : (Code.builtin "type.__call__" ⟨.ref C :: vals, kw⟩).weight = 1 := rfl
theorem cunits_tc (C : Addr) (vals : List Value) (kw : List (Str × Value)) : (Code.builtin "type.__call__" ⟨.ref C :: vals, kw⟩).cUnits = 1 := rfl
section
variable {prog : Program} {w : World} {A : Around} {h₀ : Heap} {L : Addr} {m : Str → Option Value} {env : Env} {lp : Pos} {x : Str} {scope : Scope} {cl : List (Str × Addr)} {s : Shared} {S : List (Addr × Obj) → Prop} {P : Nat → Value → Prop} {Fin : List Value → List (Addr × Obj) → Prop} {news : List (Addr × Obj)}
theorem rest_lists (hS : S news) (fin : ∀ ys, Fin ys news) : ∀ (k i : Nat) (ys : List Value), LCg.CompRest prog w A h₀ L m env (.List [] lp) x scope cl s S P Fin k i ys news := by
  intro k
  induction k with
  | zero => exact fun i ys => LCg.CompRest.zero (fin ys)
  | succ k ih =>
    intro i ys
    refine LCg.CompRest.succ ?_
    intro v I oI C oC D m₂ h tk E' hv hC hx F N off ne
    show wpAny _ _ (standAt lp >>= fun _ => spliced [] >>= fun vs => newList vs) _ _ _
    refine wpAny_bind (wpAny_standAt (wpAny_bind (spliced_nil ?_)))
    refine wpAny_newObj_type ?_ (by size_fits)
    exact ⟨_, tk, news, rfl, F.push _, N.pushKeep _, off, hS, ih (i + 1) _⟩
end
end Mine
end
section
open PySem PySem.W PyProof.Rows PySem.Calls PySem.SeqAt
set_option Elab.async false
set_option maxRecDepth 100000
namespace Mine
inductive SameV : Value → Value → Prop
  | int {a b : Int} {t u : Tok} : a = b → SameV (.int a t) (.int b u)
  | bytes {a b : Array UInt8} {t u : Tok} : a = b → SameV (.bytes a t) (.bytes b u)
  | bool {a b : Bool} : a = b → SameV (.bool a) (.bool b)
inductive SameL : List Value → List Value → Prop
  | nil : SameL [] []
  | cons {a b : Value} {r t : List Value} : SameV a b → SameL r t → SameL (a :: r) (b :: t)
theorem SameL.length : ∀ {xs ys : List Value}, SameL xs ys → xs.length = ys.length
  | _, _, .nil => rfl
  | _, _, .cons _ t => congrArg (· + 1) t.length
theorem SameL.at : ∀ {xs ys : List Value}, SameL xs ys → ∀ j (h1 : j < xs.length) (h2 : j < ys.length), SameV xs[j] ys[j]
  | _, _, .nil, j, h1, _ => absurd h1 (Nat.not_lt_zero _)
  | _, _, .cons h _, 0, _, _ => h
  | _, _, .cons _ t, j + 1, h1, h2 => t.at j (Nat.lt_of_succ_lt_succ h1) (Nat.lt_of_succ_lt_succ h2)
theorem SameV.eqAt {A : Around} {s : Shared} {a b : Value} (h : SameV a b) : EqAt A s a b true := by
  cases h with
  | @int a b t u e =>
    subst e
    have := EqAt.int_int (A := A) (s := s) a t a u
    rwa [beq_self_eq_true] at this
  | @bytes a b t u e =>
    subst e
    intro prog w E Q hq
    unfold eqBool
    refine wpAny_holding ?_
    by_cases hb : (Value.bytes a t == Value.bytes a u) = true
    · rw [if_pos hb]
      exact wpAny_bind (wpAny_rule (wpAny_pure hq))
    · rw [if_neg hb]
      refine wpAny_bind (m := richCompare .Eq (.bytes a t) (.bytes a u)) ?_
      show wpAny _ _ (compareOp .Eq (.bytes a t) (.bytes a u)) _ _ _
      refine eq_bytes ?_
      rw [beq_self_eq_true]
      exact wpAny_truthy_bool hq
  | bool e => subst e; exact EqAt.same _
section
variable {prog : Program} {w : World} {A : Around} {E : Value → Shared → Prop} {s : Shared}
theorem same_all {A' : Around} {xs ys : List Value} (h : SameL xs ys) : ∀ j (h1 : j < xs.toArray.size) (h2 : j < ys.toArray.size), EqAt A' s xs.toArray[j] ys.toArray[j] ((fun _ => true) j) := fun j h1 h2 => (h.at j h1 h2).eqAt
theorem ne_same {l b : Addr} {o p : Obj} {xs ys : List Value} {n k : Nat} {Q : Value → Shared → Prop} (hl : s.heap.get? l = some o) (hb : s.heap.get? b = some p) (eo : o = { cls := .type "tuple", data := .seq xs.toArray n }) (ep : p = { cls := .type "tuple", data := .seq ys.toArray k })
    (hu : A.units < cLine) (h : SameL xs ys) (hq : Q (.bool false) s) : wpAny (model prog w) A (compareOp .NotEq (.ref l) (.ref b)) Q E s := by
  subst eo ep
  have := RcNeAt.tuples (A := A) (s := s) (l := l) (b := b) (items := xs.toArray) (items2 := ys.toArray) (e := fun _ => true) ⟨_, hl, rfl, n, rfl⟩ ⟨_, hb, rfl, k, rfl⟩ hu (same_all h) prog w E Q
  refine this ?_
  have e : (!((List.range (min xs.toArray.size ys.toArray.size)).all (fun _ => true) && xs.toArray.size == ys.toArray.size)) = false := by
    simp [h.length]
  rw [e]
  exact hq
theorem eq_same {l b : Addr} {o p : Obj} {xs ys : List Value} {n k : Nat} {Q : Value → Shared → Prop} (hl : s.heap.get? l = some o) (hb : s.heap.get? b = some p) (eo : o = { cls := .type "list", data := .seq xs.toArray n }) (ep : p = { cls := .type "list", data := .seq ys.toArray k })
    (hu : A.units < cLine) (h : SameL xs ys) (hq : Q (.bool true) s) : wpAny (model prog w) A (compareOp .Eq (.ref l) (.ref b)) Q E s := by
  subst eo ep
  refine eq_listAt (e := fun _ => true) ⟨_, hl, rfl, n, rfl⟩ ⟨_, hb, rfl, k, rfl⟩ (by simp [h.length]) hu (same_all h) ?_
  have e : (List.range xs.toArray.size).all (fun _ => true) = true := by simp
  rw [e]
  exact hq
theorem ne_bytes_same {b c : Array UInt8} {t u : Tok} {Q : Value → Shared → Prop} (e : b = c) (h : Q (.bool false) s) : wpAny (model prog w) A (compareOp .NotEq (.bytes b t) (.bytes c u)) Q E s := by
  subst e
  refine ne_bytes ?_
  rw [show (b.toList != b.toList) = false by simp]
  exact h
end
theorem opt_is {n r : Int} {ob : Array UInt8} (h0 : 0 ≤ n) (h1 : n ≤ 65535) (hr : r = n / 256) (ho : ob = #[(2 : Int).toNat.toUInt8, (4 : Int).toNat.toUInt8, (n / 256 % 256).toNat.toUInt8, (n % 256).toNat.toUInt8]) : ob = byteArr [2, 4, r, n % 256] := by
  subst hr ho
  have : n / 256 % 256 = n / 256 := Int.emod_eq_of_lt (by omega) (by omega)
  rw [this]
  rfl
end Mine
end
section
open PySem PySem.W PyProof.Rows PySem.Calls
set_option Elab.async false
set_option maxRecDepth 100000
namespace Mine
section
variable {α β : Type} {M : Model} {A : Around} {E : Value → Shared → Prop} {s : Shared}
theorem wpC_any {t : Sem α} {Q : α → Shared → Prop} (h : wpAny M A t Q E s) : wpC M A t Q E s := fun Γ p hΓ _ => h Γ p hΓ
theorem codeC_any {c : Code} {R : Result → Shared → Prop} (h : codeAny M A c R s) : codeC M A c R s := fun Γ p hc hΓ _ => h Γ p hc hΓ
theorem wpC_onRaise {m : Sem α} {k : Value → Sem Unit} {Q : α → Shared → Prop} (h : wpC M A m Q (fun e s' => wpAny M A (k e) (fun _ s'' => E e s'') E s') s) : wpC M A (m.onRaise k) Q E s := fun Γ p hΓ c => by
  rw [Sem.wp_onRaise]
  exact Sem.wp_mono M Γ m (fun _ _ _ h' => h') (fun e p' s' h' => h' Γ p' hΓ) p s (h Γ p hΓ c)
theorem wpC_holding {vs : List Value} {m : Sem α} {Q : α → Shared → Prop} (h : wpC M A m Q E s) : wpC M A (holding vs m) Q E s := fun Γ p hΓ c => by rw [Sem.wp_holding]; exact h Γ p hΓ c
theorem wpC_keep {vs : List Value} {m : Sem α} {Q : α → Shared → Prop} (h : wpC M A m Q E s) : wpC M A (m.keep vs) Q E s := fun Γ p hΓ c => by rw [Sem.wp_keep]; exact h Γ p hΓ c
theorem cl_enter {Γ : Ctx} (c : Code) (hd : Option Value) (p : Pos) (h : Cl Γ) : ∀ x ∈ (Γ.enter c hd p).below, okC x.1 = true := by
  intro x hx
  rcases List.mem_cons.mp (show x ∈ (Γ.code, p) :: Γ.below from hx) with rfl | hx
  · exact h.1
  · exact h.2 x hx
theorem wpC_run {c : Code} {h : Option Value} {Q : Flow → Shared → Prop} (hc : codeC M (A.mark h) c (fun r s' => match r with | .ok f => Q f s' | .error e => E e s') s) (hnb : h ≠ some byPass := by intro x; cases x) : wpC M A (run c h) Q E s :=
  fun Γ p hΓ k => by rw [Sem.wp_run]; exact hc _ p rfl (hΓ.enter c h p hnb) (cl_enter c h p k)
theorem wpC_runValue {c : Code} {Q : Value → Shared → Prop} (hc : codeC M A c (fun r s' => match r with | .ok (.ret v) => Q v s' | .ok _ => False | .error e => E e s') s) : wpC M A (runValue c) Q E s :=
  fun Γ p hΓ k => by rw [Sem.wp_runValue]; exact hc _ p rfl (hΓ.enter c none p (by intro x; cases x)) (cl_enter c none p k)
theorem wpC_call {f : Value} {pos : List Value} {kw : List (Str × Value)} {Q : Value → Shared → Prop}
    (hc : codeC M A (.call f ⟨pos, kw⟩) (fun r s' => match r with | .ok (.ret v) => Q v s' | .ok _ => False | .error e => E e s') s) : wpC M A (call f pos kw) Q E s := wpC_runValue hc
theorem codeC_mono {c : Code} {R R' : Result → Shared → Prop} (h : codeC M A c R s) (hR : ∀ r s, R r s → R' r s) : codeC M A c R' s := fun Γ p hc hΓ k => wpCode_mono hR (h Γ p hc hΓ k)
theorem codeC_tree {c : Code} {R : Result → Shared → Prop} (ok : okC c = true)
    (h : wpC M (A.under c) (M.den c) (fun fin s' => match fin with | .done f => R (.ok f) s' | .again c' => c'.quiet = true ∧ codeC M A c' R s') (fun e s' => R (.error e) s') s) : codeC M A c R s := fun Γ p hc hΓ k => by
  rw [wpCode_iff_wp, hc]
  refine Sem.wp_mono M Γ _ (fun fin p' s' h' => ?_) (fun _ _ _ h' => h') p s (h Γ p (hc ▸ hΓ.in) ⟨hc ▸ ok, k⟩)
  cases fin with
  | done f => exact h'
  | again c' => exact ⟨h'.1, h'.2 (Γ.goto c') p' rfl (hΓ.goto c') k⟩
/-- a code that reads the stack: its own code stands on top, the others are clean -/
theorem codeC_stack {c : Code} {R : Result → Shared → Prop} {k : List (Code × Pos) → Sem Fin} (ok : okC c = true) (hk : M.den c = stack >>= k)
    (h : ∀ p st, (∀ x ∈ st, okC x.1 = true) → wpC M (A.under c) (k ((c, p) :: st)) (fun fin s' => match fin with | .done f => R (.ok f) s' | .again c' => c'.quiet = true ∧ codeC M A c' R s') (fun e s' => R (.error e) s') s) : codeC M A c R s := fun Γ p hc hΓ b => by
  rw [wpCode_iff_wp, hc, hk]
  show Sem.wp _ Γ (Sem.bind stack k) _ _ p s
  unfold stack
  rw [Sem.wp_bind, Sem.wp_stack]
  have h0 := h p Γ.below b Γ p (hc ▸ hΓ.in) ⟨hc ▸ ok, b⟩
  rw [← hc] at h0
  show Sem.wp _ Γ (k ((Γ.code, p) :: Γ.below)) _ _ p s
  refine Sem.wp_mono _ Γ _ (fun fin p' s' h' => ?_) (fun _ _ _ h' => h') p s h0
  cases fin with
  | done f => exact h'
  | again c' => exact ⟨h'.1, h'.2 (Γ.goto c') p' rfl (hΓ.goto c') b⟩
end
theorem wpC_stackIs {α : Type} {M : Model} {A : Around} {E : Value → Shared → Prop} {s : Shared} {k : List (Code × Pos) → Sem α} {Q : α → Shared → Prop} (h : ∀ st, (∀ x ∈ st, okC x.1 = true) → wpC M A (k st) Q E s) : wpC M A (stack >>= k) Q E s := fun Γ p hΓ c => by
  show Sem.wp _ Γ (Sem.bind stack k) _ _ p s
  unfold stack
  rw [Sem.wp_bind, Sem.wp_stack]
  refine h _ (fun x hx => ?_) Γ p hΓ c
  rcases List.mem_cons.mp hx with rfl | hx
  · exact c.1
  · exact c.2 x hx
section
variable {prog : Program} {w : World} {A : Around} {E : Value → Shared → Prop} {s : Shared} {env : Env} {Q : Flow → Shared → Prop}
theorem execs_append (l₂ : List Stmt) : ∀ l₁ : List Stmt, execs (l₁ ++ l₂) env = (execs l₁ env >>= fun f => match f with | .next => execs l₂ env | f => pure f)
  | [] => rfl
  | a :: l => by
    show (exec a env >>= fun f => match f with | .next => execs (l ++ l₂) env | f => pure f) = ((exec a env >>= fun f => match f with | .next => execs l env | f => pure f) >>= _)
    rw [bind_assoc]
    refine congrArg _ (funext fun f => ?_)
    cases f <;> first | exact execs_append l₂ l | rfl
theorem wpC_split {l : List Stmt} (k : Nat) (h : wpAny (model prog w) A (execs (l.take k) env) (fun f s' => match f with | .next => wpC (model prog w) A (execs (l.drop k) env) Q E s' | f => Q f s') E s) :
    wpC (model prog w) A (execs l env) Q E s := by
  rw [← List.take_append_drop k l, execs_append]
  refine wpC_anyBind (wpAny_mono h (fun f s' h' => ?_) fun _ _ e => e)
  cases f <;> first | exact wpC_pure h' | (rw [List.take_append_drop] at *; exact h') | exact h'
theorem wpC_cons {a : Stmt} {l : List Stmt} (h : wpC (model prog w) A (exec a env) (fun f s' => match f with | .next => wpC (model prog w) A (execs l env) Q E s' | f => Q f s') E s) :
    wpC (model prog w) A (execs (a :: l) env) Q E s := by
  show wpC _ _ (exec a env >>= _) _ _ _
  refine wpC_bind (wpC_mono h (fun f s' h' => ?_) fun _ _ e => e)
  cases f <;> first | exact wpC_pure h' | exact h'
theorem wpC_If {test : Expr} {body orelse : List Stmt} {pos : Pos} (h : wpC (model prog w) A (isTrue test env (eval test env)) (fun b s' => if b then wpC (model prog w) A (execs body env) Q E s' else wpC (model prog w) A (execs orelse env) Q E s') E s) :
    wpC (model prog w) A (exec (.If test body orelse pos) env) Q E s := by
  show wpC _ _ (standAt pos >>= fun _ => isTrue test env (eval test env) >>= _) _ _ _
  refine wpC_anyBind (wpAny_standAt (wpC_bind (wpC_mono h (fun b s' h' => ?_) fun _ _ e => e)))
  cases b <;> exact h'
theorem wpC_Not {x : Expr} {pos : Pos} {whole : Sem Value} {Q : Bool → Shared → Prop} (h : wpC (model prog w) A (isTrue x env (eval x env)) (fun b s' => Q (!b) s') E s) : wpC (model prog w) A (isTrue (.UnaryOp .Not x pos) env whole) Q E s := by
  show wpC _ _ (isTrue x env (eval x env) >>= _) _ _ _
  exact wpC_bind (wpC_mono h (fun b s' h' => wpC_pure h') fun _ _ e => e)
theorem wpC_truthCall {f : Expr} {as : List Expr} {ks : List Keyword} {pos : Pos} {whole : Sem Value} {Q : Bool → Shared → Prop} (h : wpC (model prog w) A whole (fun v s' => ∃ b, v = .bool b ∧ Q b s') E s) : wpC (model prog w) A (isTrue (.Call f as ks pos) env whole) Q E s := by
  show wpC _ _ (whole >>= _) _ _ _
  refine wpC_bind (wpC_mono h (fun v s' h' => ?_) fun _ _ e => e)
  obtain ⟨b, rfl, hq⟩ := h'
  exact wpC_anyBind (wpAny_standAt (wpC_holding (wpC_pure hq)))
theorem codeC_func {body : List Stmt} {R : Result → Shared → Prop}
    (h : wpC (model prog w) (A.deeper env) (execs body env) (fun f s' => R (.ok (.ret (match f with | .ret v => v | _ => .none))) s')
      (fun e s' => wpAny (model prog w) (A.deeper env) (leaving env e) (fun _ s'' => R (.error e) s'') (fun e' s'' => R (.error e') s'') s') s) :
    codeC (model prog w) A (.func body env) R s := by
  refine codeC_tree rfl ?_
  show wpC _ (A.deeper env) (do point; match ← (execs body env).onRaise (leaving env) with | .ret v => ret v | _ => ret .none) _ _ s
  refine wpC_anyBind (wpAny_point (wpC_bind (wpC_onRaise (wpC_mono h (fun f s' h' => ?_) fun _ _ h' => h'))))
  cases f <;> exact wpC_pure h'
theorem codeC_call_function {R : Result → Shared → Prop} {a : Addr} {args : Args} {o : Obj} {fd : FuncData} {body : List Stmt} (hroom : A.depth < recursionLimit)
    (ho : s.heap.get? a = some o)
    (hd' : o.data = .func fd) (hco : fd.scope.isCoroutine = false) (hgen : fd.scope.isGenerator = false) (hbody : fd.body = .stmts body) (hcd : s.heap.CodeRec fd.code fd.qualname)
    (h : wpAny (model prog w) A.in1 (bindArgs fd args) (fun binds s₁ =>
      wpAny (model prog w) A.in1 (newFunctionEnv fd.scope fd.globals fd.closure binds (fd.qualname ++ ".<locals>.") (some a) fd.code none fd.builtins)
        (fun env s₂ => s₂.heap.NoLimit ∧ codeC (model prog w) A (.func body env) R s₂) (fun e s' => R (.error e) s') s₁) (fun e s' => R (.error e) s') s) :
    codeC (model prog w) A (.call (.ref a) args) R s := by
  refine codeC_tree rfl (wpC_any ?_)
  show wpAny _ A.in1 (callAny (.ref a) args) _ _ s
  simp only [callAny]
  refine wpAny_bind (wpAny_load ho ?_)
  obtain ⟨c, oc, vs, tq, hc, hoc, hdc, hq⟩ := hcd
  simp only [hd', callFunction, hco, hgen, hbody, hc]
  rw [hc] at h
  refine wpAny_bind (m := field (.ref c) 1) (wpAny_field hoc hdc hq (wpAny_bind (wpAny_pure ?_)))
  exact wpAny_bind (wpAny_mono h (fun binds s₁ h₁ => wpAny_bind (wpAny_mono h₁ (fun env s₂ h₂ => wpAny_bind (wpAny_enterFrame h₂.1 hroom
    (wpAny_pure (And.intro rfl h₂.2)))) fun _ _ h' => h')) fun _ _ h' => h')
theorem codeC_call_def {R : Result → Shared → Prop} {a : Addr} {o : Obj} {fd : FuncData} {body : List Stmt} {args : Args} {binds : List (Str × Value)}
    (hroom : A.depth < recursionLimit) (ho : s.heap.get? a = some o) (hdata : o.data = .func fd) (hlim : s.heap.NoLimit) (hcd : s.heap.CodeRec fd.code fd.qualname)
    (hbody : fd.body = .stmts body) (hbind : BindsTo s fd args binds)
    (hcell : ∀ x ∈ fd.scope.names, x.2 ≠ .cell) (hloc : ∀ x ∈ binds, fd.scope.names.lookup x.1 = some .local)
    (h : ∀ h₀, h₀.Ns s.heap.objs.size (fun x => binds.reverse.lookup x) → (∀ b o, s.heap.get? b = some o → h₀.get? b = some o) →
      wpC (model prog w) (A.deeper (callEnv fd s.heap.objs.size a)) (execs body (callEnv fd s.heap.objs.size a)) (fun f s' => R (.ok (.ret (match f with | .ret v => v | _ => .none))) s')
        (fun e s' => wpAny (model prog w) (A.deeper (callEnv fd s.heap.objs.size a)) (leaving (callEnv fd s.heap.objs.size a) e) (fun _ s'' => R (.error e) s'') (fun e' s'' => R (.error e') s'') s')
        { s with heap := h₀, toks := s.toks + binds.length })
    (hco : fd.scope.isCoroutine = false := by rfl) (hgen : fd.scope.isGenerator = false := by rfl) (hk : fd.scope.kind = .function := by rfl) :
    codeC (model prog w) A (.call (.ref a) args) R s := by
  refine codeC_call_function hroom ho hdata hco hgen hbody hcd (hbind _ _ _ _ ?_)
  refine wpAny_newFunctionEnv hcell hloc (fun h₀ hns₀ hsb₀ => ⟨hlim.fresh _ hsb₀, codeC_func (h h₀ hns₀ fun b o e => ?_)⟩) hk
  exact hsb₀.extBut b o (Nat.ne_of_lt (Heap.lt_size e)) (Heap.get?_push_of_some _ e)
end
section
variable {w : World} {A A₀ : Around} {s : Shared} {L : Addr} {h₀ base : Heap} {m mg mb : Str → Option Value} {pre news : List (Addr × Obj)} {p : Program} {loose : List Str} {mean : ExcName → Option Value} {outer : List Env}
theorem codeC_frame {prog : Program} {K : Frag} {env : Env} {R : Result → Shared → Prop} {name qual : Str} {params : Arguments} {body : List Stmt} {scope : Scope} {dV kV doc pm cdv ct oc : Value} {an od : Option Addr} {osl : Array (Option Value)} {f : Addr} {args : Args} {binds : List (Str × Value)}
    (B : Below A₀ base outer h₀) (F : Fr h₀ L s.heap m) (X₀ : K.In h₀) (N : News h₀ L s.heap pre) (T : Top p loose mean mg mb h₀) (hA : A.frames = some (env :: outer)) (hf : env.frame = some L) (hke : env.scope.kind = .function)
    (ho : K.lookup f = some ⟨oc, od, .func (fnOf name qual params body scope dV kV doc pm an cdv ct), osl⟩) (hcd : codeIn K cdv qual = true) (hroom : A.depth < recursionLimit)
    (hbind : BindsTo s (fnOf name qual params body scope dV kV doc pm an cdv ct) args binds) (hloc : ∀ y ∈ binds, scope.names.lookup y.1 = some .local)
    (h : ∀ g L' h₁, Fr h₀ L g m → Fr g L' h₁ (fun y => binds.reverse.lookup y) → News g L' h₁ pre → Below A base (env :: outer) g → K.In g → Top p loose mean mg mb g →
      (∀ b o, s.heap.get? b = some o → b ∉ pre.map (·.1) → g.get? b = some o) →
      wpC (model prog w) (A.deeper (envOf qual scope L' f cdv)) (execs body (envOf qual scope L' f cdv))
        (fun fl s' => LeaveK h₀ L m g R (match fl with | .ret v => v | _ => .none) s')
        (fun _ _ => False)
        { s with heap := h₁, toks := s.toks + binds.length })
    (hco : scope.isCoroutine = false) (hgen : scope.isGenerator = false) (hk : scope.kind = .function)
    (hcell : ∀ x ∈ scope.names, x.2 ≠ .cell) : codeC (model prog w) A (.call (.ref f) args) R s := by
  obtain ⟨FG, BG, st, lv⟩ := groundX (R := R) B F N hA hf hke
  refine codeC_call_def (fd := fnOf name qual params body scope dV kV doc pm an cdv ct) (body := body) (binds := binds) hroom ((X₀.keeps F.keep) _ _ ho) rfl (T.nolimit.keeps F.keep) (codeRec_of (X₀.keeps F.keep) hcd) rfl hbind hcell hloc (fun h₁ hns hk₁ => ?_) hco hgen hk
  exact wpC_mono (h _ s.heap.objs.size h₁ FG ⟨hns, fun b o e => hk₁ b o (of_hideAll _ e), Nat.le_of_eq (hideAll_size _ _)⟩
    (fun q hq => ⟨hk₁ _ _ (N q hq).1, Nat.ne_of_lt (Heap.lt_size (N q hq).1), hideAll_none _ (List.mem_map_of_mem hq)⟩) BG (X₀.keeps st) (T.keeps st) fun b o e n => hideAll_get _ e n) (fun fl s' hl => lv _ _ hl) fun _ _ y => y.elim
end
end Mine
end
section
open PySem PySem.W PyProof.Rows PySem.Calls
set_option Elab.async false
set_option maxRecDepth 100000
namespace Mine
open PySem.Builtin
theorem ba_mro : mroOf (.type "bytearray") = pure [.type "bytearray", .type "object"] := by rw [mroOf_type]; kernel_rfl
theorem ba_lookup_new : typeLookup (.type "bytearray") "__new__" = pure (some (.builtin "bytearray.__new__")) := by rw [typeLookup_type, builtinLookup_eq_fast]; kernel_rfl
theorem ba_slot_init : Slot "bytearray" "__init__" "bytearray.__init__" :=
  .of (owner := "bytearray") (n := "__init__") (by rw [typeLookup_type, builtinLookup_eq_fast]; kernel_rfl) (by decide +kernel) (by decide +kernel) (by decide +kernel)
    (by first | exact .inl (by decide +kernel) | exact .inr (by decide +kernel)) (by rw [isSubtype_type]; kernel_rfl)
theorem ba_lookup_rel : typeLookup (.type "bytearray") "__release_buffer__" = pure (some (.builtin "bytearray.__release_buffer__")) := by rw [typeLookup_type, builtinLookup_eq_fast]; kernel_rfl
theorem ba_made : Bind.madeBy (.type "bytearray") = pure (some "bytearray.__new__") := madeBy_type ba_mro ba_lookup_new (by decide +kernel)
theorem ba_sub : isSubtype (.type "bytearray") (.type "bytearray") = pure true := by rw [isSubtype_type]; kernel_rfl
theorem ba_typeCall : checkTypeCall "bytearray" ⟨[], []⟩ = pure () := by kernel_rfl
theorem ba_newCall : checkBuiltinCall "bytearray.__new__" ⟨[.type "bytearray"], []⟩ = pure () := by kernel_rfl
theorem ba_entry_new : entryFor table "bytearray.__new__" = some Builtin.«list.__new__» :=
  entryFor_alias (id' := "list.__new__") (by rw [fastTable_eq_tree]; kernel_rfl) (by decide +kernel) (by decide +kernel) (by rw [fastTable_eq_tree]; kernel_rfl)
theorem ba_entry_init : entryFor table "bytearray.__init__" = some Builtin.«bytearray.__init__» := by first | exact entryFor_of_tree (by kernel_rfl) | exact entryFor_of_fast (by kernel_rfl)
theorem ba_plain_new : plainId "bytearray.__new__" = true := by decide +kernel
theorem ba_args_init (a : Value) : argsOk "bytearray.__init__" ⟨[a], []⟩ := by unfold argsOk; kernel_rfl
set_option maxRecDepth 1000000 in
set_option maxHeartbeats 4000000 in
theorem ba_owner : ("bytearray.__new__".splitOn ".__new__").headD "" = "bytearray" := by simp +decide [String.splitOn, String.splitOnAux]
theorem ba_bind : Builtin.Bytes.bindOptional "bytearray.__init__" "bytearray" ["source", "encoding", "errors"] [] [] = pure [none, none, none] := by kernel_rfl
abbrev baObj : Obj := { cls := .type "bytearray", data := .bytearray #[] 0 }
section
variable {prog : Program} {w : World} {A : Around} {E : Value → Shared → Prop} {s : Shared}
theorem code_ba_new {R : Result → Shared → Prop} (h : R (.ok (.ret (.ref s.heap.objs.size))) { s with heap := s.heap.push baObj }) :
    codeAny (model prog w) A (.call (.builtin "bytearray.__new__") ⟨[.type "bytearray"], []⟩) R s := by
  refine codeAny_of_tree ?_
  show wpAny _ A.in1 (do checkBuiltinCall "bytearray.__new__" ⟨[.type "bytearray"], []⟩; again (.builtin "bytearray.__new__" ⟨[.type "bytearray"], []⟩)) _ _ s
  refine wpAny_bind (wpAny_of_eq ba_newCall (wpAny_pure ⟨plainId_quiet ba_plain_new _, codeAny_builtin_stack ba_entry_new rfl fun p st => ?_⟩))
  rw [Around.under_plainId ba_plain_new _]
  have hsub := ba_sub
  have hown := ba_owner
  obtain ⟨hp, g, d, tk, os⟩ := s
  simp only [hown]
  wp_walk
  exact h
theorem okC_id {id : String} (args : Args) (h : badIds.contains id = false) : okC (.builtin id args) = true := by
  show (!badIds.contains id) = true
  rw [h]
  rfl
theorem codeC_builtin {id : String} {args : Args} {b : Builtin} {R : Result → Shared → Prop} (hb : entryFor table id = some b) (ok : badIds.contains id = false)
    (h : wpC (model prog w) (A.under (.builtin id args)) (b args)
      (fun fin s' => match fin with | .done f => R (.ok f) s' | .again c' => c'.quiet = true ∧ codeC (model prog w) A c' R s') (fun e s' => R (.error e) s') s) :
    codeC (model prog w) A (.builtin id args) R s := by
  refine codeC_tree (okC_id _ ok) ?_
  show wpC _ _ (match entryFor table id with | some b => b args | none => unsupported ((withoutEnding? id "#data").getD id)) _ _ s
  rw [hb]; exact h
theorem any_off {st : List (Code × Pos)} {f : Code × Pos → Bool} (hs : ∀ x ∈ st, okC x.1 = true) (hf : ∀ c p, okC c = true → f (c, p) = false) : st.any f = false := by
  rw [List.any_eq_false]
  rintro ⟨c, p⟩ hx
  rw [hf c p (hs _ hx)]
  decide
theorem bad_ne {id x : String} (h : badIds.contains id = false) (hx : badIds.contains x = true) : id ≠ x := fun e => by
  rw [e, hx] at h
  cases h
theorem exported_C {self : Value} {Q : Bool → Shared → Prop} (h : Q false s) : wpC (model prog w) A (Bytes.exported self) Q E s := by
  unfold Bytes.exported
  refine wpC_stackIs fun st hs => wpC_pure ?_
  rw [any_off hs]
  · exact h
  intro c p this
  cases c with
  | builtin id args =>
    have hb : badIds.contains id = false := by
      have : (!badIds.contains id) = true := this
      cases hc : badIds.contains id with
      | false => rfl
      | true => rw [hc] at this; cases this
    have hd : Bytes.decodersThatHold.contains id = false := by
      cases hc : Bytes.decodersThatHold.contains id with
      | false => rfl
      | true =>
        have : badIds.contains id = true := by
          simp only [List.contains_iff_mem] at hc ⊢
          exact List.mem_append.mpr (.inl hc)
        rw [this] at hb; cases hb
    obtain ⟨pos, kw⟩ := args
    delta Bytes.exported.match_1
    refine (dif_neg (bad_ne hb (by decide +kernel)) : (dite (id = "bytearray.__contains__") _ _ : Bool) = _).trans ?_
    refine (dif_neg (bad_ne hb (by decide +kernel)) : (dite (id = "bytearray.__mod__") _ _ : Bool) = _).trans ?_
    refine (dif_neg (bad_ne hb (by decide +kernel)) : (dite (id = "bytearray.__rmod__") _ _ : Bool) = _).trans ?_
    refine (dif_neg (bad_ne hb (by decide +kernel)) : (dite (id = "_struct.pack_into.held") _ _ : Bool) = _).trans ?_
    refine (dif_neg (bad_ne hb (by decide +kernel)) : (dite (id = "bytearray.find.held") _ _ : Bool) = _).trans ?_
    cases pos with
    | nil => rfl
    | cons v tl =>
      show (_ && Bytes.decodersThatHold.contains id) = false
      rw [hd, Bool.and_false]
  | _ => rfl
theorem baNew_same (h : Heap) : (h.push baObj).update h.objs.size (Obj.mapBytearray fun _ => #[]) = h.push baObj := by
  obtain ⟨objs, l⟩ := h
  show Heap.mk ((objs.push baObj).modify objs.size _) l = Heap.mk (objs.push baObj) l
  congr 1
  apply Array.ext
  · simp
  · intro i h1 h2
    rw [Array.getElem_modify]
    split
    · rename_i e
      subst e
      simp [Obj.mapBytearray]
    · rfl

theorem ba_init_C {a : Addr} {h₁ : Heap} {g : Array GenState} {d : Drawn} {t : Nat} {os : OsState} {R : Result → Shared → Prop} (e : h₁.get? a = some baObj)
    (h : R (.ok (.ret .none)) ⟨h₁.update a (Obj.mapBytearray fun _ => #[]), g, d, t, os⟩) :
    codeC (model prog w) A (.call (.builtin "bytearray.__init__") ⟨[.ref a], []⟩) R ⟨h₁, g, d, t, os⟩ := by
  have hT : Shared.TypeIs ⟨h₁, g, d, t, os⟩ (.ref a) "bytearray" := ⟨_, e, rfl⟩
  refine codeC_tree rfl ?_
  show wpC _ A.in1 (do checkBuiltinCall "bytearray.__init__" ⟨[.ref a], []⟩; again (.builtin "bytearray.__init__" ⟨[.ref a], []⟩)) _ _ _
  refine wpC_anyBind (ba_slot_init.check _ _ _ _ _ _ _ _ hT (ba_args_init _) (wpC_pure ⟨plainId_quiet ba_slot_init.plain _, codeC_builtin ba_entry_init (by decide +kernel) ?_⟩))
  rw [Around.under_plainId ba_slot_init.plain _]
  show wpC _ _ (Bytes.ownRelease (.ref a) >>= _) _ _ _
  have hrel : wpAny (model prog w) A.in1 (Bytes.ownRelease (.ref a)) (fun b s' => b = false ∧ s' = (⟨h₁, g, d, t, os⟩ : Shared)) (fun e s' => R (.error e) s') ⟨h₁, g, d, t, os⟩ := by
    have hl := ba_lookup_rel
    unfold Bytes.ownRelease
    refine wpAny_bind (m := Bytes.slotIsOwn (.ref a) "__release_buffer__") ?_
    unfold Bytes.slotIsOwn
    refine wpAny_bind (m := specialOf (.ref a) "__release_buffer__") ?_
    unfold specialOf
    refine wpAny_bind (m := typeOf (.ref a)) (wpAny_typeOf hT ?_)
    refine wpAny_of_eq hl ?_
    dsimp only
    rw [if_neg (by decide +kernel)]
    refine wpAny_isInstance (T := "bytearray") (b := true) hT ?_ ?_
    · rw [show ("bytearray.__release_buffer__".dropRight ("__release_buffer__".length + 1)) = "bytearray" from by decide +kernel]
      exact ba_sub
    · exact wpAny_pure ⟨rfl, rfl⟩
  refine wpC_anyBind (wpAny_mono hrel (fun b s' hb => ?_) fun _ _ x => x)
  obtain ⟨rfl, rfl⟩ := hb
  show wpC _ _ (Bytes.bindOptional "bytearray.__init__" "bytearray" ["source", "encoding", "errors"] [] [] >>= _) _ _ _
  refine wpC_anyBind (wpAny_of_eq ba_bind ?_)
  show wpC _ _ (Bytes.checkCodecArg "bytearray.__init__" "bytearray" "encoding" none >>= _) _ _ _
  refine wpC_anyBind (wpAny_of_eq (a := ()) rfl ?_)
  refine wpC_anyBind (wpAny_of_eq (a := ()) rfl ?_)
  refine wpC_bind (m := _ >>= _) (wpC_bind (m := Bytes.exported (.ref a)) (exported_C ?_))
  show wpC _ _ (Bytes.exportsOf (.ref a) >>= fun n => pure (decide (n > 0))) _ _ _
  refine wpC_anyBind ?_
  unfold Bytes.exportsOf
  refine wpAny_bind (wpAny_load e (wpAny_pure (wpC_pure (wpC_any ?_))))
  refine bm_if_false rfl ?_
  refine wpAny_bind (m := Bytes.write (.ref a) fun _ => #[]) ?_
  show wpAny _ _ (updateBytearray a fun _ => #[]) _ _ _
  unfold updateBytearray
  refine wpAny_bind (wpAny_load e ?_)
  show wpAny _ _ (update a (Obj.mapBytearray fun _ => #[]) >>= fun _ => lookBehind a) _ _ _
  refine wpAny_bind (wpAny_update e ?_)
  refine wpAny_lookBehind (o := baObj) (Heap.get?_update_self (Obj.mapBytearray fun _ => #[]) e rfl) rfl ?_
  exact wpAny_bind (wpAny_pure (wpAny_pure h))

theorem ba_h2 : ((Manifest.find? "bytearray").bind (·.mro.findSome? fun t => (Manifest.find? t).bind fun b => if b.noNew then some true else if b.attrs.any (·.1 == "__new__") then some false else none)).getD false = false := by decide +kernel
theorem ba_call_C {R : Result → Shared → Prop} (h : R (.ok (.ret (.ref s.heap.objs.size))) { s with heap := s.heap.push baObj }) :
    codeC (model prog w) A (.call (.type "bytearray") ⟨[], []⟩) R s := by
  obtain ⟨hh, g, d, t, os⟩ := s
  have h1 : (Value.type "bytearray" == Value.type "type") = false := by decide +kernel
  have h2 := ba_h2
  refine codeC_tree rfl ?_
  show wpC _ _ (again (.builtin "type.__call__" ⟨[.type "bytearray"], []⟩)) _ _ _
  refine wpC_pure ⟨Code.quiet_builtin _ (by decide +kernel), codeC_builtin F.entry_type_call (by decide +kernel) ?_⟩
  rw [Around.under_plain (weight_type_call_type "bytearray" [] []) (units_type_call_type "bytearray" [] [])]
  unfold Builtin.«type.__call__»
  simp only [h1, h2, Bool.false_eq_true, if_false, ba_typeCall, ba_mro, ba_made, pure_bind, List.isEmpty_cons]
  refine wpC_anyBind (wpAny_holding (wpAny_call (code_ba_new ?_)))
  have hx : (hh.push baObj).get? hh.objs.size = some baObj := Heap.get?_push_size _ rfl
  have hT : Shared.TypeIs ⟨hh.push baObj, g, d, t, os⟩ (.ref hh.objs.size) "bytearray" := ⟨_, hx, rfl⟩
  refine wpC_anyBind (wpAny_isInstance hT ba_sub ?_)
  simp only [Bool.not_true, Bool.false_eq_true, if_false]
  refine wpC_bind (wpC_holding ?_)
  unfold callSpecial? specialOf
  refine wpC_anyBind (wpAny_bind (wpAny_typeOf hT (wpAny_of_eq ba_slot_init.lookup ?_)))
  refine wpC_holding (wpC_anyBind (wpAny_of_eq (ba_slot_init.bind _) ?_))
  refine wpC_bind (wpC_call (ba_init_C hx ?_))
  rw [baNew_same]
  exact wpC_pure (wpC_any (wpAny_pure h))
end
end Mine
end
section
open PySem PySem.W PyProof.Rows PySem.Calls
set_option Elab.async false
set_option maxRecDepth 100000
namespace Mine
section
variable {prog : Program} {w : World} {A : Around} {K : Frag} {C : Addr} {R : Result → Shared → Prop} {h : Heap} {g : Array GenState} {d : Drawn} {t : Nat} {os : OsState}
theorem codeC_call_builtin_at {id : String} {args : Args} {b : Builtin} {s : Shared} (hq : (Code.builtin id args).quiet = true) (hb : entryFor table id = some b) (ok : badIds.contains id = false)
    (h : wpAny (model prog w) A.in1 (checkBuiltinCall id args) (fun _ s₁ => wpC (model prog w) (A.under (.builtin id args)) (b args)
      (fun fin s' => match fin with | .done f => R (.ok f) s' | .again c' => c'.quiet = true ∧ codeC (model prog w) A c' R s') (fun e s' => R (.error e) s') s₁)
      (fun e s' => R (.error e) s') s) : codeC (model prog w) A (.call (.builtin id) args) R s := by
  refine codeC_tree rfl ?_
  show wpC _ A.in1 (do checkBuiltinCall id args; again (.builtin id args)) _ _ s
  exact wpC_anyBind (wpAny_mono h (fun _ s₁ h₁ => wpC_pure (And.intro hq (codeC_builtin hb ok h₁))) fun _ _ h' => h')
theorem make_coreC {rest : List Value} {kw : List (Str × Value)} {init : Value} (Y : Makes (model prog w) h C) (hi : Looks (model prog w) h (typeLookup (.ref C) "__init__") (some init))
    (hb : ∀ self, Looks (model prog w) h (bindSpecial init self) (init, [self])) (hne : (some init != some (Value.builtin "object.__init__")) = true ∨ (rest = [] ∧ kw = []))
    (hq : codeC (model prog w) (A.under (.builtin "type.__call__" ⟨.ref C :: rest, kw⟩)) (.call init ⟨.ref (h.objs.size + 1) :: rest, kw⟩) (InitBack (h.objs.size + 1) R) ⟨(h.push emptyDict).push (instObj C h.objs.size), g, d, t, os⟩) :
    codeC (model prog w) A (.call (.ref C) ⟨rest, kw⟩) R ⟨h, g, d, t, os⟩ := by
  have Y' := Y
  obtain ⟨⟨oc, od, cd, sl, hC, e1, e2, e4⟩, made, base, self, top, call, typ⟩ := Y
  refine codeC_tree rfl (wpC_any ?_)
  show wpAny _ _ (callAny (.ref C) _) _ _ _
  refine nd_load hC ?_
  show wpAny _ _ (callAny.viaDunder (.ref C) _) _ _ _
  unfold callAny.viaDunder
  refine wpAny_bind (call.at ?_)
  dsimp only
  rw [tc_bind]
  refine wpAny_bind (wpAny_pure (wpAny_bind (wpAny_pure ?_)))
  refine wpAny_pure (a := Fin.again (.call (.builtin "type.__call__") ⟨.ref C :: rest, kw⟩)) (And.intro rfl ?_)
  refine codeC_call_builtin_at (Code.quiet_builtin _ (by decide +kernel)) entry_typeCall (by decide +kernel) (check_slot tc_kind tc_split typ (tc_args _ _ _) ?_)
  unfold Builtin.«type.__call__»
  have hm : Looks (model prog w) h (mroOf (.ref C)) cd.mro := ((Looks.ld (part := none) hC).andThen .now).andThen .now
  have h1 : (Value.ref C == Value.type "type") = false := rfl
  simp only [h1, Bool.false_eq_true, if_false]
  refine wpC_anyBind (hm.at ?_)
  simp only [e4, Bool.false_eq_true, if_false]
  refine wpC_anyBind (made.at ?_)
  simp only [pure_bind]
  refine wpC_anyBind (wpAny_holding (wpAny_call (new_K Y' hi hne ?_)))
  have k : ∀ b o, h.get? b = some o → ((h.push emptyDict).push (instObj C h.objs.size)).get? b = some o := fun b o e => Heap.get?_push_of_some _ (Heap.get?_push_of_some _ e)
  have hx : ((h.push emptyDict).push (instObj C h.objs.size)).get? (h.objs.size + 1) = some (instObj C h.objs.size) := by heap_get
  have t1 : Looks (model prog w) ((h.push emptyDict).push (instObj C h.objs.size)) (typeOf (.ref (h.objs.size + 1))) (.ref C) := (Looks.ld hx).andThen .now
  have s1 := self.keeps k
  have i1 := hi.keeps k
  have b1 := (hb (.ref (h.objs.size + 1))).keeps k
  dsimp only
  unfold isInstance callSpecial? specialOf
  refine wpC_anyBind (wpAny_bind (t1.at (s1.at ?_)))
  simp only [Bool.not_true, Bool.false_eq_true, if_false]
  refine wpC_bind (wpC_holding (wpC_anyBind (wpAny_bind (t1.at (i1.at ?_)))))
  dsimp only
  refine wpC_holding (wpC_anyBind (b1.at ?_))
  refine wpC_bind (wpC_call ?_)
  refine codeC_mono hq fun r s' z => ?_
  rcases r with e | (v | _ | _ | _) <;> first | exact z | exact z.elim | skip
  obtain ⟨rfl, z⟩ := z
  exact wpC_pure (wpC_pure z)
end
section
variable {prog : Program} {w : World} {A : Around} {K : Frag} {C x : Addr} {s : Shared} {h₀ : Heap} {L : Addr} {m : Str → Option Value} {news : List (Addr × Obj)} {R : Result → Shared → Prop}
theorem make_C {rest : List Value} {kw : List (Str × Value)} {fI : Addr} (F : Fr h₀ L s.heap m) (N : News h₀ L s.heap news) (X : K.In s.heap) (hm : makesIn K C = true)
    (hi : findIn K (.ref C) "__init__" = some (some (.ref fI))) (hf : typeIn K (.ref fI) = some (.type "function"))
    (h : ∀ x dx h', Fr h₀ L h' m → News h₀ L h' ((x, instObj C dx) :: (dx, emptyDict) :: news) → (∀ p ∈ news, p.1 < dx) → dx < x →
      codeC (model prog w) (A.under (.builtin "type.__call__" ⟨.ref C :: rest, kw⟩)) (.call (.ref fI) ⟨.ref x :: rest, kw⟩) (InitBack x R) { s with heap := h' }) :
    codeC (model prog w) A (.call (.ref C) ⟨rest, kw⟩) R s := by
  obtain ⟨hh, g, d, t, os⟩ := s
  refine make_coreC (makes_of X hm) (looks_findIn X hi) (fun self => bind_fn X self hf) (.inl rfl) (h _ hh.objs.size _ ((F.push _).push _) ?_ (fun p hp => Heap.lt_size (N p hp).1) (Nat.lt_succ_self _))
  have := (N.push F emptyDict).push (F.push _) (instObj C hh.objs.size)
  rwa [Heap.size_push] at this
theorem call_clsC {E : Value → Shared → Prop} {Q : Value → Shared → Prop} {pos : List Value} {kw : List (Str × Value)} {fI : Addr} (F : Fr h₀ L s.heap m) (X₀ : K.In h₀) (N : News h₀ L s.heap news) (hm : makesIn K C = true) (hi : findIn K (.ref C) "__init__" = some (some (.ref fI))) (hf : isFn K (.ref fI) = true)
    (h : ∀ x dx h', Fr h₀ L h' m → News h₀ L h' ((x, instObj C dx) :: (dx, dictOf [] 0) :: news) → (∀ p ∈ news, p.1 < dx) → dx < x →
      codeC (model prog w) (A.under (.builtin "type.__call__" ⟨.ref C :: pos, kw⟩)) (.call (.ref fI) ⟨.ref x :: pos, kw⟩) (InitBack x fun r s' => match r with | .ok (.ret v) => Q v s' | .ok _ => False | .error e => E e s') { s with heap := h' }) :
    wpC (model prog w) A (call (.ref C) pos kw) Q E s := wpC_call (make_C F N (X₀.keeps F.keep) hm hi (beq_iff_eq.mp hf) h)
end
end Mine
end
section
open PySem PySem.W PyProof.Rows PySem.Calls
set_option Elab.async false
set_option maxRecDepth 100000
namespace Mine
section
variable {prog : Program} {w : World} {A : Around} {E : Value → Shared → Prop} {s : Shared} {env : Env}
theorem wpC_AssignCall {t f : PySem.Expr} {as : List PySem.Expr} {ks : List PySem.Keyword} {p pos : Pos} {Q : Flow → Shared → Prop}
    (h : wpC (model prog w) A (eval (.Call f as ks p) env) (fun v s' => wpAny (model prog w) A (assign t env v) (fun _ s'' => Q .next s'') E s') E s)
    (ht : (assignEach [t] env).map (·.2) = [assign t env] := by rfl) (hs : swapsWithSole [t] (.Call f as ks p) pos.line env = pure false := by rfl) (hw : swappedStores [t] (.Call f as ks p) env = pure none := by rfl) :
    wpC (model prog w) A (exec (.Assign [t] (.Call f as ks p) pos) env) Q E s := by
  show wpC _ _ (standAt pos >>= fun _ => swapsWithSole [t] (.Call f as ks p) pos.line env >>= _) _ _ _
  refine wpC_anyBind (wpAny_standAt (wpC_anyBind (wpAny_of_eq hs ?_)))
  show wpC _ _ (eval (.Call f as ks p) env >>= fun v => swappedStores [t] (.Call f as ks p) env >>= fun r => assignStores env v r ((assignEach [t] env).map (·.2))) _ _ _
  refine wpC_bind (wpC_mono h (fun v s' h' => ?_) fun _ _ e => e)
  rw [ht, hw]
  refine wpC_anyBind (wpAny_pure (wpC_any ?_))
  show wpAny _ _ (assign t env v >>= fun _ => pure Flow.next) _ _ _
  exact wpAny_bind (wpAny_mono h' (fun _ _ x => wpAny_pure x) fun _ _ e => e)
theorem wpC_evalCall {x : Str} {np pos : Pos} {as : List PySem.Expr} {Q : Value → Shared → Prop}
    (h : wpAny (model prog w) A (eval (.Name x np) env) (fun f s₁ => wpC (model prog w) A (callWith pos f [] (backTo pos (starEach as env)) []) Q E s₁) E s) :
    wpC (model prog w) A (eval (.Call (.Name x np) as [] pos) env) Q E s := by
  show wpC _ _ (eval (.Name x np) env >>= fun f => callWith pos f [] (backTo pos (starEach as env)) (backToKw pos (keywordEach [] env))) _ _ _
  exact wpC_anyBind h
theorem wpC_callTail {f : Value} {pos : Pos} {k : Keeper} {as : List (Bool × Sem Value)} {vs : List Value} {Q : Value → Shared → Prop} (hk : k = Keeper.frame ∨ k = Keeper.machine) (hp : as.any (·.1) = false) (L : Looks (model prog w) s.heap (keeperOf f) k)
    (h : wpC (model prog w) A (call f vs []) Q E s) : wpC (model prog w) A (do
      standAt pos
      let starred := as.any (·.1) || ([] : List (Option Str × Sem Value)).any (·.1.isNone)
      let pos := [] ++ vs
      let r ← match ← keeperOf f, starred with
        | .frame, true => callMarked starredCall f pos []
        | .frame, false => if as.length + 2 * ([] : List (Option Str × Sem Value)).length > 30 then call f pos [] else callMarked plainCall f pos []
        | .boundFrame, false => if as.length + 2 * ([] : List (Option Str × Sem Value)).length > 30 then call f pos [] else callMarked callOfAMethodObject f pos []
        | .machine, false => call f pos []
        | _, _ => operate (f :: (if starred then pos.reverse else pos) ++ ([] : List (Str × Value)).map (·.2)) (call f pos [])
      holding [r] point
      pure r) Q E s := by
  refine wpC_anyBind (wpAny_standAt ?_)
  simp only [hp, List.any_nil, Bool.or_false]
  refine wpC_anyBind (L.here ?_)
  have tail : ∀ {t : Sem Value}, wpC (model prog w) A t Q E s → wpC (model prog w) A (t >>= fun r => holding [r] point >>= fun _ => pure r) Q E s :=
    fun ht => wpC_bind (wpC_mono ht (fun r s₂ hr => wpC_any (wpAny_bind (wpAny_holding (wpAny_point (wpAny_pure hr))))) fun _ _ x => x)
  have marked (mk : Value) : wpC (model prog w) A (callMarked mk f ([] ++ vs) []) Q E s := by unfold callMarked; exact wpC_keep h
  rcases hk with rfl | rfl <;> dsimp only <;> first | exact tail h | (split <;> first | exact tail h | exact tail (marked _))
theorem callWith_C {K : Frag} {f : Value} {pos : Pos} {e : PySem.Expr} {rest : List PySem.Expr} {Q : Value → Shared → Prop} (hk : keepIn K f = true)
    (h : wpAny (model prog w) A (spliced (backTo pos (starEach (e :: rest) env))) (fun vs s₁ => K.In s₁.heap ∧ wpC (model prog w) A (call f vs []) Q E s₁) E s)
    (he : starEach (e :: rest) env = (false, eval e env) :: starEach rest env := by rfl) (hplain : (backTo pos (starEach rest env)).any (·.1) = false := by rfl) :
    wpC (model prog w) A (callWith pos f [] (backTo pos (starEach (e :: rest) env)) []) Q E s := by
  have hp : (backTo pos (starEach (e :: rest) env)).any (·.1) = false := by rw [he]; show (false || (backTo pos (starEach rest env)).any (·.1)) = false; rw [hplain]; rfl
  unfold callWith
  refine wpC_anyBind (wpAny_holding ?_)
  rw [he] at h ⊢
  refine evalArgs_plain (wpAny_mono h (fun vs s₁ h₁ => ?_) fun _ _ x => x)
  obtain ⟨k, hk', L⟩ := looks_keep (M := model prog w) hk h₁.1
  rw [he] at hp
  exact wpC_callTail hk' hp L h₁.2
theorem callWith_Ct {T : String} {pos : Pos} {Q : Value → Shared → Prop} (h : wpC (model prog w) A (call (.type T) [] []) Q E s) :
    wpC (model prog w) A (callWith pos (.type T) [] (backTo pos (starEach [] env)) []) Q E s := by
  unfold callWith
  refine wpC_anyBind (wpAny_holding ?_)
  refine evalArgs_nil3 ?_
  exact wpC_callTail (as := []) (k := .machine) (.inr rfl) rfl (Looks.of_pure rfl) h
theorem codeC_forTurn {x : Str} {px : Pos} {it : Value} {body : List Stmt} {R : Result → Shared → Prop}
    (h : wpAny (model prog w) A (pyNext it) (fun r s₁ => match r with
      | none => R (.ok .next) s₁
      | some v => wpAny (model prog w) A (storeName env x v) (fun _ s₂ => wpC (model prog w) A (execs body env) (fun f s₃ => match f with
          | .next | .cont => codeC (model prog w) A (.forLoop (.Name x px) it body [] env) R s₃
          | .brk => R (.ok .next) s₃
          | .ret v => R (.ok (.ret v)) s₃) (fun _ _ => False) s₂) (fun _ _ => False) s₁) (fun _ _ => False) s) :
    codeC (model prog w) A (.forLoop (.Name x px) it body [] env) R s := by
  refine codeC_tree rfl ?_
  show wpC _ A ((forTurn (.Name x px) it body [] env).onRaise (fun x => do noteFrame x env; theTreesLotGoes x)) _ _ s
  refine wpC_onRaise ?_
  simp only [forTurn]
  refine wpC_anyBind (wpAny_standAt (wpC_anyBind (wpAny_onRaise (wpAny_mono h (fun r s₁ h₁ => ?_) fun _ _ h' => h'.elim))))
  cases r with
  | none => exact wpC_pure ⟨rfl, codeC_any (codeAny_block (wpAny_pure h₁))⟩
  | some v =>
    refine wpC_anyBind (wpAny_of_eq (a := ()) rfl ?_)
    refine wpC_anyBind (wpAny_assign_Name (wpAny_mono h₁ (fun _ s₂ h₂ => wpC_bind (wpC_mono h₂ (fun f s₃ h₃ => ?_) fun _ _ h' => h'.elim)) fun _ _ h' => h'.elim))
    cases f with
    | next => exact wpC_pure ⟨rfl, h₃⟩
    | cont => exact wpC_pure ⟨rfl, h₃⟩
    | brk => exact wpC_pure h₃
    | ret v => exact wpC_pure h₃
theorem wpC_For {target iter body pos} {Q : Flow → Shared → Prop}
    (h : wpAny (model prog w) A (eval iter env) (fun x s₁ => wpAny (model prog w) A (pyIter x) (fun it s₂ =>
      codeC (model prog w) A (.forLoop target it body [] env) (fun r s' => match r with | .ok f => Q f s' | .error _ => False) s₂) E s₁) E s)
    (hs : ∀ x, foldedSetIterable iter env x = pure x := by intro _; rfl) :
    wpC (model prog w) A (exec (.For target iter body [] pos) env) Q E s := by
  rw [exec_For]
  refine wpC_anyBind (wpAny_standAt (wpC_anyBind (wpAny_mono h (fun x s₁ h₁ => wpC_anyBind (wpAny_of_eq (hs x) (wpC_anyBind (wpAny_standAt (wpC_anyBind (wpAny_holding
    (wpAny_mono h₁ (fun it s₂ h₂ => ?_) fun _ _ h' => h'))))))) fun _ _ h' => h')))
  unfold runOwn
  refine wpC_onRaise (wpC_run (codeC_mono h₂ fun r s' z => ?_))
  cases r with
  | ok f => exact z
  | error e => exact z.elim

end
section
variable {prog : Program} {w : World} {A : Around} {s : Shared} {env : Env} {h₀ : Heap} {x : Str} {px : Pos} {body : List Stmt} {R : Result → Shared → Prop}
def TurnC (h₀ : Heap) (env : Env) (I : Addr) (oI : Obj) (aux : List (Addr × Obj)) (J : (Str → Option Value) → List (Addr × Obj) → Prop) (s : Shared) (R : Result → Shared → Prop) (f : Flow) (s₂ : Shared) : Prop := match f with
  | .brk => False
  | .ret v => R (.ok (.ret v)) s₂
  | _ => ∃ h' tk' m' led', s₂ = { s with heap := h', toks := tk' } ∧ Fr h₀ env.locals h' m' ∧ News h₀ env.locals h' ((I, oI) :: (aux ++ led')) ∧ (∀ q ∈ led', @Ne Nat q.1 I) ∧ J m' led'
theorem forC {I : Addr} {n : Nat} (Ok : Nat → Obj → Prop) (V : Nat → Value → Prop) (aux : List (Addr × Obj)) (hx : env.kindOf x = some .local)
    (hp : (env.scope.kind == .class || (env.scope.kind == .module && env.locals != env.globals)) = false)
    (item : ∀ i (s : Shared) (Q : Option Value → Shared → Prop) E, i < n → (∃ o, s.heap.get? I = some o ∧ Ok i o) → (∀ q ∈ aux, s.heap.get? q.1 = some q.2) →
      (∀ v h' tk o, V i v → h'.get? I = some o → Ok (i + 1) o → Heap.SameBut I s.heap h' → Q (some v) { s with heap := h', toks := tk }) → wpAny (model prog w) A (pyNext (.ref I)) Q E s)
    (fin : ∀ (s : Shared) (Q : Option Value → Shared → Prop) E, (∃ o, s.heap.get? I = some o ∧ Ok n o) → (∀ q ∈ aux, s.heap.get? q.1 = some q.2) →
      (∀ h' tk, Heap.ExtBut I s.heap h' → Q none { s with heap := h', toks := tk }) → wpAny (model prog w) A (pyNext (.ref I)) Q E s)
    (J : Nat → (Str → Option Value) → List (Addr × Obj) → Prop) (haux : ∀ q ∈ aux, @Ne Nat q.1 I)
    (turn : ∀ i v m led oI h tk, i < n → V i v → J i m led → (∀ q ∈ led, @Ne Nat q.1 I) → Fr h₀ env.locals h (fun y => if y = x then some v else m y) → News h₀ env.locals h ((I, oI) :: (aux ++ led)) →
      wpC (model prog w) A (execs body env) (TurnC h₀ env I oI aux (J (i + 1)) s R) (fun _ _ => False) { s with heap := h, toks := tk })
    (done : ∀ m led h tk, J n m led → Fr h₀ env.locals h m → News h₀ env.locals h (aux ++ led) → R (.ok .next) { s with heap := h, toks := tk }) :
    ∀ k i m led h tk oI, n - i = k → i ≤ n → J i m led → Ok i oI → Fr h₀ env.locals h m → News h₀ env.locals h ((I, oI) :: (aux ++ led)) → (∀ q ∈ led, @Ne Nat q.1 I) →
      codeC (model prog w) A (.forLoop (.Name x px) (.ref I) body [] env) R { s with heap := h, toks := tk } := by
  intro k
  induction k with
  | zero =>
    intro i m led h tk oI hk hi hJ hO F N hne
    have e : i = n := by omega
    subst e
    have N' : News h₀ env.locals h (aux ++ led) := fun q hq => N q (List.mem_cons_of_mem _ hq)
    refine codeC_forTurn (fin _ _ _ ⟨oI, (N _ (List.mem_cons_self ..)).1, hO⟩ (fun q hq => (N' q (List.mem_append_left _ hq)).1) fun h' tk' he => ?_)
    have nI := N _ (List.mem_cons_self ..)
    have hk : ∀ b o, @Ne Nat b I → h.get? b = some o → h'.get? b = some o := fun b o q e => he b o q e
    refine done m led h' tk' hJ ⟨?_, fun b o e => hk b o (fun q => ?_) (F.keep b o e), F.above⟩ fun q hq => ⟨hk _ _ ?_ (N' q hq).1, (N' q hq).2⟩
    · exact F.ns.at' fun o e => hk _ _ (fun q => nI.2.1 q.symm) e
    · have := nI.2.2
      rw [show I = b from q.symm, e] at this
      cases this
    · rcases List.mem_append.mp hq with z | z
      · exact haux q z
      · exact hne q z
  | succ k ih =>
    intro i m led h tk oI hk hi hJ hO F N hne
    have hlt : i < n := by omega
    have N' : News h₀ env.locals h (aux ++ led) := fun q hq => N q (List.mem_cons_of_mem _ hq)
    have nI := N _ (List.mem_cons_self ..)
    refine codeC_forTurn (item i _ _ _ hlt ⟨oI, nI.1, hO⟩ (fun q hq => (N' q (List.mem_append_left _ hq)).1) fun v h₁ tk₁ o₁ hV e₁ hO₁ hs => ?_)
    have F₁ : Fr h₀ env.locals h₁ m := by
      refine ⟨F.ns.at' fun o e => (hs.2 _ (fun q => nI.2.1 q.symm)).trans e, fun b o e => (hs.2 b (fun q => ?_)).trans (F.keep b o e), F.above⟩
      have := nI.2.2
      rw [show I = b from q.symm, e] at this
      cases this
    have N₁ : News h₀ env.locals h₁ ((I, o₁) :: (aux ++ led)) := fun q hq => by
      rcases List.mem_cons.mp hq with rfl | hq
      · exact ⟨e₁, nI.2⟩
      · refine ⟨(hs.2 _ ?_).trans (N' q hq).1, (N' q hq).2⟩
        rcases List.mem_append.mp hq with z | z
        · exact haux q z
        · exact hne q z
    refine wpAny_storeName_local hx F₁.ns (fun h₂ hn₂ hs₂ => ?_) hp
    refine wpC_mono (turn i v m led o₁ h₂ (tk₁ + 1) hlt hV hJ hne (F₁.set hn₂ hs₂) (N₁.set hs₂)) (fun f s₃ h₃ => ?_) fun _ _ e => e
    cases f with
    | ret v => exact h₃
    | brk => exact h₃.elim
    | next =>
      obtain ⟨h', tk', m', led', rfl, F', N', ne', J'⟩ := h₃
      exact ih (i + 1) m' led' h' tk' o₁ (by omega) (by omega) J' hO₁ F' N' ne'
    | cont =>
      obtain ⟨h', tk', m', led', rfl, F', N', ne', J'⟩ := h₃
      exact ih (i + 1) m' led' h' tk' o₁ (by omega) (by omega) J' hO₁ F' N' ne'
/-- a for over a list of the ledger -/
theorem forC_list {l : Addr} {lo : Obj} {vs : List Value} {n₁ : Nat} {m : Str → Option Value} {led : List (Addr × Obj)} (hlo : lo = { cls := .type "list", data := .seq vs.toArray n₁ }) (hh : A.handled = none)
    (hx : env.kindOf x = some .local) (hp : (env.scope.kind == .class || (env.scope.kind == .module && env.locals != env.globals)) = false)
    (F : Fr h₀ env.locals s.heap m) (N : News h₀ env.locals s.heap ((l, lo) :: led))
    (J : Addr → Nat → (Str → Option Value) → List (Addr × Obj) → Prop) (start : ∀ I, (∀ q ∈ (l, lo) :: led, q.1 < I) → J I 0 m led)
    (turn : ∀ I i v m led oI h tk, vs[i]? = some v → J I i m led → (∀ q ∈ led, @Ne Nat q.1 I) → @Ne Nat l I → Fr h₀ env.locals h (fun y => if y = x then some v else m y) → News h₀ env.locals h ((I, oI) :: (l, lo) :: led) →
      wpC (model prog w) A (execs body env) (TurnC h₀ env I oI [(l, lo)] (J I (i + 1)) s R) (fun _ _ => False) { s with heap := h, toks := tk })
    (done : ∀ I m led h tk, J I vs.length m led → Fr h₀ env.locals h m → News h₀ env.locals h ((l, lo) :: led) → R (.ok .next) { s with heap := h, toks := tk }) :
    wpAny (model prog w) A (pyIter (.ref l)) (fun it s₂ => codeC (model prog w) A (.forLoop (.Name x px) it body [] env) R s₂) (fun _ _ => False) s := by
  subst hlo
  have hl0 := (N _ (List.mem_cons_self ..)).1
  have hls : s.heap.IsList l vs.toArray := ⟨_, hl0, rfl, n₁, rfl⟩
  have hlt : l < s.heap.objs.size := Heap.lt_size hl0
  refine wpAny_pyIter_list hls ?_
  refine forC (s := s) (I := s.heap.objs.size) (n := vs.length) (fun i o => o.cls = .type "list_iterator" ∧ o.data = .fields #[.ref l, .int i 0]) (fun i v => vs[i]? = some v) [(l, _)] hx hp ?_ ?_ (J s.heap.objs.size) ?_ ?_ ?_ vs.length 0 m led (s.heap.push _) s.toks _ (by omega) (by omega) (start _ fun q hq => Heap.lt_size (N q hq).1) ⟨rfl, rfl⟩ (F.push _) (N.push F _) (fun q hq => Nat.ne_of_lt (Heap.lt_size (N q (List.mem_cons_of_mem _ hq)).1))
  · intro i s' Q E hi hO ha hQ
    obtain ⟨o, ho, hc, hd⟩ := hO
    have hl' : s'.heap.IsList l vs.toArray := ⟨_, ha _ (List.mem_singleton_self _), rfl, n₁, rfl⟩
    refine wpAny_pyNext_list_item (x := vs[i]'hi) ⟨o, ho, hc, hd⟩ hl' (by simp) fun h' hit hs => ?_
    obtain ⟨o', ho', hc', hd'⟩ := hit
    exact hQ _ h' _ o' (by simp [List.getElem?_eq_getElem hi]) ho' ⟨hc', hd'⟩ hs
  · intro s' Q E hO ha hQ
    obtain ⟨o, ho, hc, hd⟩ := hO
    have hl' : s'.heap.IsList l vs.toArray := ⟨_, ha _ (List.mem_singleton_self _), rfl, n₁, rfl⟩
    exact wpAny_pyNext_list_end hh ⟨o, ho, hc, hd⟩ hl' (by simp) fun h' he => hQ h' _ he
  · intro q hq
    rw [List.mem_singleton.mp hq]
    exact Nat.ne_of_lt hlt
  · intro i v m led oI h tk hi hV hJ hne F N
    exact turn _ i v m led oI h tk hV hJ hne (Nat.ne_of_lt hlt) F N
  · intro m led h tk hJ F N
    exact done _ m led h tk hJ F N
/-- a for over range(n) -/
theorem forC_range {r : Addr} {n : Nat} {t₀ u₀ v₀ : Tok} {m : Str → Option Value} {led : List (Addr × Obj)} (hh : A.handled = none)
    (hx : env.kindOf x = some .local) (hp : (env.scope.kind == .class || (env.scope.kind == .module && env.locals != env.globals)) = false)
    (hr : IsRange s.heap r 0 n 1 t₀ u₀ v₀) (hsmall : Builtin.Range.small 0 n 1 = true) (hn : Builtin.Range.rangeSize 0 n 1 = (n : Int))
    (F : Fr h₀ env.locals s.heap m) (N : News h₀ env.locals s.heap led)
    (J : Addr → Nat → (Str → Option Value) → List (Addr × Obj) → Prop) (start : ∀ I, (∀ q ∈ led, q.1 < I) → J I 0 m led)
    (turn : ∀ I i t m led oI h tk, i < n → J I i m led → (∀ q ∈ led, @Ne Nat q.1 I) → Fr h₀ env.locals h (fun y => if y = x then some (.int i t) else m y) → News h₀ env.locals h ((I, oI) :: led) →
      wpC (model prog w) A (execs body env) (TurnC h₀ env I oI [] (J I (i + 1)) s R) (fun _ _ => False) { s with heap := h, toks := tk })
    (done : ∀ I m led h tk, J I n m led → Fr h₀ env.locals h m → News h₀ env.locals h led → R (.ok .next) { s with heap := h, toks := tk }) :
    wpAny (model prog w) A (pyIter (.ref r)) (fun it s₂ => codeC (model prog w) A (.forLoop (.Name x px) it body [] env) R s₂) (fun _ _ => False) s := by
  refine wpAny_pyIter_range hr hsmall ?_
  refine forC (s := s) (I := s.heap.objs.size) (n := n) (fun i o => o = { cls := .type "range_iterator", data := .fields #[rawInt i, rawInt ((n : Int) - i), rawInt 1] }) (fun i v => ∃ t, v = .int i t) [] hx hp ?_ ?_ (J s.heap.objs.size) (fun _ h => nomatch h) ?_ ?_ n 0 m led (s.heap.push _) s.toks _ (by omega) (by omega) (start _ fun q hq => Heap.lt_size (N q hq).1) (by rw [hn]; simp) (F.push _) (N.push F _) (fun q hq => Nat.ne_of_lt (Heap.lt_size (N q hq).1))
  · intro i s' Q E hi hO ha hQ
    obtain ⟨o, ho, rfl⟩ := hO
    refine wpAny_pyNext_range_item (x := i) (left := (n : Int) - i) (step := 1) ho (by omega) fun h' hit hs => ?_
    refine hQ _ h' _ _ ⟨_, rfl⟩ hit ?_ hs
    rw [show ((n : Int) - ((i + 1 : Nat) : Int)) = (n : Int) - i - 1 by omega, show ((i + 1 : Nat) : Int) = (i : Int) + 1 by omega]
  · intro s' Q E hO ha hQ
    obtain ⟨o, ho, rfl⟩ := hO
    exact wpAny_pyNext_range_end (x := n) (left := (n : Int) - n) (step := 1) hh ho (by omega) fun h' he => hQ h' _ he
  · rintro i v m led oI h tk hi ⟨t, rfl⟩ hJ hne F N
    exact turn _ i t m led oI h tk hi hJ hne F N
  · intro m led h tk hJ F N
    exact done _ m led h tk hJ F N
end

section
variable {prog : Program} {w : World} {A : Around} {E : Value → Shared → Prop} {s : Shared} {env : Env} {h₀ : Heap} {L : Addr} {m : Str → Option Value} {news : List (Addr × Obj)}
theorem ba_K {pos : Pos} {Q : Value → Shared → Prop} (F : Fr h₀ L s.heap m) (N : News h₀ L s.heap news)
    (h : ∀ b h', Fr h₀ L h' m → News h₀ L h' ((b, { cls := .type "bytearray", data := .bytearray #[] 0 }) :: news) → (∀ p ∈ news, p.1 < b) → Q (.ref b) { s with heap := h' }) :
    wpC (model prog w) A (callWith pos (.type "bytearray") [] (backTo pos (starEach [] env)) []) Q E s :=
  callWith_Ct (wpC_call (ba_call_C (h s.heap.objs.size _ (F.push _) (N.push F _) fun p hp => Heap.lt_size (N p hp).1)))
end
end Mine
end
section
open PySem PySem.W PyProof.Rows PySem.Calls
set_option Elab.async false
set_option maxRecDepth 100000
namespace Mine
abbrev excObj (C t : Addr) (dd : Option Addr) : Obj := { cls := .ref C, dict := dd, data := .fields #[.ref t, .none, .none, .none, .bool false, .none] }
abbrev tupObj (vs : List Value) : Obj := { cls := .type "tuple", data := .seq vs.toArray }
section
variable {prog : Program} {w : World} {A : Around} {R : Result → Shared → Prop} {h : Heap} {g : Array GenState} {d : Drawn} {t : Nat} {os : OsState}
variable {nm q : Str} {C N : Addr} {bs bm : List Value} {hdct : Bool} {sn : List Str} {sub : List Value} {ab : Bool} {col : Option Bool} {dd : Option Addr} {k0 k1 k2 k3 k5 : Option Value} {B newId initId : String} {bmB : List Value}
theorem exc_check {M : Model} {E : Value → Shared → Prop} (F : ExcBaseFacts B newId initId bmB) (hcont : (Value.ref C :: bm).contains (.type B) = true) {rest : List Value} {Q : Unit → Shared → Prop} (hC : h.get? C = some (excClassObj nm q C N bs bm hdct sn sub ab col dd k0 k1 k2 k3 k5 newId))
    (hq : Q () ⟨h, g, d, t, os⟩) : wpAny M A (checkBuiltinCall newId ⟨.ref C :: rest, []⟩) Q E ⟨h, g, d, t, os⟩ := by
  have hstar := F.noStar
  simp only [checkBuiltinCall, F.newKind, F.newSplit, F.newRow]
  repeat (first | refine wpAny_loadPart_at hC ?_ | (refine wpAny_isSubtype_exc hC ?_; rw [hcont]) | refine wpAny_staticBase_exc hC ?_ | refine wpAny_madeBy_exc hC ?_ | simp only [bne_self_eq_false, Bool.false_eq_true, if_false] | wp_step)
  exact hq
theorem exc_new (F : ExcBaseFacts B newId initId bmB) (hcB : (Value.ref C :: bm).contains (.type B) = true) (hcA : (Value.ref C :: bm).contains (.type "AttributeError") = false) (hcN : (Value.ref C :: bm).contains (.type "NameError") = false) {rest : List Value}
    (hC : h.get? C = some (excClassObj nm q C N bs bm hdct sn sub ab col dd k0 k1 k2 k3 k5 newId))
    (hq : R (.ok (.ret (.ref (h.objs.size + 1)))) ⟨(h.push (tupObj rest)).push (excObj C h.objs.size none), g, d, t, os⟩) (hrest : rest.length ≤ sizeLine := by size_fits) :
    codeAny (model prog w) A (.builtin newId ⟨.ref C :: rest, []⟩) R ⟨h, g, d, t, os⟩ := by
  have hends := F.ends
  refine codeAny_builtinAt F.entry ?_
  unfold Builtin.«BaseException.__new__»
  refine PySem.wpAt_bind ?_
  show PySem.wpAt _ _ _ (stack >>= _) _ _ _
  refine PySem.wpAt_bind (PySem.wpAt_stack fun p below => PySem.wpAt_of_wpAny ?_)
  wp_walk
  refine PySem.wpAt_of_wpAny ?_
  rw [F.owner]
  repeat (first | with_reducible refine wpAny_madeHere_exc F.canon hC ?_ | with_reducible refine wpAny_loadPart_at hC ?_ | (with_reducible refine wpAny_isSubtype_exc hC ?_; first | rw [hcB] | rw [hcA] | rw [hcN]) | wp_step)
  show R _ _
  rw [Heap.size_push]
  exact hq
theorem make_exc (F : ExcBaseFacts B newId initId bmB) (hcB : (Value.ref C :: bm).contains (.type B) = true) (hcA : (Value.ref C :: bm).contains (.type "AttributeError") = false) (hcN : (Value.ref C :: bm).contains (.type "NameError") = false) {rest : List Value} {init : Value}
    (hC : h.get? C = some (excClassObj nm q C N bs bm hdct sn sub ab col dd k0 k1 k2 k3 k5 newId))
    (call : Looks (model prog w) h (specialOf (.ref C) "__call__") (some (.builtin "type.__call__"))) (typ : Looks (model prog w) h (isInstance (.ref C) (.type "type")) true)
    (hi : Looks (model prog w) h (typeLookup (.ref C) "__init__") (some init)) (hb : ∀ self, Looks (model prog w) h (bindSpecial init self) (init, [self]))
    (hq : codeAny (model prog w) (A.under (.builtin "type.__call__" ⟨.ref C :: rest, []⟩)) (.call init ⟨.ref (h.objs.size + 1) :: rest, []⟩) (InitBack (h.objs.size + 1) R) ⟨(h.push (tupObj rest)).push (excObj C h.objs.size none), g, d, t, os⟩)
    (hrest : rest.length ≤ sizeLine := by size_fits) :
    codeAny (model prog w) A (.call (.ref C) ⟨rest, []⟩) R ⟨h, g, d, t, os⟩ := by
  refine codeAny_of_tree ?_
  show wpAny _ _ (callAny (.ref C) _) _ _ _
  refine nd_load hC ?_
  show wpAny _ _ (callAny.viaDunder (.ref C) _) _ _ _
  unfold callAny.viaDunder
  refine wpAny_bind (call.at ?_)
  dsimp only
  rw [tc_bind]
  refine wpAny_bind (wpAny_pure (wpAny_bind (wpAny_pure ?_)))
  refine wpAny_pure (a := Fin.again (.call (.builtin "type.__call__") ⟨.ref C :: rest, []⟩)) (And.intro rfl ?_)
  refine codeAny_call_builtin_at (Code.quiet_builtin _ (by decide +kernel)) entry_typeCall (check_slot tc_kind tc_split typ (tc_args _ _ _) ?_)
  unfold Builtin.«type.__call__»
  have h1 : (Value.ref C == Value.type "type") = false := rfl
  simp only [h1, Bool.false_eq_true, if_false]
  refine wpAny_bind (wpAny_mroOf_exc hC ?_)
  simp only [List.isEmpty_cons, Bool.false_eq_true, if_false]
  refine wpAny_bind (wpAny_madeBy_exc hC ?_)
  simp only [pure_bind]
  refine wpAny_bind (wpAny_holding (wpAny_call (codeAny_call_builtin_code (Code.quiet_builtin _ F.quiet) (exc_check F hcB hC (exc_new F hcB hcA hcN hC ?_ hrest)))))
  have k : ∀ b o, h.get? b = some o → ((h.push (tupObj rest)).push (excObj C h.objs.size none)).get? b = some o := fun b o e => Heap.get?_push_of_some _ (Heap.get?_push_of_some _ e)
  have hx : ((h.push (tupObj rest)).push (excObj C h.objs.size none)).get? (h.objs.size + 1) = some (excObj C h.objs.size none) := by heap_get
  have t1 : Looks (model prog w) ((h.push (tupObj rest)).push (excObj C h.objs.size none)) (typeOf (.ref (h.objs.size + 1))) (.ref C) := (Looks.ld hx).andThen .now
  have i1 := hi.keeps k
  have b1 := (hb (.ref (h.objs.size + 1))).keeps k
  dsimp only
  unfold isInstance callSpecial? specialOf
  refine wpAny_bind (wpAny_bind (t1.at (wpAny_isSubtype_exc (k _ _ hC) ?_)))
  rw [show (Value.ref C :: bm).contains (.ref C) = true by simp]
  simp only [Bool.not_true, Bool.false_eq_true, if_false]
  refine wpAny_bind (wpAny_holding (wpAny_bind (wpAny_bind (t1.at (i1.at ?_)))))
  dsimp only
  refine wpAny_holding (wpAny_bind (b1.at ?_))
  refine wpAny_bind (wpAny_call ?_)
  refine codeAny_mono hq fun r s' z => ?_
  rcases r with e | (v | _ | _ | _) <;> first | exact z | exact z.elim | skip
  obtain ⟨rfl, z⟩ := z
  exact wpAny_pure (wpAny_pure z)
end
end Mine
end
section
open PySem PySem.W PyProof.Rows PySem.Calls
set_option Elab.async false
set_option maxRecDepth 100000
namespace Mine
theorem bes_refuse (self : Value) : refuseLoop self "__setattr__" [.type "Exception", .type "BaseException", .type "object"] = pure () := by kernel_rfl
section
variable {prog : Program} {w : World} {A : Around} {R : Result → Shared → Prop} {s : Shared} {K : Frag}
variable {nm q : Str} {C D N e t : Addr} {bs : List Value} {sn : List Str} {sub : List Value} {ab : Bool} {col : Option Bool} {dd : Option Addr} {k0 k1 k2 k3 k5 : Option Value} {newId : String} {name : Str} {v : Value} {tk : Tok}
theorem exc_set (X : K.In s.heap) (hC : s.heap.get? C = some (excClassObj nm q C N bs [.ref D, .type "Exception", .type "BaseException", .type "object"] true sn sub ab col dd k0 k1 k2 k3 k5 newId))
    (he : s.heap.get? e = some (excObj C t none)) (hf : findIn K (.ref C) name = some none)
    (h : ∀ h' tk', (∀ b o, b ≠ e → s.heap.get? b = some o → h'.get? b = some o) → (∃ d, h'.get? e = some (excObj C t (some d))) → R (.ok (.ret .none)) { s with heap := h', toks := tk' }) :
    codeAny (model prog w) A (.call (.builtin "object.__setattr__") ⟨[.ref e, .str name tk, v], []⟩) R s := by
  obtain ⟨hh, g, dr, tks, os⟩ := s
  have SF := PySem.F.store_object
  have ty : Looks (model prog w) hh (typeOf (.ref e)) (.ref C) := (Looks.ld he).andThen .now
  have hm : Looks (model prog w) hh (mroOf (.ref C)) [.ref C, .ref D, .type "Exception", .type "BaseException", .type "object"] := ((Looks.ld (part := none) hC).andThen .now).andThen .now
  have sub : Looks (model prog w) hh (isInstance (.ref e) (.type "object")) true := ty.andThen (hm.andThen (Looks.of_pure (by simp)))
  refine codeAny_call_builtin SF.slot.plain SF.entry (@check_slot (model prog w) _ _ ⟨hh, g, dr, tks, os⟩ "object.__setattr__" "object" "__setattr__" (.ref e) [.str name tk, v] [] _ SF.kind SF.split sub (SF.args (.ref e) (.str name tk) v) ?_)
  rw [osa_eq, refuse_eq]
  refine wpAny_bind (wpAny_bind (ty.at (wpAny_bind (hm.at ?_))))
  rw [refuseLoop_ref, refuseLoop_ref, bes_refuse]
  refine wpAny_pure (wpAny_bind (ty.at (wpAny_bind ((looks_findIn X hf).at (wpAny_bind (wpAny_of_eq (a := none) rfl ?_))))))
  refine wpAny_bind (wpAny_of_eq (a := ()) rfl ?_)
  refine wpAny_bind ?_
  show wpAny _ _ (instanceDict e true) _ _ _
  unfold instanceDict
  have hlt := Heap.lt_size he
  have he₁ : (hh.push emptyDict).get? e = some (excObj C t none) := Heap.get?_push_of_some _ he
  have hes : e ≠ hh.objs.size := Nat.ne_of_lt hlt
  refine wpAny_bind (wpAny_loadPart he ?_)
  dsimp only
  refine wpAny_bind (wpAny_bind (wpAny_load hC (wpAny_pure ?_)))
  simp only [Bool.not_true, Bool.false_eq_true, if_false]
  rw [if_neg (by simp [typeHasDict])]
  refine wpAny_bind (wpAny_alloc ?_)
  refine wpAny_bind (wpAny_update he₁ ?_)
  refine wpAny_bind (m := dictMade (.ref C) e hh.objs.size) (wpAny_pure ?_)
  have hgd : ((hh.push emptyDict).update e fun o => { o with dict := some hh.objs.size }).get? hh.objs.size = some emptyDict :=
    (Heap.get?_update_ne _ _ _ _ hes.symm).trans (Heap.get?_push_at rfl rfl)
  have hge : ((hh.push emptyDict).update e fun o => { o with dict := some hh.objs.size }).get? e = some (excObj C t (some hh.objs.size)) := Heap.get?_update_self _ he₁ rfl
  have hnd : ((hh.push emptyDict).update e fun o => { o with dict := some hh.objs.size }).Ns hh.objs.size (fun _ => none) :=
    ⟨_, #[], _, hgd, rfl, fun e he => absurd he (by simp), fun _ => rfl⟩
  refine wpAny_pure (a := some hh.objs.size) ?_
  show wpAny _ _ (Builtin.ObjectAttr.storeInDict hh.objs.size (.str name tk) name v) _ _ _
  unfold Builtin.ObjectAttr.storeInDict Builtin.ObjectAttr.newKeyGuard
  refine wpAny_bind (wpAny_pure (wpAny_bind (wpAny_nsSet1 (Heap.Ns1.of_empty hnd) fun h' hn' hs => ?_)))
  obtain ⟨oD, esD, epD, hoD, hdD, hcD⟩ := hn'.count (Within.cons name v Within.nil)
  refine wpAny_bind (wpAny_lookBehind hoD (by rw [hdD]; exact pastItsLine_dict (Nat.le_trans hcD (by rw [List.length_cons, List.length_nil, sizeLine_eq]; omega))) ?_)
  refine wpAny_pure (h h' _ (fun b o hbe hb => ?_) ⟨hh.objs.size, (hs.2 e hes).trans hge⟩)
  exact (hs.2 b (Nat.ne_of_lt (Heap.lt_size hb))).trans ((Heap.get?_update_ne _ _ _ _ hbe).trans (Heap.get?_push_of_some _ hb))
end
end Mine
end
section
open PySem PySem.W PyProof.Rows PySem.Calls
set_option Elab.async false
set_option maxRecDepth 100000
namespace Mine
/-- the value is an exception of the class C, new and whole -/
def OwnRaise (C : Addr) (oC : Obj) (E : Value → Shared → Prop) (v : Value) (s₁ : Shared) : Prop := ∃ e t dd, v = .ref e ∧ s₁.heap.get? C = some oC ∧ s₁.heap.get? e = some (excObj C t dd) ∧ E (.ref e) s₁
section
variable {M : Model} {A : Around} {E : Value → Shared → Prop} {s : Shared} {env : Env}
variable {nm q : Str} {C N : Addr} {bs bm : List Value} {hdct : Bool} {sn : List Str} {sub : List Value} {ab : Bool} {col : Option Bool} {dd : Option Addr} {k0 k1 k2 k3 k5 : Option Value} {newId : String}
theorem raise_stmt {x : Sem Value} {Q : Flow → Shared → Prop} (hbase : bm.contains (.type "BaseException") = true) (hh : A.handled = none)
    (h : wpAny M A x (OwnRaise C (excClassObj nm q C N bs bm hdct sn sub ab col dd k0 k1 k2 k3 k5 newId) E) E s) :
    wpAny M A (raiseStmt env (some x) none) Q E s := by
  have hcB : (Value.ref C :: bm).contains (.type "BaseException") = true := by rw [List.contains_cons, hbase, Bool.or_true]
  unfold raiseStmt
  refine wpAny_bind (wpAny_mono h (fun v s₁ h₁ => ?_) fun _ _ x => x)
  obtain ⟨e, t, dd', rfl, hC, he, hE⟩ := h₁
  obtain ⟨hp, g, d, tk, os⟩ := s₁
  repeat (first | with_reducible refine wpAny_loadPart_at he ?_ | with_reducible refine wpAny_loadPart_at hC ?_ | (with_reducible refine wpAny_isSubtype_exc hC ?_; rw [hcB]) | wp_step)
  exact wpAny_raiseNew_none hh hE
theorem raise_own {e₀ : PySem.Expr} {pos : Pos} {Q : Flow → Shared → Prop} (hh : A.handled = none) (hbase : bm.contains (.type "BaseException") = true)
    (h : wpAny M A (eval e₀ env) (OwnRaise C (excClassObj nm q C N bs bm hdct sn sub ab col dd k0 k1 k2 k3 k5 newId) E) E s) :
    wpAny M A (exec (.Raise (some e₀) none pos) env) Q E s := by
  show wpAny M A (do standAt pos; raiseStmt env (some (do let v ← eval e₀ env; standAt pos; pure v)) none) Q E s
  refine wpAny_bind (wpAny_standAt (raise_stmt hbase hh (wpAny_bind (wpAny_mono h (fun v s₁ h₁ => wpAny_bind (wpAny_standAt (wpAny_pure h₁))) fun _ _ x => x))))
end
end Mine
end
section
open PySem PySem.W PyProof.Rows PySem.Calls
set_option Elab.async false
set_option maxRecDepth 100000
namespace Mine
/-- an exception made since h, its dict made or not -/
structure MadeD (h h' : Heap) (e C : Addr) (args : List Value) : Prop where
  keeps : ∀ b o, h.get? b = some o → h'.get? b = some o
  new : h.get? e = none
  there : ∃ t dd, h'.get? e = some (excObj C t dd) ∧ h.get? t = none ∧ h'.get? t = some (tupObj args)
section
variable {M : Model} {A : Around} {E : Value → Shared → Prop} {s s' : Shared} {g h : Heap} {outer : List Env} {L a e C : Addr} {m : Str → Option Value} {name : Str} {scope : Scope} {cd : Value} {Q : Unit → Shared → Prop} {news : List (Addr × Obj)}
theorem leaves_made {base : Heap} {env : Env} {args : List Value} 
    (hfr : A.frames = some (env :: outer)) (hf : env.frame = some L) (hkb : base.StaysIn h) (hl : h.FunFrames base (env :: outer)) (hx : MadeD h s.heap e C args)
    (hQ : ∀ h' t, Heap.FlyingW base outer e (.ref C) (.ref t) h' → h'.TupAt t args → base.get? t = none → s.heap.UpToSlots h' → Q () { s with heap := h' }) : wpAny M A (leaving env (.ref e)) Q E s := by
  obtain ⟨t, dd, he, htn, ht⟩ := hx.there
  have fresh : ∀ b, h.get? b = none → base.get? b = none := fun b hb => by
    cases hq : base.get? b with
    | none => rfl
    | some o' => have := hkb b o' hq; rw [hb] at this; cases this
  refine wpAny_leaving_firstW (a0 := .ref t) hfr (hl.of_keeps fun b o hb _ => ⟨o, hx.keeps b o hb, rfl⟩) hf he (fun b o hb => hx.keeps b o (hkb b o hb)) (fresh e hx.new) rfl rfl rfl fun h' hL => ?_
  obtain ⟨k1, ⟨_, _, k2⟩, k3, k4⟩ := hL
  exact hQ h' t ⟨k1, fresh e hx.new, k2, k3⟩ (Heap.TupAt.of_slots ⟨_, _, ht, rfl, rfl⟩ k4) (fresh t htn) k4
theorem leave_raiseD {base : Heap} {vs : List Value} (K : Below A base outer g) (hx : MadeD h s'.heap e C vs) (F : Fr g L h m) (N : News g L h news)
    (hQ : ∀ h' t, RaisedK base outer e (.ref C) t vs news h' → g.UpToSlots h' → Q () { s' with heap := h' }) (hk : scope.kind = .function := by rfl) :
    wpAny M (A.deeper (envOf name scope L a cd)) (leaving (envOf name scope L a cd) (.ref e)) Q E s' := by
  have K' := K.push (name := name) (a := a) (cd := cd) F hk
  have hin : ∀ env ∈ (envOf name scope L a cd :: outer), ∀ b, env.frame = some b → b ∈ (envOf name scope L a cd :: outer).filterMap (·.frame) := fun env he b hb => List.mem_filterMap.mpr ⟨env, he, hb⟩
  have st : base.StaysIn (hideAll h ((envOf name scope L a cd :: outer).filterMap (·.frame))) := fun b o q => hideAll_get _ (K'.stays b o q) fun hm => by
    rw [(K'.frames.mem hm).1] at q; cases q
  have hl : ∀ q ∈ news, (hideAll h ((envOf name scope L a cd :: outer).filterMap (·.frame))).get? q.1 = some q.2 ∧ base.get? q.1 = none := fun q hq => by
    refine ⟨hideAll_get _ (N q hq).1 fun hm => ?_, fresh_of_stays K.stays (N q hq).2.2⟩
    obtain ⟨env, he, hf⟩ := List.mem_filterMap.mp hm
    rcases List.mem_cons.mp he with rfl | he
    · exact (N q hq).2.1 (Option.some.inj hf).symm
    · obtain ⟨o, ho, _⟩ := (K.frames.mem (List.mem_filterMap.mpr ⟨env, he, hf⟩)).2
      rw [(N q hq).2.2] at ho; cases ho
  exact leaves_made K'.stack rfl (fun b o q => of_hideAll _ q) (funFrames_hide K'.frames hin) hx fun h' t x1 x2 x3 x4 =>
    hQ h' t ⟨⟨_, st, hl, x1, x3⟩, x2⟩ (((Heap.UpToSlots.of_keeps F.keep).trans (Heap.UpToSlots.of_keeps hx.keeps)).trans x4)
end
end Mine
end
section
open PySem PySem.W PyProof.Rows PySem.Calls
set_option Elab.async false
set_option maxRecDepth 100000
namespace Mine
section
variable {prog : Program} {w : World} {A₀ : Around} {E : Value → Shared → Prop} {s' : Shared} {h₀ h : Heap} {outer : List Env} {L a e t : Addr} {m : Str → Option Value} {name : Str} {scope : Scope} {cd : Value}
  {vs : List Value} {b₀ : Stmt} {suite : List Stmt} {pos np : Pos} {rest : List ExceptHandler} {Q : Flow → Shared → Prop} {news : List (Addr × Obj)} {KF : Frag}
  {p : Program} {loose : List Str} {mg mb : Str → Option Value} {x : Str}
  {nm q : Str} {C N : Addr} {bs bm : List Value} {hdct : Bool} {sn : List Str} {sub : List Value} {ab : Bool} {col : Option Bool} {dd : Option Addr} {k0 k1 k2 k3 k5 : Option Value} {newId : String}
theorem caught_D (K : A₀.frames = some outer) (F : Fr h₀ L h m) (hsm : h.UpToSlots s'.heap) (R : RaisedK h₀ (envOf name scope L a cd :: outer) e (.ref C) t vs news s'.heap)
    (X : KF.In h₀) (T : TopRead p loose mg mb h₀) (ex : nsIn KF mainGlobals x = some (some (.ref C))) (hC₀ : KF.lookup C = some (excClassObj nm q C N bs bm hdct sn sub ab col dd k0 k1 k2 k3 k5 newId)) (hbase : bm.contains (.type "BaseException") = true)
    (k : ∀ h' news₂, Fr h₀ L h' m → News h₀ L h' news₂ → Got news₂ e t (.ref C) vs → News h₀ L h' news → h.UpToSlots h' →
      wpAny (model prog w) ((A₀.deeper (envOf name scope L a cd)).mark (some (.ref e))) (execs (b₀ :: suite) (envOf name scope L a cd)) Q E { s' with heap := h' })
    (hk : scope.kind = .function := by rfl) (hx : (envOf name scope L a cd).kindOf x = some .globalImplicit := by rfl) (hd : (x == ("__debug__" : Str)) = false := by decide)
    (hE : PassesOwnAt (model prog w) ((A₀.deeper (envOf name scope L a cd)).mark (some (.ref e))) (A₀.deeper (envOf name scope L a cd)) (envOf name scope L a cd) E := by passes_own) :
    wpAny (model prog w) (A₀.deeper (envOf name scope L a cd)) (noteFrame (.ref e) (envOf name scope L a cd))
      (fun _ s₂ => wpAny (model prog w) (A₀.deeper (envOf name scope L a cd)) (setFlight (.ref e) none) (fun _ s₃ =>
        wpAny (model prog w) (A₀.deeper (envOf name scope L a cd)) (handleBy (.ref e) (envOf name scope L a cd) (.ExceptHandler (some (.Name x np)) none (b₀ :: suite) pos :: rest)) Q E s₃) E s₂) E s' := by
  obtain ⟨⟨B, hB, hl, hfl, hnew⟩, htup⟩ := R
  have hL : B.get? L = none := by
    obtain ⟨_, ⟨L', _, hf, hn', _⟩, _⟩ := hfl.2.2.1
    obtain rfl : L = L' := Option.some.inj hf
    exact hn'
  refine wpAny_looks_onW (Around.frames_deeper K) rfl hfl fun h₄ hheld₄ hsm₄ => ?_
  refine wpAny_landsW hheld₄ fun h₅ hheld hsm₅' => ?_
  have hsm₅ := hsm₄.trans hsm₅'
  have hheld' := flyingW_base hB hheld
  have F₅ := F.of_stays hheld'.1 (hsm.trans hsm₅)
  obtain ⟨ob, hob, hobc⟩ := hheld'.there
  refine wpAny_handleBy_cons (codeAny_handlers_test (name_K F₅ X T ex ?_ hk hx hd)) (by intro q; cases q)
  have hC := F₅.keep _ _ (X _ _ hC₀)
  refine wpAny_excMatches_sub_self hC hob hobc hbase (codeAny_handlers_suite ?_)
  refine lands_againW hheld fun h₆ hfl₆ hsm₆ => ?_
  have hfl₆' := flyingW_base hB hfl₆
  have F₆ := F.of_stays hfl₆'.1 ((hsm.trans hsm₅).trans hsm₆)
  obtain ⟨oe, ws, hoe, hoec, hoed, hoe0⟩ := hfl₆'.first
  obtain ⟨ot, nt, hot, hotc, hotd⟩ := (htup.of_slots hsm₅).of_slots hsm₆
  have N₆ := News.more F₆ (News.more F₆ News.nil hot (fun es n q => by rw [hotd] at q; cases q) (fresh_of_stays hB hnew)) hoe (fun es n q => by rw [hoed] at q; cases q) hfl₆'.2.1
  exact wpAny_passesOwnAt hE (k h₆ _ F₆ N₆ ⟨oe, ot, ws, nt, .head _, .tail _ (.head _), hoec, hoed, hoe0, hotc, hotd⟩ (fun q hq => ⟨hfl₆.1 _ _ (hl q hq).1, (fun z => by have := (hl q hq).1; rw [z, hL] at this; cases this), (hl q hq).2⟩) ((hsm.trans hsm₅).trans hsm₆))
end
end Mine
end
section
open PySem PySem.W PyProof.Rows PySem.Calls
set_option Elab.async false
set_option maxRecDepth 100000
namespace Mine
section
variable {prog : Program} {w : World} {A : Around} {E : Value → Shared → Prop} {s : Shared} {K : Frag} {h₀ : Heap} {L : Addr} {m : Str → Option Value} {news rest : List (Addr × Obj)}
variable {nm q : Str} {C N : Addr} {bs bm : List Value} {hdct : Bool} {sn : List Str} {sub : List Value} {ab : Bool} {col : Option Bool} {dd : Option Addr} {k0 k1 k2 k3 k5 : Option Value} {B newId initId : String} {bmB : List Value}
theorem call_excK {Q : Value → Shared → Prop} {pos : List Value} {fI : Addr} (F : Fr h₀ L s.heap m) (X₀ : K.In h₀) (N' : News h₀ L s.heap news) (hC : K.lookup C = some (excClassObj nm q C N bs bm hdct sn sub ab col dd k0 k1 k2 k3 k5 newId)) (FB : ExcBaseFacts B newId initId bmB)
    (hcB : (Value.ref C :: bm).contains (.type B) = true) (hcA : (Value.ref C :: bm).contains (.type "AttributeError") = false) (hcN : (Value.ref C :: bm).contains (.type "NameError") = false)
    (hcall : specialIn K (.ref C) "__call__" = some (some (.builtin "type.__call__"))) (htyp : instIn K (.ref C) (.type "type") = some true) (hi : findIn K (.ref C) "__init__" = some (some (.ref fI))) (hf : isFn K (.ref fI) = true)
    (h : ∀ e t h', Fr h₀ L h' m → News h₀ L h' ((e, excObj C t none) :: (t, tupObj pos) :: news) → (∀ p ∈ news, p.1 < t) → t < e →
      codeAny (model prog w) (A.under (.builtin "type.__call__" ⟨.ref C :: pos, []⟩)) (.call (.ref fI) ⟨.ref e :: pos, []⟩) (InitBack e fun r s' => match r with | .ok (.ret v) => Q v s' | .ok _ => False | .error e => E e s') { s with heap := h' })
    (hz : pos.length ≤ sizeLine := by size_fits) :
    wpAny (model prog w) A (call (.ref C) pos []) Q E s := by
  obtain ⟨hh, g, d, t, os⟩ := s
  have X := X₀.keeps F.keep
  refine wpAny_call (make_exc FB hcB hcA hcN (X _ _ hC) (looks_specialIn X hcall) (looks_instIn X htyp) (looks_findIn X hi) (fun self => bind_fn X self (beq_iff_eq.mp hf)) (h _ hh.objs.size _ ((F.push _).push _) ?_ (fun p hp => Heap.lt_size (N' p hp).1) (Nat.lt_succ_self _)) hz)
  have := (N'.push F (tupObj pos)).push (F.push _) (excObj C hh.objs.size none)
  rwa [Heap.size_push] at this
theorem setAttr_excK {D e t : Addr} {name : Str} {v : Value} {Q : Unit → Shared → Prop} (F : Fr h₀ L s.heap m) (X₀ : K.In h₀) (N' : News h₀ L s.heap ((e, excObj C t none) :: rest)) (hne : ∀ p ∈ rest, p.1 ≠ e)
    (hC : K.lookup C = some (excClassObj nm q C N bs [.ref D, .type "Exception", .type "BaseException", .type "object"] true sn sub ab col dd k0 k1 k2 k3 k5 newId)) (hf : findIn K (.ref C) name = some none)
    (hs : findIn K (.ref C) "__setattr__" = some (some (.builtin "object.__setattr__")))
    (h : ∀ h' tk' d, Fr h₀ L h' m → News h₀ L h' ((e, excObj C t (some d)) :: rest) → Q () { s with heap := h', toks := tk' }) :
    wpAny (model prog w) A (setAttr (.ref e) name v) Q E s := by
  have he := (N' _ (.head _))
  have X := X₀.keeps F.keep
  obtain ⟨hh, g, dr, tks, os⟩ := s
  unfold setAttr callSpecial? specialOf
  refine wpAny_bind ?_
  refine wpAny_mkText ?_
  have ty : Looks (model prog w) hh (typeOf (.ref e)) (.ref C) := (Looks.ld he.1).andThen .now
  refine wpAny_bind (wpAny_bind (wpAny_bind (ty.at ((looks_findIn X hs).at ?_))))
  dsimp only
  refine wpAny_holding (wpAny_bind (wpAny_of_eq (PySem.F.store_object.slot.bind _) (wpAny_bind (wpAny_call ?_))))
  refine exc_set (s := ⟨hh, g, dr, tks + 1, os⟩) X (X _ _ hC) he.1 hf fun h' tk' hk hd => ?_
  obtain ⟨d, hd⟩ := hd
  have old : ∀ b o, h₀.get? b = some o → b ≠ e := fun b o eb q => by rw [q, he.2.2] at eb; cases eb
  refine wpAny_pure (wpAny_pure (h h' tk' d ⟨F.ns.at' fun o eo => hk _ _ (fun z => he.2.1 z.symm) eo, fun b o eb => hk _ _ (old b o eb) (F.keep _ _ eb), F.above⟩ fun p hp => ?_))
  rcases List.mem_cons.mp hp with rfl | hp
  · exact ⟨hd, he.2⟩
  · exact ⟨hk _ _ (hne p hp) (N' p (.tail _ hp)).1, (N' p (.tail _ hp)).2⟩
end
section
variable {M : Model} {A : Around} {E : Value → Shared → Prop} {s' : Shared} {g : Heap} {outer : List Env} {L a e C t : Addr} {m : Str → Option Value} {name : Str} {scope : Scope} {cd : Value} {Q : Unit → Shared → Prop} {news : List (Addr × Obj)}
theorem leave_raiseL {base : Heap} {vs : List Value} {dd : Option Addr} (K : Below A base outer g) (F : Fr g L s'.heap m) (N : News g L s'.heap ((e, excObj C t dd) :: (t, tupObj vs) :: news)) (h1 : ∀ q ∈ news, q.1 ≠ e) (h2 : ∀ q ∈ news, q.1 ≠ t)
    (hQ : ∀ h' t, RaisedK base outer e (.ref C) t vs news h' → g.UpToSlots h' → Q () { s' with heap := h' }) (hk : scope.kind = .function := by rfl) :
    wpAny M (A.deeper (envOf name scope L a cd)) (leaving (envOf name scope L a cd) (.ref e)) Q E s' := by
  have Ne := N _ (.head _)
  have Nt := N _ (.tail _ (.head _))
  refine leave_raiseD (h := hideAll s'.heap [e, t]) K ⟨fun b o q => of_hideAll _ q, hideAll_none _ (.head _), t, dd, Ne.1, hideAll_none _ (.tail _ (.head _)), Nt.1⟩ ⟨F.ns.at' fun o eo => hideAll_get _ eo ?_, fun b o eb => hideAll_get _ (F.keep b o eb) ?_, F.above⟩ (fun q hq => ⟨hideAll_get _ (N q (.tail _ (.tail _ hq))).1 ?_, (N q (.tail _ (.tail _ hq))).2⟩) hQ hk
  · intro hm
    rcases List.mem_cons.mp hm with z | hm
    · exact Ne.2.1 z.symm
    · exact Nt.2.1 (List.mem_singleton.mp hm).symm
  · intro hm
    rcases List.mem_cons.mp hm with z | hm
    · have := Ne.2.2; rw [← z, eb] at this; cases this
    · have := Nt.2.2; rw [← List.mem_singleton.mp hm, eb] at this; cases this
  · intro hm
    rcases List.mem_cons.mp hm with z | hm
    · exact h1 q hq z
    · exact h2 q hq (List.mem_singleton.mp hm)
end
section
variable {M : Model} {A : Around} {E : Value → Shared → Prop} {s : Shared} {env : Env} {K : Frag}
variable {nm q : Str} {N : Addr} {bs bm : List Value} {hdct : Bool} {sn : List Str} {sub : List Value} {ab : Bool} {col : Option Bool} {dd : Option Addr} {k0 k1 k2 k3 k5 : Option Value} {newId : String}
theorem raise_ownK {h₀ : Heap} (C : Addr) (_X : K.In h₀) {e₀ : PySem.Expr} {pos : Pos} {Q : Flow → Shared → Prop} (hC : K.lookup C = some (excClassObj nm q C N bs bm hdct sn sub ab col dd k0 k1 k2 k3 k5 newId)) (hbase : bm.contains (.type "BaseException") = true) (hh : A.handled = none)
    (h : wpAny M A (eval e₀ env) (OwnRaise C (excClassObj nm q C N bs bm hdct sn sub ab col dd k0 k1 k2 k3 k5 newId) E) E s) :
    wpAny M A (exec (.Raise (some e₀) none pos) env) Q E s := raise_own hh hbase h
end
theorem ownRaise_K {K : Frag} {h₀ : Heap} {L : Addr} {m : Str → Option Value} {news : List (Addr × Obj)} {C e t : Addr} {dd : Option Addr} {oC : Obj} {E : Value → Shared → Prop} {s : Shared} (F : Fr h₀ L s.heap m) (X₀ : K.In h₀) (N : News h₀ L s.heap news) (hm : (e, excObj C t dd) ∈ news) (hC : K.lookup C = some oC) (h : E (.ref e) s) :
    OwnRaise C oC E (.ref e) s := ⟨e, t, dd, rfl, F.keep _ _ (X₀ _ _ hC), (N _ hm).1, h⟩
end Mine
end
section
open PySem PySem.W PyProof.Rows PySem.Calls
set_option Elab.async false
set_option maxRecDepth 100000
namespace Mine
abbrev frs (l : List Env) : List Addr := l.filterMap (·.frame)
theorem below_hide {A : Around} {base g : Heap} {l : List Env} (B : Below A base l g) : Below A (hideAll g (frs l)) l g :=
  ⟨B.stack, fun _ _ q => of_hideAll _ q, funFrames_hide B.frames fun env he b hb => List.mem_filterMap.mpr ⟨env, he, hb⟩⟩
/-- a call that may leave the frames' locals with other slots: everything else stands -/
def ConR (lv : Nat) (w : World) (f : Addr) (pre : List (Addr × Obj)) (args : Args) (V : Value → Prop) : Prop :=
  ∀ (view : Program) (loose : List Str) (mean : ExcName → Option Value) (mg mb : Str → Option Value) (dp un : Nat) (gd : Option (List Code)) (cn : Str) (cs : Scope) (ca : Addr) (ccd : Value) (cl : List (Str × Addr)) (outer : List Env)
    (A₀ : Around) (base h₀ : Heap) (L : Addr) (m : Str → Option Value) (s : Shared) (R : Result → Shared → Prop),
    Below A₀ base outer h₀ → Fr h₀ L s.heap m → (Kf w).In base → News h₀ L s.heap pre → Top view loose mean mg mb base → cs.kind = .function → dp + 8 * lv < recursionLimit → un + 60 * lv < cLine →
    (∀ v h' tk', V v → (∀ b o, s.heap.get? b = some o → b ∉ L :: frs outer → h'.get? b = some o) → s.heap.UpToSlots h' → R (.ok (.ret v)) { s with heap := h', toks := tk' }) →
    codeAny (model P0 w) (ktrTop dp un gd cn cs L ca ccd cl outer) (.call (.ref f) args) R s
theorem stays_hide {A : Around} {base g : Heap} {l : List Env} (B : Below A base l g) : base.StaysIn (hideAll g (frs l)) := fun b o q => hideAll_get _ (B.stays b o q) fun hm => by
  rw [(B.frames.mem hm).1] at q; cases q
section
variable {w : World} {A A₀ : Around} {s : Shared} {L : Addr} {h₀ base : Heap} {m mg mb : Str → Option Value} {pre : List (Addr × Obj)} {p : Program} {loose : List Str} {mean : ExcName → Option Value} {outer : List Env}
theorem code_frameR {prog : Program} {K : Frag} {env : Env} {R : Result → Shared → Prop} {name qual : Str} {params : Arguments} {body : List Stmt} {scope : Scope} {dV kV doc pm cdv ct oc : Value} {an od : Option Addr} {osl : Array (Option Value)} {f : Addr} {args : Args} {binds : List (Str × Value)}
    (B : Below A₀ base outer h₀) (F : Fr h₀ L s.heap m) (X₀ : K.In base) (N : News h₀ L s.heap pre) (T : Top p loose mean mg mb base) (hA : A.frames = some (env :: outer)) (hf : env.frame = some L) (hke : env.scope.kind = .function)
    (ho : K.lookup f = some ⟨oc, od, .func (fnOf name qual params body scope dV kV doc pm an cdv ct), osl⟩) (hcd : codeIn K cdv qual = true) (hroom : A.depth < recursionLimit)
    (hbind : BindsTo s (fnOf name qual params body scope dV kV doc pm an cdv ct) args binds) (hloc : ∀ y ∈ binds, scope.names.lookup y.1 = some .local)
    (h : ∀ g b₂ L' h₁, Fr g L' h₁ (fun y => binds.reverse.lookup y) → News g L' h₁ pre → Below A b₂ (env :: outer) g → K.In g → Top p loose mean mg mb g → (∀ l x mm, Fr g l x mm → Fr b₂ l x mm) → K.In b₂ → Top p loose mean mg mb b₂ → (∀ b o, s.heap.get? b = some o → b ∉ pre.map (·.1) → g.get? b = some o) →
      (∀ b o, s.heap.get? b = some o → b ∉ pre.map (·.1) → b ∉ L :: frs outer → b₂.get? b = some o) →
      wpAny (model prog w) (A.deeper (envOf qual scope L' f cdv)) (execs body (envOf qual scope L' f cdv))
        (fun fl s' => R (.ok (.ret (match fl with | .ret v => v | _ => .none))) s')
        (fun e s' => wpAny (model prog w) (A.deeper (envOf qual scope L' f cdv)) (leaving (envOf qual scope L' f cdv) e) (fun _ s'' => R (.error e) s'') (fun e' s'' => R (.error e') s'') s')
        { s with heap := h₁, toks := s.toks + binds.length })
    (hco : scope.isCoroutine = false) (hgen : scope.isGenerator = false) (hk : scope.kind = .function)
    (hcell : ∀ x ∈ scope.names, x.2 ≠ .cell) : codeAny (model prog w) A (.call (.ref f) args) R s := by
  obtain ⟨FG, BG, st, lv⟩ := groundX (R := R) B F N hA hf hke
  have hb : base.StaysIn s.heap := fun b o e => F.keep b o (B.stays b o e)
  have s2 := stays_hide BG
  refine codeAny_call_def (fd := fnOf name qual params body scope dV kV doc pm an cdv ct) (body := body) (binds := binds) hroom ((X₀.keeps hb) _ _ ho) rfl (T.nolimit.keeps hb) (codeRec_of (X₀.keeps hb) hcd) rfl hbind hcell hloc (fun h₁ hns hk₁ => ?_) hco hgen hk
  refine h _ _ s.heap.objs.size h₁ ⟨hns, fun b o e => hk₁ b o (of_hideAll _ e), Nat.le_of_eq (hideAll_size _ _)⟩
    (fun q hq => ⟨hk₁ _ _ (N q hq).1, Nat.ne_of_lt (Heap.lt_size (N q hq).1), hideAll_none _ (List.mem_map_of_mem hq)⟩) (below_hide BG) (X₀.keeps BG.stays) (T.keeps BG.stays) (fun l x mm q => ⟨q.ns, fun b o e => q.keep b o (of_hideAll _ e), by rw [hideAll_size]; exact q.above⟩) (X₀.keeps s2) (T.keeps s2) (fun b o e n => hideAll_get _ e n)
    (fun b o e n1 n2 => hideAll_get _ (hideAll_get _ e n1) fun hm => n2 ?_)
  obtain ⟨env', he, hfe⟩ := List.mem_filterMap.mp hm
  rcases List.mem_cons.mp he with rfl | he
  · rw [hf] at hfe; cases hfe; exact .head _
  · exact .tail _ (List.mem_filterMap.mpr ⟨env', he, hfe⟩)
theorem end_R {g b₂ h' : Heap} {L' : Addr} {m' : Str → Option Value} (N : News h₀ L s.heap pre) (kg : ∀ b o, s.heap.get? b = some o → b ∉ pre.map (·.1) → g.get? b = some o) (kb : ∀ b o, s.heap.get? b = some o → b ∉ pre.map (·.1) → b ∉ L :: frs outer → b₂.get? b = some o)
    (Fb : Fr b₂ L' h' m') (Nb : News b₂ L' h' pre) (U : g.UpToSlots h') : (∀ b o, s.heap.get? b = some o → b ∉ L :: frs outer → h'.get? b = some o) ∧ s.heap.UpToSlots h' := by
  have hp : ∀ b o, s.heap.get? b = some o → b ∈ pre.map (·.1) → h'.get? b = some o := fun b o e hm => by
    obtain ⟨q, hq, rfl⟩ := List.mem_map.mp hm
    rw [(N q hq).1] at e
    cases e
    exact (Nb q hq).1
  refine ⟨fun b o e n => ?_, fun b o e nf => ?_⟩
  · by_cases hm : b ∈ pre.map (·.1)
    · exact hp b o e hm
    · exact Fb.keep b o (kb b o e hm n)
  · by_cases hm : b ∈ pre.map (·.1)
    · exact ⟨o.slots, hp b o e hm⟩
    · exact U b o (kg b o e hm) nf
end
section
variable {prog : Program} {w : World} {A₀ : Around} {E : Value → Shared → Prop} {s' : Shared} {b₂ g h : Heap} {outer : List Env} {L a e t : Addr} {m : Str → Option Value} {name : Str} {scope : Scope} {cd : Value}
  {vs : List Value} {b₀ : Stmt} {suite : List Stmt} {pos np : Pos} {rest : List ExceptHandler} {Q : Flow → Shared → Prop} {news : List (Addr × Obj)} {KF : Frag}
  {p : Program} {loose : List Str} {mg mb : Str → Option Value} {x : Str}
  {nm q : Str} {C N : Addr} {bs bm : List Value} {hdct : Bool} {sn : List Str} {sub : List Value} {ab : Bool} {col : Option Bool} {dd : Option Addr} {k0 k1 k2 k3 k5 : Option Value} {newId : String}
theorem caught_R (K : Below A₀ b₂ outer g) (lo : ∀ l x mm, Fr g l x mm → Fr b₂ l x mm) (F : Fr g L h m) (hsm : h.UpToSlots s'.heap) (R : RaisedK b₂ (envOf name scope L a cd :: outer) e (.ref C) t vs news s'.heap)
    (X : KF.In b₂) (T : TopRead p loose mg mb b₂) (ex : nsIn KF mainGlobals x = some (some (.ref C))) (hC₀ : KF.lookup C = some (excClassObj nm q C N bs bm hdct sn sub ab col dd k0 k1 k2 k3 k5 newId)) (hbase : bm.contains (.type "BaseException") = true)
    (k : ∀ h' news₂, Fr b₂ L h' m → News b₂ L h' news₂ → Got news₂ e t (.ref C) vs → News b₂ L h' news → g.UpToSlots h' →
      wpAny (model prog w) ((A₀.deeper (envOf name scope L a cd)).mark (some (.ref e))) (execs (b₀ :: suite) (envOf name scope L a cd)) Q E { s' with heap := h' })
    (hk : scope.kind = .function := by rfl) (hx : (envOf name scope L a cd).kindOf x = some .globalImplicit := by rfl) (hd : (x == ("__debug__" : Str)) = false := by decide)
    (hE : PassesOwnAt (model prog w) ((A₀.deeper (envOf name scope L a cd)).mark (some (.ref e))) (A₀.deeper (envOf name scope L a cd)) (envOf name scope L a cd) E := by passes_own) :
    wpAny (model prog w) (A₀.deeper (envOf name scope L a cd)) (noteFrame (.ref e) (envOf name scope L a cd))
      (fun _ s₂ => wpAny (model prog w) (A₀.deeper (envOf name scope L a cd)) (setFlight (.ref e) none) (fun _ s₃ =>
        wpAny (model prog w) (A₀.deeper (envOf name scope L a cd)) (handleBy (.ref e) (envOf name scope L a cd) (.ExceptHandler (some (.Name x np)) none (b₀ :: suite) pos :: rest)) Q E s₃) E s₂) E s' :=
  caught_D K.stack (lo _ _ _ F) hsm R X T ex hC₀ hbase (fun h' n₂ F' N₂ G' N' U => k h' n₂ F' N₂ G' N' ((Heap.UpToSlots.of_keeps F.keep).trans U)) hk hx hd hE
end
end Mine
end
section
open PySem PySem.W PyProof.Rows PySem.Calls
set_option Elab.async false
set_option maxRecDepth 100000
namespace Mine
def cutTo (h : Heap) (n : Nat) : Heap := { h with objs := h.objs.extract 0 n }
theorem cut_get {h : Heap} {n b : Nat} {o : Obj} (e : h.get? b = some o) (lt : b < n) : (cutTo h n).get? b = some o := by
  rw [Heap.get?_some_iff] at *
  refine ⟨?_, e.2⟩
  have := e.1
  show (h.objs.extract 0 n)[b]? = some o
  rw [Array.getElem?_extract]
  have hb := (Array.getElem?_eq_some_iff.mp this).1
  simpa [lt] using ⟨by omega, this⟩
theorem of_cut {h : Heap} {n b : Nat} {o : Obj} (e : (cutTo h n).get? b = some o) : h.get? b = some o := by
  rw [Heap.get?_some_iff] at *
  refine ⟨?_, e.2⟩
  have h1 : (h.objs.extract 0 n)[b]? = some o := e.1
  rw [Array.getElem?_extract] at h1
  split at h1
  · simpa using h1
  · cases h1
theorem cut_size (h : Heap) (n : Nat) : (cutTo h n).objs.size ≤ n := by
  show (h.objs.extract 0 n).size ≤ n
  rw [Array.size_extract]
  omega
/-- as ConR, on a clean stack -/
def ConRC (lv : Nat) (w : World) (f : Addr) (pre : List (Addr × Obj)) (args : Args) (V : Value → Prop) : Prop :=
  ∀ (view : Program) (loose : List Str) (mean : ExcName → Option Value) (mg mb : Str → Option Value) (dp un : Nat) (gd : Option (List Code)) (cn : Str) (cs : Scope) (ca : Addr) (ccd : Value) (cl : List (Str × Addr)) (outer : List Env)
    (A₀ : Around) (base h₀ : Heap) (L : Addr) (m : Str → Option Value) (s : Shared) (R : Result → Shared → Prop),
    Below A₀ base outer h₀ → Fr h₀ L s.heap m → (Kf w).In base → News h₀ L s.heap pre → Top view loose mean mg mb base → cs.kind = .function → dp + 8 * lv < recursionLimit → un + 60 * lv < cLine →
    (∀ v h' tk', V v → (∀ b o, s.heap.get? b = some o → b ∉ L :: frs outer → h'.get? b = some o) → s.heap.UpToSlots h' → R (.ok (.ret v)) { s with heap := h', toks := tk' }) →
    codeC (model P0 w) (ktrTop dp un gd cn cs L ca ccd cl outer) (.call (.ref f) args) R s
section
variable {w : World} {A A₀ : Around} {s : Shared} {L : Addr} {h₀ base : Heap} {m mg mb : Str → Option Value} {pre news : List (Addr × Obj)} {p : Program} {loose : List Str} {mean : ExcName → Option Value} {outer : List Env}
theorem codeC_frameR {prog : Program} {K : Frag} {env : Env} {R : Result → Shared → Prop} {name qual : Str} {params : Arguments} {body : List Stmt} {scope : Scope} {dV kV doc pm cdv ct oc : Value} {an od : Option Addr} {osl : Array (Option Value)} {f : Addr} {args : Args} {binds : List (Str × Value)}
    (B : Below A₀ base outer h₀) (F : Fr h₀ L s.heap m) (X₀ : K.In base) (N : News h₀ L s.heap pre) (T : Top p loose mean mg mb base) (hA : A.frames = some (env :: outer)) (hf : env.frame = some L) (hke : env.scope.kind = .function)
    (ho : K.lookup f = some ⟨oc, od, .func (fnOf name qual params body scope dV kV doc pm an cdv ct), osl⟩) (hcd : codeIn K cdv qual = true) (hroom : A.depth < recursionLimit)
    (hbind : BindsTo s (fnOf name qual params body scope dV kV doc pm an cdv ct) args binds) (hloc : ∀ y ∈ binds, scope.names.lookup y.1 = some .local)
    (h : ∀ g b₂ L' h₁, Fr g L' h₁ (fun y => binds.reverse.lookup y) → News g L' h₁ pre → Below A b₂ (env :: outer) g → K.In g → Top p loose mean mg mb g → (∀ l x mm, Fr g l x mm → Fr b₂ l x mm) → K.In b₂ → Top p loose mean mg mb b₂ → (∀ b o, s.heap.get? b = some o → b ∉ pre.map (·.1) → g.get? b = some o) →
      (∀ b o, s.heap.get? b = some o → b ∉ pre.map (·.1) → b ∉ L :: frs outer → b₂.get? b = some o) →
      wpC (model prog w) (A.deeper (envOf qual scope L' f cdv)) (execs body (envOf qual scope L' f cdv))
        (fun fl s' => R (.ok (.ret (match fl with | .ret v => v | _ => .none))) s')
        (fun _ _ => False)
        { s with heap := h₁, toks := s.toks + binds.length })
    (hco : scope.isCoroutine = false) (hgen : scope.isGenerator = false) (hk : scope.kind = .function)
    (hcell : ∀ x ∈ scope.names, x.2 ≠ .cell) : codeC (model prog w) A (.call (.ref f) args) R s := by
  obtain ⟨FG, BG, st, lv⟩ := groundX (R := R) B F N hA hf hke
  have hb : base.StaysIn s.heap := fun b o e => F.keep b o (B.stays b o e)
  have s2 := stays_hide BG
  refine codeC_call_def (fd := fnOf name qual params body scope dV kV doc pm an cdv ct) (body := body) (binds := binds) hroom ((X₀.keeps hb) _ _ ho) rfl (T.nolimit.keeps hb) (codeRec_of (X₀.keeps hb) hcd) rfl hbind hcell hloc (fun h₁ hns hk₁ => ?_) hco hgen hk
  refine wpC_mono (h _ _ s.heap.objs.size h₁ ⟨hns, fun b o e => hk₁ b o (of_hideAll _ e), Nat.le_of_eq (hideAll_size _ _)⟩
    (fun q hq => ⟨hk₁ _ _ (N q hq).1, Nat.ne_of_lt (Heap.lt_size (N q hq).1), hideAll_none _ (List.mem_map_of_mem hq)⟩) (below_hide BG) (X₀.keeps BG.stays) (T.keeps BG.stays) (fun l x mm q => ⟨q.ns, fun b o e => q.keep b o (of_hideAll _ e), by rw [hideAll_size]; exact q.above⟩) (X₀.keeps s2) (T.keeps s2) (fun b o e n => hideAll_get _ e n)
    (fun b o e n1 n2 => hideAll_get _ (hideAll_get _ e n1) fun hm => n2 ?_)) (fun _ _ x => x) fun _ _ y => y.elim
  obtain ⟨env', he, hfe⟩ := List.mem_filterMap.mp hm
  rcases List.mem_cons.mp he with rfl | he
  · rw [hf] at hfe; cases hfe; exact .head _
  · exact .tail _ (List.mem_filterMap.mpr ⟨env', he, hfe⟩)
/-- behind a call that has left the frames with other slots: a new ground -/
theorem reground {g b₂ h h' : Heap} {L : Addr} {m : Str → Option Value} {led : List (Addr × Obj)} (B : Below A b₂ outer g) (F : Fr g L h m) (N : News g L h led)
    (hk : ∀ b o, h.get? b = some o → b ∉ L :: frs outer → h'.get? b = some o) (U : h.UpToSlots h') :
    ∃ g₂, Fr g₂ L h' m ∧ News g₂ L h' led ∧ b₂.StaysIn g₂ ∧ (∀ b o, g.get? b = some o → b ∉ frs outer → g₂.get? b = some o) ∧ g.UpToSlots g₂ := by
  have nl : ∀ b o, g.get? b = some o → b ∉ led.map (·.1) := fun b o e hm => by
    obtain ⟨q, hq, rfl⟩ := List.mem_map.mp hm
    have := (N q hq).2.2
    rw [e] at this; cases this
  have lt : ∀ b o, g.get? b = some o → b < L := fun b o e => Nat.lt_of_lt_of_le (Heap.lt_size e) F.above
  have nf : ∀ b ∈ frs outer, ∃ o, g.get? b = some o := fun b hb => (B.frames.mem hb).2.imp fun _ x => x.1
  have up : ∀ b o sl, g.get? b = some o → h'.get? b = some { o with slots := sl } → (hideAll (cutTo h' L) (led.map (·.1))).get? b = some { o with slots := sl } := fun b o sl e e' => hideAll_get _ (cut_get e' (lt b o e)) (nl b o e)
  have k2 : ∀ b o, g.get? b = some o → b ∉ frs outer → (hideAll (cutTo h' L) (led.map (·.1))).get? b = some o := fun b o e n => up b o o.slots e (hk b o (F.keep b o e) fun hm => by
    rcases List.mem_cons.mp hm with rfl | hm
    · exact Nat.lt_irrefl _ (lt _ _ e)
    · exact n hm)
  refine ⟨hideAll (cutTo h' L) (led.map (·.1)), ⟨U.ns F.ns, fun b o e => of_cut (of_hideAll _ e), by rw [hideAll_size]; exact cut_size _ _⟩, fun q hq => ⟨hk _ _ (N q hq).1 fun hm => ?_, (N q hq).2.1, hideAll_none _ (List.mem_map_of_mem hq)⟩, fun b o e => k2 b o (B.stays b o e) fun hm => ?_, k2, fun b o e nfl => ?_⟩
  · rcases List.mem_cons.mp hm with e | hm
    · exact (N q hq).2.1 e
    · obtain ⟨o, ho⟩ := nf _ hm
      have := (N q hq).2.2
      rw [ho] at this; cases this
  · have := (B.frames.mem hm).1
    rw [e] at this; cases this
  · obtain ⟨sl, e'⟩ := U b o (F.keep b o e) nfl
    exact ⟨sl, up b o sl e e'⟩
theorem ConR.at {lv : Nat} {f : Addr} {args : Args} {V : Value → Prop} {dp un : Nat} {gd : Option (List Code)} {cn : Str} {cs : Scope} {ca : Addr} {ccd : Value} {cl : List (Str × Addr)} {R : Result → Shared → Prop} {g : Heap} (C : ConR lv w f pre args V)
    (B : Below A₀ base outer g) (F : Fr g L s.heap m) (X : (Kf w).In base) (N : News g L s.heap news) (T : Top p loose mean mg mb base) (hk : cs.kind = .function) (hd : dp + 8 * lv < recursionLimit) (hu : un + 60 * lv < cLine)
    (hsub : ∀ q ∈ pre, q ∈ news)
    (ret : ∀ v h' tk' g₂, V v → Fr g₂ L h' m → News g₂ L h' news → (Kf w).In g₂ → Top p loose mean mg mb g₂ → (∀ b o, g.get? b = some o → b ∉ frs outer → g₂.get? b = some o) → g.UpToSlots g₂ → R (.ok (.ret v)) { s with heap := h', toks := tk' }) :
    codeAny (model P0 w) (ktrTop dp un gd cn cs L ca ccd cl outer) (.call (.ref f) args) R s := by
  refine C _ _ _ _ _ _ _ _ _ _ _ _ _ _ _ _ _ _ _ _ _ B F X (fun q hq => N q (hsub q hq)) T hk hd hu fun v h' tk' hv hk' U => ?_
  obtain ⟨g₂, F₂, N₂, st, k2, U2⟩ := reground B F N hk' U
  exact ret v h' tk' g₂ hv F₂ N₂ (X.keeps st) (T.keeps st) k2 U2
/-- the end of a function that has gone on upon a new ground -/
theorem end_G {g g₂ h' : Heap} {L' : Addr} {m' : Str → Option Value} {env : Env} (hf : env.frame = some L) (N : News h₀ L s.heap pre) (kg : ∀ b o, s.heap.get? b = some o → b ∉ pre.map (·.1) → g.get? b = some o)
    (k2 : ∀ b o, g.get? b = some o → b ∉ frs (env :: outer) → g₂.get? b = some o) (U : g.UpToSlots g₂) (F₂ : Fr g₂ L' h' m') (N₂ : News g₂ L' h' pre) : (∀ b o, s.heap.get? b = some o → b ∉ L :: frs outer → h'.get? b = some o) ∧ s.heap.UpToSlots h' := by
  have hp : ∀ b o, s.heap.get? b = some o → b ∈ pre.map (·.1) → h'.get? b = some o := fun b o e hm => by
    obtain ⟨q, hq, rfl⟩ := List.mem_map.mp hm
    rw [(N q hq).1] at e
    cases e
    exact (N₂ q hq).1
  have hfr : frs (env :: outer) = L :: frs outer := by
    show List.filterMap _ _ = _
    rw [List.filterMap_cons, hf]
  refine ⟨fun b o e n => ?_, fun b o e nf => ?_⟩
  · by_cases hm : b ∈ pre.map (·.1)
    · exact hp b o e hm
    · exact F₂.keep b o (k2 b o (kg b o e hm) (by rw [hfr]; exact n))
  · by_cases hm : b ∈ pre.map (·.1)
    · exact ⟨o.slots, hp b o e hm⟩
    · obtain ⟨sl, e'⟩ := U b o (kg b o e hm) nf
      exact ⟨sl, F₂.keep _ _ e'⟩
end
section
variable {w : World} {A A₀ : Around} {s : Shared} {L : Addr} {h₀ base : Heap} {m mg mb : Str → Option Value} {pre news : List (Addr × Obj)} {p : Program} {loose : List Str} {mean : ExcName → Option Value}
/-- a use by the top function -/
theorem ConRC.at {lv : Nat} {f : Addr} {args : Args} {V : Value → Prop} {dp un : Nat} {gd : Option (List Code)} {cn : Str} {cs : Scope} {ca : Addr} {ccd : Value} {cl : List (Str × Addr)} {R : Result → Shared → Prop} (C : ConRC lv w f pre args V)
    (B : Below A₀ h₀ [] h₀) (F : Fr h₀ L s.heap m) (X : (Kf w).In h₀) (N : News h₀ L s.heap news) (T : Top p loose mean mg mb h₀) (hk : cs.kind = .function) (hd : dp + 8 * lv < recursionLimit) (hu : un + 60 * lv < cLine)
    (hsub : ∀ q ∈ pre, q ∈ news)
    (ret : ∀ v h' tk', V v → Fr h₀ L h' m → News h₀ L h' news → R (.ok (.ret v)) { s with heap := h', toks := tk' }) :
    codeC (model P0 w) (ktrTop dp un gd cn cs L ca ccd cl []) (.call (.ref f) args) R s := by
  refine C _ _ _ _ _ _ _ _ _ _ _ _ _ _ _ _ _ _ _ _ _ B F X (fun q hq => N q (hsub q hq)) T hk hd hu fun v h' tk' hv hk' U => ?_
  refine ret v h' tk' hv ⟨U.ns F.ns, fun b o e => hk' b o (F.keep b o e) fun hm => ?_, F.above⟩ fun q hq => ⟨hk' _ _ (N q hq).1 fun hm => ?_, (N q hq).2⟩
  · rcases List.mem_cons.mp hm with rfl | hm
    · exact Nat.lt_irrefl _ (Nat.lt_of_lt_of_le (Heap.lt_size e) F.above)
    · cases hm
  · rcases List.mem_cons.mp hm with e | hm
    · exact (N q hq).2.1 e
    · cases hm
end
end Mine
end
section
open PySem PySem.W PyProof.Rows PySem.Calls
set_option Elab.async false
set_option maxRecDepth 100000
namespace Mine
section
variable {prog : Program} {w : World} {A : Around} {h₀ : Heap} {L : Addr} {m : Str → Option Value} {env : Env} {elt : PySem.Expr} {x : Str} {scope : Scope} {cl : List (Str × Addr)} {s : Shared} {S : List (Addr × Obj) → Prop} {P : Nat → Value → Prop} {Fin : List Value → List (Addr × Obj) → Prop} {LEDF : Int → Int → Tok → Tok → List (Addr × Obj)} {n : Nat}
def Ints (ys : List Value) : Prop := ∀ v ∈ ys, ∃ (i : Int) (t : Tok), v = .int i t
theorem ints_nil : Ints [] := fun _ h => nomatch h
theorem ints_snoc {ys : List Value} (h : Ints ys) (i : Int) (t : Tok) : Ints (ys ++ [.int i t]) := fun v hv => by
  rcases List.mem_append.mp hv with q | q
  · exact h v q
  · exact ⟨i, t, List.mem_singleton.mp q⟩
/-- a comprehension whose element draws from the source -/
theorem rest_takes (step : ∀ (ys : List Value) (a b : Int) (ta tb : Tok) (G : Value → List (Addr × Obj) → Prop) (I : Addr) (oI : Obj) (C : Addr) (oC : Obj) (D : Addr) (h : Heap) (tk : Nat) (E' : Value → Shared → Prop), 0 ≤ a → 0 ≤ b → b < 2147483647 →
      (∀ y t a' b' t1 t2, 0 ≤ a' → 0 ≤ b' → b' < 2147483647 → G (.int y t) (LEDF a' b' t1 t2)) → Fr h₀ L h m → News h₀ L h ((I, oI) :: (C, oC) :: (D, LCg.lst ys) :: LEDF a b ta tb) → LCg.Off3 I C D (LEDF a b ta tb) → ((@Ne Nat I C) ∧ (@Ne Nat I D) ∧ (@Ne Nat C D)) →
      wpAny (model prog w) A (eval elt (compEnvC scope cl C env)) (LCg.CompEnd h₀ L m { s with heap := h, toks := tk } I oI C oC D (LCg.lst ys) S G) E' { s with heap := h, toks := tk })
    (fin : ∀ ys a b ta tb, 0 ≤ a → 0 ≤ b → b < 2147483647 → Ints ys → ys.length = n → Fin ys (LEDF a b ta tb)) :
    ∀ (k i : Nat) (ys : List Value) (a b : Int) (ta tb : Tok), 0 ≤ a → 0 ≤ b → b < 2147483647 → Ints ys → ys.length + k = n → LCg.CompRest prog w A h₀ L m env elt x scope cl s S P Fin k i ys (LEDF a b ta tb) := by
  intro k
  induction k with
  | zero => exact fun i ys a b ta tb h1 h2 h3 hy hl => LCg.CompRest.zero (fin ys a b ta tb h1 h2 h3 hy hl)
  | succ k ih =>
    intro i ys a b ta tb h1 h2 h3 hy hl
    refine LCg.CompRest.succ ?_
    intro v I oI C oC D m₂ h tk E' hv hC hx F N off ne
    exact step ys a b ta tb _ I oI C oC D h tk E' h1 h2 h3 (fun y t a' b' t1 t2 q1 q2 q3 => ih (i + 1) _ a' b' t1 t2 q1 q2 q3 (ints_snoc hy y t) (by rw [List.length_append, List.length_singleton]; omega)) F N off ne
end
section
variable {prog : Program} {w : World} {A : Around} {R : Result → Shared → Prop} {s : Shared} {name : Str} {params : Arguments} {body : List Stmt} {scope : Scope} {pm cd doc : Value} {a : Addr} {o : Obj} {args : List Value} {binds : List (Str × Value)}
theorem call_cellsC (hroom : A.depth < recursionLimit) (ho : s.heap.get? a = some o) (hdata : o.data = .func (Calls.docDef name params body scope pm cd doc)) (hlim : s.heap.NoLimit) (hcd : s.heap.CodeRec cd name)
    (hbind : bindArgs (Calls.docDef name params body scope pm cd doc) ⟨args, []⟩ = pure binds)
    (hkind : ∀ x ∈ binds, scope.names.lookup x.1 = some .local ∨ (scope.names.lookup x.1 = some .cell ∧ ((cellsFrom (s.heap.objs.size + 1) scope.names []).lookup x.1).isSome = true))
    (hnd : ((cellsFrom 0 scope.names []).map (·.1)).Nodup)
    (h : ∀ h₁ tk cells, Fr s.heap s.heap.objs.size h₁ (bindL (envOfC name scope s.heap.objs.size a cd).kindOf binds fun _ => none) → News s.heap s.heap.objs.size h₁ cells →
      CellsAre (bindC (envOfC name scope s.heap.objs.size a cd).kindOf binds fun _ => none) (cellsFrom (s.heap.objs.size + 1) scope.names []) cells →
      wpC (model prog w) (A.deeper (envOfC name scope s.heap.objs.size a cd)) (execs body (envOfC name scope s.heap.objs.size a cd))
        (fun f s' => R (.ok (.ret (match f with | .ret v => v | _ => .none))) s') (fun _ _ => False) { s with heap := h₁, toks := tk })
    (hco : scope.isCoroutine = false := by rfl) (hgen : scope.isGenerator = false := by rfl) (hk : scope.kind = .function := by rfl) :
    codeC (model prog w) A (.call (.ref a) ⟨args, []⟩) R s := by
  refine codeC_call_function (fd := Calls.docDef name params body scope pm cd doc) hroom ho hdata hco hgen rfl hcd (wpAny_of_eq hbind ?_)
  refine wpAny_newFunctionEnv_cells hk hkind fun env' he s' x => ?_
  subst he
  refine ⟨hlim.keeps x.toInCall.keep, codeC_func ?_⟩
  obtain ⟨h₁, tk, rfl, _⟩ := x.done
  obtain ⟨cells, NC, Y⟩ := PyProof.Rows.Cl.news (h₀ := s.heap) (Nat.le_refl _) fun n c hm => ⟨x.cell n c (lookup_of_mem_nodup (cellsFrom_names scope.names 0 (s.heap.objs.size + 1) [] [] rfl ▸ hnd) hm), x.above n c hm⟩
  exact wpC_mono (h h₁ tk cells ⟨x.toInCall.ns, x.toInCall.keep, x.toInCall.fresh⟩ NC Y) (fun _ _ q => q) fun _ _ y => y.elim
theorem enter_clean {M : Model} {A : Around} {s : Shared} {f : Value} {pos : List Value} {c : ClaimW} {cl : Str → Option Addr} {mean : ExcName → Option Value} {args : List WData} {s₁ : Shared}
    (h : codeC M A (.call f ⟨pos, []⟩) (GoodWG c cl mean args s₁) s) : wpC M A (PySem.call f pos) (fun v s' => GoodWG c cl mean args s₁ (.ok (.ret v)) s') (fun e s' => GoodWG c cl mean args s₁ (.error e) s') s :=
  wpC_call (codeC_mono h fun res s' g => by rcases g.1 with ⟨v, _, _, rfl, _⟩ | ⟨e, _, _, rfl, _⟩ <;> exact g)
end
end Mine
namespace Mine
theorem wpC_mid {prog : Program} {w : World} {A : Around} {E : Value → Shared → Prop} {s : Shared} {env : Env} {Q : Flow → Shared → Prop} {l : List Stmt} (k : Nat) (MID : Flow → Shared → Prop) (hf : ∀ f s', MID f s' → f = .next)
    (h1 : wpC (model prog w) A (execs (l.take k) env) MID E s) (h2 : ∀ s', MID .next s' → wpC (model prog w) A (execs (l.drop k) env) Q E s') : wpC (model prog w) A (execs l env) Q E s := by
  rw [← List.take_append_drop k l, execs_append]
  refine wpC_bind (wpC_mono h1 (fun f s' h' => ?_) fun _ _ e => e)
  obtain rfl := hf f s' h'
  exact h2 s' h'
def Mid1 (h₀ : Heap) (L c : Addr) (s : Shared) (f : Flow) (s' : Shared) : Prop := f = .next ∧ ∃ (m : Str → Option Value) (h' : Heap) (tk' src n : Nat) (a b : Int) (ta tb : Tok) (oc : Obj),
  s' = { s with heap := h', toks := tk' } ∧ 0 ≤ a ∧ 0 ≤ b ∧ b < 2147483647 ∧ @Ne Nat src c ∧ oc.data = .cell (some (.ref src)) ∧ Fr h₀ L h' m ∧ News h₀ L h' [(src, listOf #[.int a ta, .int b tb] n), (c, oc)]
theorem mid1 {h₀ : Heap} {L c : Addr} {s : Shared} {m : Str → Option Value} {h' : Heap} {tk' src n : Nat} {a b : Int} {ta tb : Tok} {oc : Obj} (F : Fr h₀ L h' m) (N : News h₀ L h' [(src, listOf #[.int a ta, .int b tb] n), (c, oc)]) (hd : oc.data = .cell (some (.ref src)))
    (h1 : 0 ≤ a) (h2 : 0 ≤ b) (h3 : b < 2147483647) (h4 : @Ne Nat src c) : Mid1 h₀ L c s .next { s with heap := h', toks := tk' } := ⟨rfl, m, h', tk', src, n, a, b, ta, tb, oc, rfl, h1, h2, h3, h4, hd, F, N⟩
def Mid2 (h₀ : Heap) (L c src n I : Addr) (oI : Obj) (s : Shared) (f : Flow) (s' : Shared) : Prop := f = .next ∧ ∃ (base : Str → Option Value) (h' : Heap) (tk' : Nat) (a b ring most : Int) (ta tb tr tm : Tok) (oc : Obj),
  s' = { s with heap := h', toks := tk' } ∧ 0 ≤ a ∧ 0 ≤ b ∧ b < 2147483647 ∧ 256 ≤ ring ∧ ring ≤ 4294967296 ∧ 60 ≤ most ∧ most ≤ 90000 ∧ 2 * most ≤ ring ∧ oc.data = .cell (some (.ref src)) ∧
  Fr h₀ L h' (fun y => if y = ("most" : Str) then some (.int most tm) else if y = ("ring" : Str) then some (.int ring tr) else base y) ∧ News h₀ L h' [(I, oI), (src, listOf #[.int a ta, .int b tb] n), (c, oc)]
theorem mid2 {h₀ : Heap} {L c src n I : Addr} {oI : Obj} {s : Shared} {base : Str → Option Value} {h' : Heap} {tk' : Nat} {a b ring most : Int} {ta tb tr tm : Tok} {oc : Obj}
    (F : Fr h₀ L h' (fun y => if y = ("most" : Str) then some (.int most tm) else if y = ("ring" : Str) then some (.int ring tr) else base y)) (N : News h₀ L h' [(I, oI), (src, listOf #[.int a ta, .int b tb] n), (c, oc)]) (hd : oc.data = .cell (some (.ref src)))
    (h1 : 0 ≤ a) (h2 : 0 ≤ b) (h3 : b < 2147483647) (h4 : 256 ≤ ring) (h5 : ring ≤ 4294967296) (h6 : 60 ≤ most) (h7 : most ≤ 90000) (h8 : 2 * most ≤ ring) : Mid2 h₀ L c src n I oI s .next { s with heap := h', toks := tk' } :=
  ⟨rfl, base, h', tk', a, b, ring, most, ta, tb, tr, tm, oc, rfl, h1, h2, h3, h4, h5, h6, h7, h8, hd, F, N⟩
def LawJ (c src n : Addr) (I : Addr) (_ : Nat) (_ : Str → Option Value) (led : List (Addr × Obj)) : Prop :=
  ∃ (a b : Int) (ta tb : Tok) (oc : Obj), 0 ≤ a ∧ 0 ≤ b ∧ b < 2147483647 ∧ oc.data = .cell (some (.ref src)) ∧ @Ne Nat src I ∧ @Ne Nat c I ∧ led = [(src, listOf #[.int a ta, .int b tb] n), (c, oc)]
theorem lawJ {c src n I i : Nat} {m : Str → Option Value} {a b : Int} {ta tb : Tok} {oc : Obj} (h1 : 0 ≤ a) (h2 : 0 ≤ b) (h3 : b < 2147483647) (hd : oc.data = .cell (some (.ref src))) (h4 : @Ne Nat src I) (h5 : @Ne Nat c I) :
    LawJ c src n I i m [(src, listOf #[.int a ta, .int b tb] n), (c, oc)] := ⟨a, b, ta, tb, oc, h1, h2, h3, hd, h4, h5, rfl⟩
theorem lawJ_start {c src n : Nat} {m : Str → Option Value} {a b : Int} {ta tb : Tok} {oc : Obj} (h1 : 0 ≤ a) (h2 : 0 ≤ b) (h3 : b < 2147483647) (hd : oc.data = .cell (some (.ref src))) :
    ∀ I, (∀ q ∈ [((src, listOf #[.int a ta, .int b tb] n) : Addr × Obj), (c, oc)], q.1 < I) → LawJ c src n I 0 m [(src, listOf #[.int a ta, .int b tb] n), (c, oc)] := fun I hI =>
  lawJ h1 h2 h3 hd (Nat.ne_of_lt (hI _ (.head _))) (Nat.ne_of_lt (hI _ (.tail _ (.head _))))
theorem law_end {c src n I i : Nat} {h₀ h' : Heap} {env : Env} {oI : Obj} {m' : Str → Option Value} {a b : Int} {ta tb : Tok} {oc : Obj} {s : Shared} {tk' : Nat} {R : Result → Shared → Prop} (F : Fr h₀ env.locals h' m') (N : News h₀ env.locals h' [(I, oI), (src, listOf #[.int a ta, .int b tb] n), (c, oc)])
    (hd : oc.data = .cell (some (.ref src))) (h1 : 0 ≤ a) (h2 : 0 ≤ b) (h3 : b < 2147483647) (h4 : @Ne Nat src I) (h5 : @Ne Nat c I) : TurnC h₀ env I oI [] (LawJ c src n I i) s R .next { s with heap := h', toks := tk' } :=
  ⟨h', tk', m', _, rfl, F, N, fun q hq => by
    rcases List.mem_cons.mp hq with rfl | hq
    · exact h4
    · rw [List.mem_singleton.mp hq]; exact h5, lawJ h1 h2 h3 hd h4 h5⟩
end Mine
end
section
open PySem PySem.W PyProof.Rows PySem.Calls
set_option Elab.async false
set_option maxRecDepth 100000
namespace Mine
theorem small4 {x : Int} (h0 : 0 ≤ x) (h1 : x < 4) : Builtin.Range.small 0 (1 + x) 1 = true := by
  have : x = 0 ∨ x = 1 ∨ x = 2 ∨ x = 3 := by omega
  rcases this with rfl | rfl | rfl | rfl <;> decide
theorem size4 {x : Int} (h0 : 0 ≤ x) (h1 : x < 4) : Builtin.Range.rangeSize 0 (1 + x) 1 = (((1 + x).toNat : Nat) : Int) := by
  have : x = 0 ∨ x = 1 ∨ x = 2 ∨ x = 3 := by omega
  rcases this with rfl | rfl | rfl | rfl <;> decide
def LedW (c src n I : Addr) (oI oc : Obj) (a b : Int) (ta tb : Tok) : List (Addr × Obj) := [(src, listOf #[.int a ta, .int b tb] n), (c, oc), (I, oI)]
def Mid3 (h₀ : Heap) (L c src n I : Addr) (oI oc : Obj) (m : Str → Option Value) (s : Shared) (v : Value) (s' : Shared) : Prop :=
  ∃ (h' : Heap) (tk' r : Nat) (x a b : Int) (t u w ta tb : Tok), v = .ref r ∧ s' = { s with heap := h', toks := tk' } ∧ 0 ≤ x ∧ x < 4 ∧ 0 ≤ a ∧ 0 ≤ b ∧ b < 2147483647 ∧ IsRange h' r 0 (1 + x) 1 t u w ∧ Fr h₀ L h' m ∧ News h₀ L h' (LedW c src n I oI oc a b ta tb)
theorem mid3 {h₀ : Heap} {L c src n I : Addr} {oI oc : Obj} {m : Str → Option Value} {s : Shared} {h' : Heap} {tk' r : Nat} {x a b : Int} {t u w ta tb : Tok} (F : Fr h₀ L h' m) (N : News h₀ L h' [(src, listOf #[.int a ta, .int b tb] n), (c, oc), (I, oI)]) (hr : IsRange h' r 0 (1 + x) 1 t u w)
    (h1 : 0 ≤ x) (h2 : x < 4) (h3 : 0 ≤ a) (h4 : 0 ≤ b) (h5 : b < 2147483647) : Mid3 h₀ L c src n I oI oc m s (.ref r) { s with heap := h', toks := tk' } := ⟨h', tk', r, x, a, b, t, u, w, ta, tb, rfl, rfl, h1, h2, h3, h4, h5, hr, F, N⟩
def StepEnd (h₀ : Heap) (L c src n I₀ : Addr) (oI₀ oc : Obj) (m : Str → Option Value) (s : Shared) (I : Addr) (oI : Obj) (C : Addr) (oC : Obj) (D : Addr) (oD : Obj) (y : Value) (s₂ : Shared) : Prop :=
  ∃ (h' : Heap) (tk : Nat) (i a b : Int) (t ta tb : Tok), y = .int i t ∧ s₂ = { s with heap := h', toks := tk } ∧ 0 ≤ a ∧ 0 ≤ b ∧ b < 2147483647 ∧ Fr h₀ L h' m ∧ News h₀ L h' ((I, oI) :: (C, oC) :: (D, oD) :: LedW c src n I₀ oI₀ oc a b ta tb)
theorem stepEnd {h₀ : Heap} {L c src n I₀ : Addr} {oI₀ oc : Obj} {m : Str → Option Value} {s : Shared} {I : Addr} {oI : Obj} {C : Addr} {oC : Obj} {D : Addr} {oD : Obj} {h' : Heap} {tk : Nat} {i a b : Int} {t ta tb : Tok} (F : Fr h₀ L h' m)
    (N : News h₀ L h' [(I, oI), (C, oC), (D, oD), (src, listOf #[.int a ta, .int b tb] n), (c, oc), (I₀, oI₀)]) (h1 : 0 ≤ a) (h2 : 0 ≤ b) (h3 : b < 2147483647) : StepEnd h₀ L c src n I₀ oI₀ oc m s I oI C oC D oD (.int i t) { s with heap := h', toks := tk } :=
  ⟨h', tk, i, a, b, t, ta, tb, rfl, rfl, h1, h2, h3, F, N⟩
theorem off_same {I C D c src n I₀ : Addr} {oI₀ oc : Obj} {a b a' b' : Int} {ta tb t1 t2 : Tok} (h : LCg.Off3 I C D (LedW c src n I₀ oI₀ oc a b ta tb)) : LCg.Off3 I C D (LedW c src n I₀ oI₀ oc a' b' t1 t2) := h
section
variable {prog : Program} {w : World} {A : Around} {E : Value → Shared → Prop} {s : Shared} {h₀ : Heap} {L : Addr} {m : Str → Option Value} {env : Env}
theorem assign_ways {elt iter : PySem.Expr} {x y : Str} {px py : Pos} {scope : Scope} {cl : List (Str × Addr)} {pos spos : Pos} {Q : Flow → Shared → Prop} {c src n I₀ : Addr} {oI₀ oc : Obj} (hh : A.handled = none) (F₀ : Fr h₀ L s.heap m) (hLe : env.locals = L)
    (hsw : swapsWith (.ListComp elt [⟨.Name x px, iter, [], 0⟩] scope pos) (some (.Name y py)) spos.line env = pure true)
    (hclos : closureFor scope env = pure cl) (hcell : ∀ z ∈ scope.names, z.2 ≠ .cell) (hkind : scope.kind = .function)
    (hnames : ∀ z ∈ scope.names, z.2 = .local → scope.names.lookup z.1 = some .local) (hx : scope.names.lookup x = some .local)
    (hy : env.kindOf y = some .local) (hp : (env.scope.kind == .class || (env.scope.kind == .module && env.locals != env.globals)) = false)
    (hiter : wpAny (model prog w) A (eval iter env) (Mid3 h₀ L c src n I₀ oI₀ oc m s) E s)
    (step : ∀ (a b : Int) (ta tb : Tok) (I : Addr) (oI : Obj) (C : Addr) (oC : Obj) (D : Addr) (oD : Obj) (h : Heap) (tk : Nat) (E' : Value → Shared → Prop), 0 ≤ a → 0 ≤ b → b < 2147483647 → Fr h₀ L h m →
      News h₀ L h [(I, oI), (C, oC), (D, oD), (src, listOf #[.int a ta, .int b tb] n), (c, oc), (I₀, oI₀)] → LCg.Off3 I C D [(src, listOf #[.int a ta, .int b tb] n), (c, oc), (I₀, oI₀)] → ((@Ne Nat I C) ∧ (@Ne Nat I D) ∧ (@Ne Nat C D)) →
      wpAny (model prog w) A (eval elt (compEnvC scope cl C env)) (StepEnd h₀ L c src n I₀ oI₀ oc m { s with heap := h, toks := tk } I oI C oC D oD) E' { s with heap := h, toks := tk })
    (fin : ∀ (ys : List Value) (a b : Int) (ta tb : Tok) (D : Addr) (h : Heap) (tk : Nat), 0 ≤ a → 0 ≤ b → b < 2147483647 → Ints ys → 0 < ys.length → Fr h₀ L h (fun z => if z = y then some (.ref D) else m z) →
      News h₀ L h [(D, LCg.lst ys), (src, listOf #[.int a ta, .int b tb] n), (c, oc), (I₀, oI₀)] → LCg.Off1 D [(src, listOf #[.int a ta, .int b tb] n), (c, oc), (I₀, oI₀)] → Q .next { s with heap := h, toks := tk })
    (hs : ∀ x, foldedSetIterable iter env x = pure x := by intro _; rfl) :
    wpAny (model prog w) A (exec (.Assign [.Name y py] (.ListComp elt [⟨.Name x px, iter, [], 0⟩] scope pos) spos) env) Q E s := by
  refine LCg.Assign_ListComp_U F₀ hLe hsw hclos hcell hkind hnames hx hy hp (wpAny_mono hiter (fun v s₁ hM => ?_) fun _ _ e => e) hs
  obtain ⟨h', tk', r, xx, a, b, t, u, ww, ta, tb, rfl, rfl, x0, x1, h1, h2, h3, hr, F, N⟩ := hM
  refine LCg.CompSrc.range (n := (1 + xx).toNat) hh F N hr (small4 x0 x1) (size4 x0 x1) (by rw [sizeLine_eq]; omega) fun g => ?_
  refine rest_takes (LEDF := LedW c src n I₀ oI₀ oc) (n := (1 + xx).toNat) ?_ ?_ (1 + xx).toNat 0 [] a b ta tb h1 h2 h3 ints_nil (by simp)
  · intro ys a b ta tb G I oI C oC D h tk E' q1 q2 q3 hG F N off ne
    refine wpAny_mono (step a b ta tb I oI C oC D _ h tk E' q1 q2 q3 F N off ne) (fun y s₂ hE => ?_) fun _ _ e => e
    obtain ⟨h', tk', i, a', b', t, t1, t2, rfl, rfl, z1, z2, z3, F', N'⟩ := hE
    exact ⟨h', tk', _, rfl, F', N', off_same off, trivial, hG i t a' b' t1 t2 z1 z2 z3⟩
  · intro ys a b ta tb q1 q2 q3 hi hl D h tk F N off
    exact fin ys a b ta tb D h tk q1 q2 q3 hi (by omega) F N off
end
end Mine
end
section
open PySem PySem.W PyProof.Rows PySem.Calls
set_option maxRecDepth 100000
namespace Mine
def es_lim (w : World) (k : Nat → Tok) (v0 : Int) (v1 : Int) (v2 : Int) (v3 : Int) (v4 : Int) (v5 : Int) (v6 : Int) (v7 : Int) (v8 : Int) (v9 : Int) : List DictEntry := [ent w "ring" (k 0) (.int v0 (k 10)), ent w "mss" (k 1) (.int v1 (k 11)), ent w "send_room" (k 2) (.int v2 (k 12)), ent w "receive_room" (k 3) (.int v3 (k 13)), ent w "first_timeout" (k 4) (.int v4 (k 14)), ent w "least_timeout" (k 5) (.int v5 (k 15)), ent w "most_timeout" (k 6) (.int v6 (k 16)), ent w "most_tries" (k 7) (.int v7 (k 17)), ent w "ack_delay" (k 8) (.int v8 (k 18)), ent w "time_wait" (k 9) (.int v9 (k 19))]
def D_lim (w : World) (k : Nat → Tok) (v0 : Int) (v1 : Int) (v2 : Int) (v3 : Int) (v4 : Int) (v5 : Int) (v6 : Int) (v7 : Int) (v8 : Int) (v9 : Int) : Obj := dictOf (es_lim w k v0 v1 v2 v3 v4 v5 v6 v7 v8 v9) 10
def es_snd (w : World) (k : Nat → Tok) (iss : Int) (ring : Int) (mss : Int) (una : Int) (nx : Int) (gr : Int) (pw : Nat) (q : Nat) (sp : Bool) : List DictEntry := [ent w "iss" (k 0) (.int iss (k 11)), ent w "ring" (k 1) (.int ring (k 12)), ent w "mss" (k 2) (.int mss (k 13)), ent w "una" (k 3) (.int una (k 14)), ent w "next" (k 4) (.int nx (k 15)), ent w "greatest" (k 5) (.int gr (k 16)), ent w "peer" (k 6) (.ref pw), ent w "queue" (k 7) (.ref q), ent w "syn_pending" (k 8) (.bool sp), ent w "fin_asked" (k 9) (.bool false), ent w "fin_sent" (k 10) (.bool false)]
def D_snd (w : World) (k : Nat → Tok) (iss : Int) (ring : Int) (mss : Int) (una : Int) (nx : Int) (gr : Int) (pw : Nat) (q : Nat) (sp : Bool) : Obj := dictOf (es_snd w k iss ring mss una nx gr pw q sp) 11
def es_que (w : World) (k : Nat → Tok) (room : Int) (held : Array UInt8) : List DictEntry := [ent w "room" (k 0) (.int room (k 2)), ent w "held" (k 1) (.bytes held (k 3))]
def D_que (w : World) (k : Nat → Tok) (room : Int) (held : Array UInt8) : Obj := dictOf (es_que w k room held) 2
def es_ack (w : World) (k : Nat → Tok) (d : Int) : List DictEntry := [ent w "delay" (k 0) (.int d (k 4)), ent w "waiting" (k 1) (.int 0 (k 5)), ent w "due" (k 2) (.none), ent w "has_gap" (k 3) (.bool false)]
def D_ack (w : World) (k : Nat → Tok) (d : Int) : Obj := dictOf (es_ack w k d) 4
def es_whl (w : World) (k : Nat → Tok) (sl : Nat) (la : Nat) (e : Nat) : List DictEntry := [ent w "size" (k 0) (.int 16 (k 6)), ent w "slots" (k 1) (.ref sl), ent w "late" (k 2) (.ref la), ent w "entries" (k 3) (.ref e), ent w "reached" (k 4) (.none), ent w "given" (k 5) (.int 0 (k 7))]
def D_whl (w : World) (k : Nat → Tok) (sl : Nat) (la : Nat) (e : Nat) : Obj := dictOf (es_whl w k sl la e) 6
def es_rcv (w : World) (k : Nat → Tok) (ring : Int) (room : Int) (mss : Int) (nx : Int) (te : Int) (bya : Nat) (am : Nat) : List DictEntry := [ent w "ring" (k 0) (.int ring (k 10)), ent w "room" (k 1) (.int room (k 11)), ent w "mss" (k 2) (.int mss (k 12)), ent w "next" (k 3) (.int nx (k 13)), ent w "ready" (k 4) (.ref bya), ent w "assembly" (k 5) (.ref am), ent w "told_edge" (k 6) (.int te (k 14)), ent w "fin_at" (k 7) (.none), ent w "has_fin" (k 8) (.bool false), ent w "urgent_at" (k 9) (.none)]
def D_rcv (w : World) (k : Nat → Tok) (ring : Int) (room : Int) (mss : Int) (nx : Int) (te : Int) (bya : Nat) (am : Nat) : Obj := dictOf (es_rcv w k ring room mss nx te bya am) 10
def es_tcb (w : World) (k : Nat → Tok) (li : Nat) (lo : Nat) (re : Nat) (s : Nat) (c : Nat) (cg : Nat) (a : Nat) (wh : Nat) (rv : Value) : List DictEntry := [ent w "limits" (k 0) (.ref li), ent w "local" (k 1) (.ref lo), ent w "remote" (k 2) (.ref re), ent w "state" (k 3) (.str "closed" (k 14)), ent w "sender" (k 4) (.ref s), ent w "receiver" (k 5) (rv), ent w "clock" (k 6) (.ref c), ent w "congestion" (k 7) (.ref cg), ent w "acks" (k 8) (.ref a), ent w "wheel" (k 9) (.ref wh), ent w "error" (k 10) (.none), ent w "probes" (k 11) (.int 0 (k 15)), ent w "unanswered" (k 12) (.int 0 (k 16)), ent w "is_nagle" (k 13) (.bool true)]
def D_tcb (w : World) (k : Nat → Tok) (li : Nat) (lo : Nat) (re : Nat) (s : Nat) (c : Nat) (cg : Nat) (a : Nat) (wh : Nat) (rv : Value) : Obj := dictOf (es_tcb w k li lo re s c cg a wh rv) 14
def es_seg (w : World) (k : Nat → Tok) (seq : Int) (ack : Int) (flags : Int) (wv : Int) (ob : Array UInt8) : List DictEntry := [ent w "source_port" (k 0) (.int 80 (k 9)), ent w "target_port" (k 1) (.int 90 (k 10)), ent w "seq" (k 2) (.int seq (k 11)), ent w "ack" (k 3) (.int ack (k 12)), ent w "flags" (k 4) (.int flags (k 13)), ent w "window" (k 5) (.int wv (k 14)), ent w "urgent" (k 6) (.int 0 (k 15)), ent w "options" (k 7) (.bytes ob (k 16)), ent w "payload" (k 8) (.bytes #[] (k 17))]
def D_seg (w : World) (k : Nat → Tok) (seq : Int) (ack : Int) (flags : Int) (wv : Int) (ob : Array UInt8) : Obj := dictOf (es_seg w k seq ack flags wv ob) 9
theorem nd_w {l D' d x dx : Nat} (lz : l < d ∧ D' < d ∧ x < d ∧ dx < d) (D : Nd [x, dx]) : Nd [x, dx, d] := by
  have D : [x, dx].Nodup := D
  show [x, dx, d].Nodup
  simp only [List.nodup_cons, List.mem_cons, List.not_mem_nil, or_false, not_or, not_false_eq_true, List.nodup_nil, and_true] at D ⊢
  omega
section
variable {w : World} {A A₀ : Around} {s : Shared} {L : Addr} {h₀ base : Heap} {m mg mb : Str → Option Value} {pre : List (Addr × Obj)}
/-- the end of a contract, the ledger cut to what is handed on -/
theorem fin3 {g : Heap} {L' : Addr} {h' : Heap} {m' : Str → Option Value} {post : List (Addr × Obj)} {R : Result → Shared → Prop} {v : Value} {tk' : Nat} (keep : ∀ b o, s.heap.get? b = some o → b ∉ pre.map (·.1) → g.get? b = some o)
    (F : Fr h₀ L h' m) (N : News h₀ L h' post) (Fg : Fr g L' h' m') (Ng : News g L' h' post) (D : Nd (addrs post))
    (ret : ∀ h' tk', Fr h₀ L h' m → News h₀ L h' post → Nd (addrs post) → Apart s.heap h' pre post → R (.ok (.ret v)) { s with heap := h', toks := tk' }) : R (.ok (.ret v)) { s with heap := h', toks := tk' } :=
  ret _ _ F N D (apart_of keep Fg Ng)
end
local macro_rules | `(tactic| walk_at "binaryOp FloorDiv int int") => `(tactic| (k_here; (with_reducible refine div_let ?kb0 ?kb1 ?kb2 ?_); (case kb0 => omega); (case kb1 => omega); (case kb2 => omega); intro r' er' hr0' hr1'))
local macro_rules | `(tactic| walk_at "binaryOp Mod int int") => `(tactic| (k_here; (with_reducible refine mod_x ?kb0 ?_); (case kb0 => omega); intro hr0' hr1'))
local macro_rules | `(tactic| walk_at "binaryOp Mult int int") => `(tactic| (k_here; (with_reducible refine mul_let ?kb0 ?kb1 ?kb2 ?kb3 ?_); (case kb0 => omega); (case kb1 => omega); (case kb2 => omega); (case kb3 => omega); intro r' er' hr0'))
local macro_rules | `(tactic| walk_at "subscriptTail Name Constant ref int") => `(tactic| (k_here; (with_reducible show wpAny _ _ (subscriptTail _ _ (Value.ref _) (Value.int _ _)) _ _ _); (with_unfolding_all refine' item_litK ?k1 ?k2 ?k3 ?k4 ?_ ?k6; (case k1 => is_list); (case k2 => decide); (case k3 => decide); (case k4 => rfl); (case k6 => with_unfolding_all rfl); k_whole)))
local macro_rules | `(tactic| k_room) => `(tactic| ((try simp (config := {zetaDelta := true}) only [List.nil_append, List.append_nil, depth_under_make, depth_under_kw, depth_in1, depth_deeper, depth_caller, depth_mark]); (try dsimp only [ktrTop]); (try simp only [List.nil_append, List.append_nil, weight_tc]); omega))
local macro_rules | `(tactic| k_units) => `(tactic| ((try simp (config := {zetaDelta := true}) only [List.nil_append, List.append_nil, units_in1, units_deeper, Around.mark_units, units_caller]); (try dsimp only [ktrTop]); (try simp only [List.nil_append, List.append_nil, cunits_tc]); omega))
local macro_rules | `(tactic| walk_at "binaryOp RShift int int") => `(tactic| (k_here; first | (with_reducible refine shr16 ?kb0 ?_; (case kb0 => omega); intro r' er' hr0') | (with_reducible refine shr8 ?kb0 ?_; (case kb0 => omega); intro r' er' hr0')))
local macro_rules | `(tactic| walk_at "binaryOp BitAnd int int") => `(tactic| (k_here; (with_reducible refine and255 ?_); intro r' er' hr0' hr1'))
local macro_rules | `(tactic| walk_at "call ref") => `(tactic| (k_here; k_dflt (first
  | (refine' call_cls0 ?k1 ?k2 ?k3 ?k4 ?k5 ?_; (case k1 => k_asm); (case k2 => k_asm); (case k3 => k_asm); (case k4 => k_is); (case k5 => k_is); k_whole; intro x' d' h' F' N' l1 l2; k_lt2 l1; (try k_sweep))
  | (refine' call_cls ?k1 ?k2 ?k3 ?k4 ?k5 ?k6 ?_; (case k1 => k_asm); (case k2 => k_asm); (case k3 => k_asm); (case k4 => k_is); (case k5 => k_is); (case k6 => k_is); k_whole; intro x' d' h' F' N' l1 l2; k_lt2 l1; (try k_sweep); k_enter)
  | (refine' call_meth ?k1 ?k2 ?_; (case k1 => k_asm); (case k2 => k_mem); k_whole; k_enter)
  | (refine wpAny_call ?_; k_enter))))
local macro_rules | `(tactic| k_lt2 $h:ident) => `(tactic| ((with_reducible rename Nd _ => nd'); replace nd' := nd_new2 nd' $h (by assumption) rfl))
local macro_rules | `(tactic| k_lt $h:ident) => `(tactic| ((with_reducible rename Nd _ => nd'); replace nd' := nd_new nd' $h rfl))
local macro_rules | `(tactic| walk_at "del") => `(tactic| first | exact Del.here | (refine' Del.there ?dT; (case dT => walk_at "del")))
local macro_rules | `(tactic| walk_at "take") => `(tactic| first | exact Take.nil | (refine' Take.cons ?tA ?tB; (case tA => walk_at "del"); (case tB => walk_at "take")))
local macro_rules | `(tactic| walk_at "pth") => `(tactic| first | exact Pth.head | (refine' Pth.tail ?pT; (case pT => walk_at "pth")))
local macro_rules | `(tactic| walk_at "bef") => `(tactic| first | (refine' Bef.here ?bM; (case bM => k_mem)) | (refine' Bef.there ?bT; (case bT => walk_at "bef")))
local macro_rules | `(tactic| walk_at "hyp") => `(tactic| first | exact True.intro | (refine' And.intro ?yA ?yB; (case yA => first | with_reducible assumption | omega | assumption | rfl); (case yB => walk_at "hyp")))
local macro_rules | `(tactic| k_upd) => `(tactic| ((with_reducible rename Nd _ => nd'); refine' Upd.of nd' ?uP ?uE; (case uP => walk_at "pth"); (case uE => exact rfl)))
local macro_rules | `(tactic| k_ne) => `(tactic| (refine neN ?_; (try dsimp only); first | with_reducible assumption | ((with_reducible rename Nd _ => nd'); first | (refine' nd_ne nd' ?nB; (case nB => k_dflt walk_at "bef")) | (refine' nd_ne' nd' ?nB; (case nB => k_dflt walk_at "bef"))) | omega))
local macro_rules | `(tactic| walk_at "lets") => `(tactic| try (k_fold; refine st_let ?_; intro sk))
local macro_rules | `(tactic| k_steps) => `(tactic| repeat' (first | (k_unfold; (try dsimp only)) | (k_end; wrow_close) | (walk1; walk_at "lets") | (dsimp only; walk1; walk_at "lets") | (leave1; walk_say "STEP leave1"; try dsimp only) | fail "no step"))
local macro_rules | `(tactic| walk_at "on") => `(tactic| (intros; intro h' tk' F' N' D'; (try dsimp only [List.cons_append, List.nil_append] at N'); (try dsimp only [List.cons_append, List.nil_append, addrs] at D'); (try dsimp only [InitBack, CmpBack, LenBack, StrBack, BoolBack]); (try refine ⟨rfl, ?_⟩); (try dsimp only); (try k_sweep)))
local macro_rules | `(tactic| walk_at "use") => `(tactic| (refine' ConX.at ?mC ?mB ?mF ?mX ?mN ?mD ?mT ?mK ?mR1 ?mU ?mS ?mE ?mR; (case' mC => walk_at "con"); (case mB => k_asm); (case mF => k_asm); (case mX => k_asm); (case mN => k_asm); (case mT => k_asm); (case mK => first | exact rfl | assumption); (case mS => walk_at "take"); (case mD => ((with_reducible rename Nd _ => nd'); exact nd')); (case mE => exact rfl); (case mR1 => k_room); (case mU => k_units); (try (case mH => walk_at "hyp")); (try (case mC => walk_at "hyp")); k_whole; walk_at "on"))
local macro_rules | `(tactic| k_enter) => `(tactic| ((with_reducible show codeAny _ _ (Code.call (Value.ref _) _) _ _); k_dflt walk_at "use"))
local macro_rules | `(tactic| walk_at "call builtin:len") => `(tactic| (k_here; (with_reducible show wpAny _ _ (call (Value.builtin "len") [Value.ref _]) _ _ _); k_dflt (refine' call_len_ba (News.get ?mN ?mM) ?mC ?mD ?mZ ?_; (case mN => k_asm); (case mM => k_mem); (case mC => exact rfl); (case mD => exact rfl); (case mZ => decide); k_whole; (try simp only [List.size_toArray, List.length_nil, Int.natCast_zero, Int.ofNat_zero, Array.size_empty, Int.sub_zero]))))
local macro_rules | `(tactic| walk_at "subscriptTail") => `(tactic| (k_here; (with_reducible show wpAny _ _ (subscriptTail _ (Expr.Slice _ _ none _) (Value.bytes _ _) (Value.ref _)) _ _ _); (try dsimp only); (with_reducible rename Fr _ _ _ _ => F'); (with_reducible rename News _ _ _ _ => N'); first | (refine slice_full (s := ⟨_, _, _, _, _⟩) F' N' (by first | omega | (simp only [List.size_toArray, List.length_nil, Array.size_empty, Int.natCast_zero, Int.ofNat_zero, Int.sub_zero]; split <;> omega) | (simp; omega)) (by omega) ?_; intro _ _ _ _ _) | (refine slice_zero' (s := ⟨_, _, _, _, _⟩) (by first | rfl | omega | (simp only [List.size_toArray, List.length_nil, Array.size_empty, Int.natCast_zero, Int.ofNat_zero, Int.sub_zero]; split <;> omega) | (simp; omega)) F' N' (by omega) ?_; intro _ _ _ _ _); (try dsimp only)))
local macro_rules | `(tactic| walk_at "call type:bytes") => `(tactic| (k_here; (with_reducible show wpAny _ _ (call (Value.type _) [Value.bytes _ _]) _ _ _); refine call_bytes_bytes ?_))
local macro_rules | `(tactic| walk_at "call type:bytes") => `(tactic| (k_here; (with_reducible show wpAny _ _ (call (Value.type _) [Value.int _ _]) _ _ _); refine call_bytes_int (by omega) (by omega) ?_; intro t' k'))
local macro_rules | `(tactic| walk_at "binaryOp Add bytes bytes") => `(tactic| (k_here; refine add_empty (by omega) ?_; intro t' k'))
local macro_rules | `(tactic| walk_at "compareOp NotEq ref ref") => `(tactic| (k_here; (with_reducible show wpAny _ _ (compareOp CmpOp.NotEq (Value.ref _) (Value.ref _)) _ _ _); k_dflt (refine' ne_same (News.get ?n1 ?m1) (News.get ?n2 ?m2) ?e1 ?e2 ?u ?sv ?_; (case n1 => k_asm); (case m1 => k_mem); (case n2 => k_asm); (case m2 => k_mem); (case e1 => exact rfl); (case e2 => exact rfl); (case u => k_units); (case sv => (repeat' first | exact SameL.nil | refine SameL.cons ?_ ?_ | exact SameV.int rfl | exact SameV.bool rfl | exact SameV.bytes rfl | exact SameV.int (by omega) | exact SameV.int (by assumption) | exact SameV.bool (by assumption) | exact SameV.bytes (opt_is (by omega) (by omega) (by assumption) (by assumption)))); k_whole)))
local macro_rules | `(tactic| walk_at "compareOp Eq ref ref") => `(tactic| (k_here; (with_reducible show wpAny _ _ (compareOp CmpOp.Eq (Value.ref _) (Value.ref _)) _ _ _); k_dflt (refine' eq_same (News.get ?n1 ?m1) (News.get ?n2 ?m2) ?e1 ?e2 ?u ?sv ?_; (case n1 => k_asm); (case m1 => k_mem); (case n2 => k_asm); (case m2 => k_mem); (case e1 => exact rfl); (case e2 => exact rfl); (case u => k_units); (case sv => (repeat' first | exact SameL.nil | refine SameL.cons ?_ ?_ | exact SameV.int rfl | exact SameV.bool rfl | exact SameV.bytes rfl | exact SameV.int (by omega) | exact SameV.int (by assumption) | exact SameV.bool (by assumption) | exact SameV.bytes (by assumption))); k_whole)))
local macro_rules | `(tactic| walk_at "compareOp NotEq bytes bytes") => `(tactic| (k_here; refine ne_bytes_same (by first | rfl | assumption) ?_))
local macro_rules | `(tactic| walk_at "eval ListComp") => `(tactic| (k_here; k_dflt (refine LCg.ListComp_U (F₀ := by k_asm) (by with_unfolding_all rfl) (by decide) (by rfl) (by decide) (by rfl) ?_); k_dflt lcg_toSrc))
local macro_rules | `(tactic| walk_at "CompSrc") => `(tactic| (k_here; k_dflt (refine LCg.CompSrc.range (n := 16) (by rfl) (by k_asm) (by k_asm) (by assumption) (by decide) (by decide) (by decide) ?_; intro g'; refine rest_lists trivial ?_ _ _ _; intro ys')))
set_option maxHeartbeats 8000000 in
theorem con_plus (w : World) {a n ring : Int} {ta tn tr : Tok} (HH : (0 < ring) ∧ True) :
    Con 1 w 143 [] ⟨[.int a ta, .int n tn, .int ring tr], []⟩ (fun C => ∀ (t : Tok), (0 ≤ (a + n) % ring) → ((a + n) % ring < ring) → C (.int ((a + n) % ring) t) []) := by
  refine ⟨fun _ _ hkZ hPZ t fZ0 fZ1 => hkZ _ _ (hPZ t fZ0 fZ1), ?_⟩
  obtain ⟨h0, _⟩ := HH
  w_on
  unfold Kf P0
  k_fill
  intro view loose mean mg mb dp un gd cn cs ca ccd cl outer A₀ base h₀ L m s R B F X N D T hk hd hu ret
  try dsimp only [addrs] at D
  dsimp only at ret
  k_dflt (refine' code_frame ?k1 ?k2 ?k3 ?k4 ?k5 ?kA ?kF ?kK ?k6 ?k7 ?k8 ?k9 ?kB ?_ ?c2 ?c3 ?c4 ?c5; (case kA => exact rfl); (case kF => exact rfl); (case kK => assumption); (case k1 => k_asm); (case k2 => k_asm); (case k3 => k_asm); (case k4 => k_asm); (case k5 => k_asm); (case k6 => k_is); (case k7 => k_is); (case k8 => k_room); (case k9 => first | exact BindsTo.of_eq rfl | exact binds_K (by k_in) rfl (by k_is) rfl rfl rfl); (case c5 => decide); (case kB => exact locs rfl); (case c2 => exact rfl); (case c3 => exact rfl); (case c4 => exact rfl); k_whole; intro g' L' h' FG' F' N' B' X' T' keep'; (try dsimp only); (refine env_let ?_; intro ev Ak); (try k_fold))
  k_steps
  all_goals first | ((try subst_vars); (with_reducible rename Nd _ => nd'); refine' fin (s := s) keep' ?zF ?zN ?zG ?zM nd' ?zE ?zT (ret _ ?_ ?_); (case zF => k_asm); (case zN => k_asm); (case zG => k_asm); (case zM => k_asm); (case zT => k_dflt walk_at "take"); (case zE => exact rfl); all_goals first | assumption | omega | rfl | exact decide_eq_false (by omega) | exact decide_eq_true (by omega) | (simp only [if_true]; first | omega | exact decide_eq_false (by omega))) | (exfalso; omega)

set_option maxHeartbeats 8000000 in
theorem con_dist (w : World) {a n ring : Int} {ta tn tr : Tok} (HH : (0 < ring) ∧ True) :
    Con 1 w 150 [] ⟨[.int a ta, .int n tn, .int ring tr], []⟩ (fun C => ∀ (t : Tok), (0 ≤ (n - a) % ring) → ((n - a) % ring < ring) → C (.int ((n - a) % ring) t) []) := by
  refine ⟨fun _ _ hkZ hPZ t fZ0 fZ1 => hkZ _ _ (hPZ t fZ0 fZ1), ?_⟩
  obtain ⟨h0, _⟩ := HH
  w_on
  unfold Kf P0
  k_fill
  intro view loose mean mg mb dp un gd cn cs ca ccd cl outer A₀ base h₀ L m s R B F X N D T hk hd hu ret
  try dsimp only [addrs] at D
  dsimp only at ret
  k_dflt (refine' code_frame ?k1 ?k2 ?k3 ?k4 ?k5 ?kA ?kF ?kK ?k6 ?k7 ?k8 ?k9 ?kB ?_ ?c2 ?c3 ?c4 ?c5; (case kA => exact rfl); (case kF => exact rfl); (case kK => assumption); (case k1 => k_asm); (case k2 => k_asm); (case k3 => k_asm); (case k4 => k_asm); (case k5 => k_asm); (case k6 => k_is); (case k7 => k_is); (case k8 => k_room); (case k9 => first | exact BindsTo.of_eq rfl | exact binds_K (by k_in) rfl (by k_is) rfl rfl rfl); (case c5 => decide); (case kB => exact locs rfl); (case c2 => exact rfl); (case c3 => exact rfl); (case c4 => exact rfl); k_whole; intro g' L' h' FG' F' N' B' X' T' keep'; (try dsimp only); (refine env_let ?_; intro ev Ak); (try k_fold))
  k_steps
  all_goals first | ((try subst_vars); (with_reducible rename Nd _ => nd'); refine' fin (s := s) keep' ?zF ?zN ?zG ?zM nd' ?zE ?zT (ret _ ?_ ?_); (case zF => k_asm); (case zN => k_asm); (case zG => k_asm); (case zM => k_asm); (case zT => k_dflt walk_at "take"); (case zE => exact rfl); all_goals first | assumption | omega | rfl | exact decide_eq_false (by omega) | exact decide_eq_true (by omega) | (simp only [if_true]; first | omega | exact decide_eq_false (by omega))) | (exfalso; omega)
local macro_rules | `(tactic| walk_at "con") => `(tactic| first | ((with_reducible show ConX _ _ _ 143 _ _ _); refine' con_plus _ ?mH) | ((with_reducible show ConX _ _ _ 150 _ _ _); refine' con_dist _ ?mH))
set_option maxHeartbeats 8000000 in
theorem con_before_t (w : World) {a b ring : Int} {ta tb tr : Tok} (HH : (0 < ring) ∧ (0 < (b - a) % ring) ∧ (2 * ((b - a) % ring) < ring) ∧ True) :
    Con 1 w 157 [] ⟨[.int a ta, .int b tb, .int ring tr], []⟩ (fun C => C (.bool true) []) := by
  refine ⟨fun _ _ hkZ hPZ => hkZ _ _ hPZ, ?_⟩
  obtain ⟨h0, h1, h2, _⟩ := HH
  w_on
  unfold Kf P0
  k_fill
  intro view loose mean mg mb dp un gd cn cs ca ccd cl outer A₀ base h₀ L m s R B F X N D T hk hd hu ret
  try dsimp only [addrs] at D
  dsimp only at ret
  k_dflt (refine' code_frame ?k1 ?k2 ?k3 ?k4 ?k5 ?kA ?kF ?kK ?k6 ?k7 ?k8 ?k9 ?kB ?_ ?c2 ?c3 ?c4 ?c5; (case kA => exact rfl); (case kF => exact rfl); (case kK => assumption); (case k1 => k_asm); (case k2 => k_asm); (case k3 => k_asm); (case k4 => k_asm); (case k5 => k_asm); (case k6 => k_is); (case k7 => k_is); (case k8 => k_room); (case k9 => first | exact BindsTo.of_eq rfl | exact binds_K (by k_in) rfl (by k_is) rfl rfl rfl); (case c5 => decide); (case kB => exact locs rfl); (case c2 => exact rfl); (case c3 => exact rfl); (case c4 => exact rfl); k_whole; intro g' L' h' FG' F' N' B' X' T' keep'; (try dsimp only); (refine env_let ?_; intro ev Ak); (try k_fold))
  k_steps
  all_goals first | ((try subst_vars); rw [decide_eq_true (by omega)]; (with_reducible rename Nd _ => nd'); refine' fin (s := s) keep' ?zF ?zN ?zG ?zM nd' ?zE ?zT ret; (case zF => k_asm); (case zN => k_asm); (case zG => k_asm); (case zM => k_asm); (case zT => k_dflt walk_at "take"); (case zE => exact rfl)) | (exfalso; omega)

set_option maxHeartbeats 8000000 in
theorem con_before_f (w : World) {a b ring : Int} {ta tb tr : Tok} (HH : (0 < ring) ∧ ((b - a) % ring = 0 ∨ ring ≤ 2 * ((b - a) % ring)) ∧ True) :
    Con 1 w 157 [] ⟨[.int a ta, .int b tb, .int ring tr], []⟩ (fun C => C (.bool false) []) := by
  refine ⟨fun _ _ hkZ hPZ => hkZ _ _ hPZ, ?_⟩
  obtain ⟨h0, h1, _⟩ := HH
  w_on
  unfold Kf P0
  k_fill
  intro view loose mean mg mb dp un gd cn cs ca ccd cl outer A₀ base h₀ L m s R B F X N D T hk hd hu ret
  try dsimp only [addrs] at D
  dsimp only at ret
  k_dflt (refine' code_frame ?k1 ?k2 ?k3 ?k4 ?k5 ?kA ?kF ?kK ?k6 ?k7 ?k8 ?k9 ?kB ?_ ?c2 ?c3 ?c4 ?c5; (case kA => exact rfl); (case kF => exact rfl); (case kK => assumption); (case k1 => k_asm); (case k2 => k_asm); (case k3 => k_asm); (case k4 => k_asm); (case k5 => k_asm); (case k6 => k_is); (case k7 => k_is); (case k8 => k_room); (case k9 => first | exact BindsTo.of_eq rfl | exact binds_K (by k_in) rfl (by k_is) rfl rfl rfl); (case c5 => decide); (case kB => exact locs rfl); (case c2 => exact rfl); (case c3 => exact rfl); (case c4 => exact rfl); k_whole; intro g' L' h' FG' F' N' B' X' T' keep'; (try dsimp only); (refine env_let ?_; intro ev Ak); (try k_fold))
  k_steps
  all_goals first | ((try subst_vars); rw [decide_eq_false (by omega)]; (with_reducible rename Nd _ => nd'); refine' fin (s := s) keep' ?zF ?zN ?zG ?zM nd' ?zE ?zT ret; (case zF => k_asm); (case zN => k_asm); (case zG => k_asm); (case zM => k_asm); (case zT => k_dflt walk_at "take"); (case zE => exact rfl)) | (exfalso; omega)
local macro_rules | `(tactic| walk_at "con") => `(tactic| first | ((with_reducible show ConX _ _ _ 157 _ _ _); refine' con_before_f _ ?mH; (case mH => walk_at "hyp")) | ((with_reducible show ConX _ _ _ 157 _ _ _); refine' con_before_t _ ?mH; (case mH => walk_at "hyp")))
set_option maxHeartbeats 8000000 in
theorem con_latest1 (w : World) {a b ring : Int} {ta tb tr : Tok} (HH : (0 < ring) ∧ (0 < (b - a) % ring) ∧ (2 * ((b - a) % ring) < ring) ∧ True) :
    Con 2 w 171 [] ⟨[.int a ta, .int b tb, .int ring tr], []⟩ (fun C => C (.int b tb) []) := by
  refine ⟨fun _ _ hkZ hPZ => hkZ _ _ hPZ, ?_⟩
  obtain ⟨h0, h1, h2, _⟩ := HH
  w_on
  unfold Kf P0
  k_fill
  intro view loose mean mg mb dp un gd cn cs ca ccd cl outer A₀ base h₀ L m s R B F X N D T hk hd hu ret
  try dsimp only [addrs] at D
  dsimp only at ret
  k_dflt (refine' code_frame ?k1 ?k2 ?k3 ?k4 ?k5 ?kA ?kF ?kK ?k6 ?k7 ?k8 ?k9 ?kB ?_ ?c2 ?c3 ?c4 ?c5; (case kA => exact rfl); (case kF => exact rfl); (case kK => assumption); (case k1 => k_asm); (case k2 => k_asm); (case k3 => k_asm); (case k4 => k_asm); (case k5 => k_asm); (case k6 => k_is); (case k7 => k_is); (case k8 => k_room); (case k9 => first | exact BindsTo.of_eq rfl | exact binds_K (by k_in) rfl (by k_is) rfl rfl rfl); (case c5 => decide); (case kB => exact locs rfl); (case c2 => exact rfl); (case c3 => exact rfl); (case c4 => exact rfl); k_whole; intro g' L' h' FG' F' N' B' X' T' keep'; (try dsimp only); (refine env_let ?_; intro ev Ak); (try k_fold))
  k_steps
  all_goals first | ((try subst_vars); (with_reducible rename Nd _ => nd'); refine' fin (s := s) keep' ?zF ?zN ?zG ?zM nd' ?zE ?zT ret; (case zF => k_asm); (case zN => k_asm); (case zG => k_asm); (case zM => k_asm); (case zT => k_dflt walk_at "take"); (case zE => exact rfl)) | (exfalso; omega)

set_option maxHeartbeats 8000000 in
theorem con_latest2 (w : World) {a b ring : Int} {ta tb tr : Tok} (HH : (0 < ring) ∧ ((b - a) % ring = 0) ∧ True) :
    Con 2 w 171 [] ⟨[.int a ta, .int b tb, .int ring tr], []⟩ (fun C => C (.int a ta) []) := by
  refine ⟨fun _ _ hkZ hPZ => hkZ _ _ hPZ, ?_⟩
  obtain ⟨h0, h1, _⟩ := HH
  w_on
  unfold Kf P0
  k_fill
  intro view loose mean mg mb dp un gd cn cs ca ccd cl outer A₀ base h₀ L m s R B F X N D T hk hd hu ret
  try dsimp only [addrs] at D
  dsimp only at ret
  k_dflt (refine' code_frame ?k1 ?k2 ?k3 ?k4 ?k5 ?kA ?kF ?kK ?k6 ?k7 ?k8 ?k9 ?kB ?_ ?c2 ?c3 ?c4 ?c5; (case kA => exact rfl); (case kF => exact rfl); (case kK => assumption); (case k1 => k_asm); (case k2 => k_asm); (case k3 => k_asm); (case k4 => k_asm); (case k5 => k_asm); (case k6 => k_is); (case k7 => k_is); (case k8 => k_room); (case k9 => first | exact BindsTo.of_eq rfl | exact binds_K (by k_in) rfl (by k_is) rfl rfl rfl); (case c5 => decide); (case kB => exact locs rfl); (case c2 => exact rfl); (case c3 => exact rfl); (case c4 => exact rfl); k_whole; intro g' L' h' FG' F' N' B' X' T' keep'; (try dsimp only); (refine env_let ?_; intro ev Ak); (try k_fold))
  k_steps
  all_goals first | ((try subst_vars); (with_reducible rename Nd _ => nd'); refine' fin (s := s) keep' ?zF ?zN ?zG ?zM nd' ?zE ?zT ret; (case zF => k_asm); (case zN => k_asm); (case zG => k_asm); (case zM => k_asm); (case zT => k_dflt walk_at "take"); (case zE => exact rfl)) | (exfalso; omega)
local macro_rules | `(tactic| walk_at "con") => `(tactic| first | ((with_reducible show ConX _ _ _ 171 _ _ _); refine' con_latest2 _ ?mH; (case mH => walk_at "hyp")) | ((with_reducible show ConX _ _ _ 171 _ _ _); refine' con_latest1 _ ?mH; (case mH => walk_at "hyp")))
set_option maxHeartbeats 8000000 in
theorem con_start (w : World) {x dx pw q : Nat} {iss ring mss nx gr : Int} {ks : Nat → Tok} (HH : (2 < ring) ∧ (0 ≤ iss) ∧ (iss < ring) ∧ ((nx = iss ∧ (gr = iss ∨ gr = (iss + 1) % ring)) ∨ (nx = (iss + 1) % ring ∧ gr = (iss + 1) % ring)) ∧ True) :
    Con 4 w 886 [(x, instObj 967 dx), (dx, D_snd w ks iss ring mss iss nx gr pw q true)] ⟨[.ref x], []⟩ (fun C => ∀ (tv : Tok), ∀ (ks' : Nat → Tok), C (.int iss tv) [(x, instObj 967 dx), (dx, D_snd w ks' iss ring mss iss ((iss + 1) % ring) ((iss + 1) % ring) pw q true)]) := by
  refine ⟨fun _ _ hkZ hPZ tv ks'  => hkZ _ _ (hPZ tv ks' ), ?_⟩
  obtain ⟨hr, hi, hi2, hs, _⟩ := HH
  w_on
  unfold Kf P0
  k_fill
  intro view loose mean mg mb dp un gd cn cs ca ccd cl outer A₀ base h₀ L m s R B F X N D T hk hd hu ret
  try dsimp only [addrs] at D
  dsimp only at ret
  k_dflt (refine' code_frame ?k1 ?k2 ?k3 ?k4 ?k5 ?kA ?kF ?kK ?k6 ?k7 ?k8 ?k9 ?kB ?_ ?c2 ?c3 ?c4 ?c5; (case kA => exact rfl); (case kF => exact rfl); (case kK => assumption); (case k1 => k_asm); (case k2 => k_asm); (case k3 => k_asm); (case k4 => k_asm); (case k5 => k_asm); (case k6 => k_is); (case k7 => k_is); (case k8 => k_room); (case k9 => first | exact BindsTo.of_eq rfl | exact binds_K (by k_in) rfl (by k_is) rfl rfl rfl); (case c5 => decide); (case kB => exact locs rfl); (case c2 => exact rfl); (case c3 => exact rfl); (case c4 => exact rfl); k_whole; intro g' L' h' FG' F' N' B' X' T' keep'; (try dsimp only); (refine env_let ?_; intro ev Ak); (try k_fold))
  have gA := gap1 hr hi hi2
  have gB := gapne hr hi hi2
  have gC : ((iss + 1) % ring - (iss + 1) % ring) % ring = 0 := by rw [Int.sub_self, Int.zero_emod]
  rcases hs with ⟨rfl, (rfl | rfl)⟩ | ⟨rfl, rfl⟩
  all_goals k_steps
  all_goals first | ((try subst_vars); (with_reducible rename Nd _ => nd'); refine' fin (s := s) keep' ?zF ?zN ?zG ?zM nd' ?zE ?zT (ret _ (kf [_, _, _, _, _, _, _, _, _, _, _, _, _, _, _, _, _])); (case zF => k_asm); (case zN => k_asm); (case zG => k_asm); (case zM => k_asm); (case zT => k_dflt walk_at "take"); (case zE => exact rfl)) | (exfalso; omega)
set_option maxHeartbeats 8000000 in
theorem con_back (w : World) {x dx pw q : Nat} {iss ring mss nx gr : Int} {ks : Nat → Tok} {ta : Tok} (HH : (0 < ring) ∧ True) :
    Con 4 w 936 [(x, instObj 967 dx), (dx, D_snd w ks iss ring mss iss nx gr pw q true)] ⟨[.ref x, .int iss ta], []⟩ (fun C => ∀ (ks' : Nat → Tok), C (.none) [(x, instObj 967 dx), (dx, D_snd w ks' iss ring mss iss iss gr pw q true)]) := by
  refine ⟨fun _ _ hkZ hPZ ks'  => hkZ _ _ (hPZ ks' ), ?_⟩
  obtain ⟨h0, _⟩ := HH
  w_on
  unfold Kf P0
  k_fill
  intro view loose mean mg mb dp un gd cn cs ca ccd cl outer A₀ base h₀ L m s R B F X N D T hk hd hu ret
  try dsimp only [addrs] at D
  dsimp only at ret
  k_dflt (refine' code_frame ?k1 ?k2 ?k3 ?k4 ?k5 ?kA ?kF ?kK ?k6 ?k7 ?k8 ?k9 ?kB ?_ ?c2 ?c3 ?c4 ?c5; (case kA => exact rfl); (case kF => exact rfl); (case kK => assumption); (case k1 => k_asm); (case k2 => k_asm); (case k3 => k_asm); (case k4 => k_asm); (case k5 => k_asm); (case k6 => k_is); (case k7 => k_is); (case k8 => k_room); (case k9 => first | exact BindsTo.of_eq rfl | exact binds_K (by k_in) rfl (by k_is) rfl rfl rfl); (case c5 => decide); (case kB => exact locs rfl); (case c2 => exact rfl); (case c3 => exact rfl); (case c4 => exact rfl); k_whole; intro g' L' h' FG' F' N' B' X' T' keep'; (try dsimp only); (refine env_let ?_; intro ev Ak); (try k_fold))
  have gA : (iss - iss) % ring = 0 := by rw [Int.sub_self, Int.zero_emod]
  have gB : 0 ≤ (nx - iss) % ring := Int.emod_nonneg _ (by omega)
  k_steps
  all_goals first | ((try subst_vars); (with_reducible rename Nd _ => nd'); refine' fin (s := s) keep' ?zF ?zN ?zG ?zM nd' ?zE ?zT (ret (kf [_, _, _, _, _, _, _, _, _, _, _, _, _, _, _, _, _])); (case zF => k_asm); (case zN => k_asm); (case zG => k_asm); (case zM => k_asm); (case zT => k_dflt walk_at "take"); (case zE => exact rfl)) | (exfalso; omega)
set_option maxHeartbeats 8000000 in
theorem con_window (w : World) {x dx bya am nb : Nat} {ring room mss nx : Int} {kr : Nat → Tok} (HH : (0 < room) ∧ (2 * room ≤ ring) ∧ (0 ≤ nx) ∧ (nx < ring) ∧ True) :
    Con 4 w 310 [(x, instObj 397 dx), (dx, D_rcv w kr ring room mss nx ((nx + room) % ring) bya am), (bya, { cls := .type "bytearray", data := .bytearray #[] nb })] ⟨[.ref x], []⟩ (fun C => ∀ (tv : Tok), ∀ (wv : Int), (wv = room) → C (.int wv tv) [(x, instObj 397 dx), (dx, D_rcv w kr ring room mss nx ((nx + room) % ring) bya am), (bya, { cls := .type "bytearray", data := .bytearray #[] nb })]) := by
  refine ⟨fun _ _ hkZ hPZ tv wv fZ0 => hkZ _ _ (hPZ tv wv fZ0), ?_⟩
  obtain ⟨hr, hr2, hn, hn2, _⟩ := HH
  w_on
  unfold Kf P0
  k_fill
  intro view loose mean mg mb dp un gd cn cs ca ccd cl outer A₀ base h₀ L m s R B F X N D T hk hd hu ret
  try dsimp only [addrs] at D
  dsimp only at ret
  k_dflt (refine' code_frame ?k1 ?k2 ?k3 ?k4 ?k5 ?kA ?kF ?kK ?k6 ?k7 ?k8 ?k9 ?kB ?_ ?c2 ?c3 ?c4 ?c5; (case kA => exact rfl); (case kF => exact rfl); (case kK => assumption); (case k1 => k_asm); (case k2 => k_asm); (case k3 => k_asm); (case k4 => k_asm); (case k5 => k_asm); (case k6 => k_is); (case k7 => k_is); (case k8 => k_room); (case k9 => first | exact BindsTo.of_eq rfl | exact binds_K (by k_in) rfl (by k_is) rfl rfl rfl); (case c5 => decide); (case kB => exact locs rfl); (case c2 => exact rfl); (case c3 => exact rfl); (case c4 => exact rfl); k_whole; intro g' L' h' FG' F' N' B' X' T' keep'; (try dsimp only); (refine env_let ?_; intro ev Ak); (try k_fold))
  have gA : ((nx + room) % ring - (nx + room) % ring) % ring = 0 := by rw [Int.sub_self, Int.zero_emod]
  have gB : (nx - (nx + room) % ring) % ring = ring - room := gapB hr hr2 hn hn2
  have gC : ((nx + room) % ring - nx) % ring = room := gapC hr hr2 hn hn2
  have gD : (nx + (room - 0)) % ring = (nx + room) % ring := by rw [Int.sub_zero]
  have gE : ((nx + (room - 0)) % ring - (nx + room) % ring) % ring = 0 := by rw [Int.sub_zero]; exact gA
  k_steps
  all_goals first | ((try subst_vars); (with_reducible rename Nd _ => nd'); refine' fin (s := s) keep' ?zF ?zN ?zG ?zM nd' ?zE ?zT (ret _ _ ?_); (case zF => k_asm); (case zN => k_asm); (case zG => k_asm); (case zM => k_asm); (case zT => k_dflt walk_at "take"); (case zE => exact rfl); all_goals first | assumption | omega | rfl | exact decide_eq_false (by omega) | exact decide_eq_true (by omega) | (simp only [if_true]; first | omega | exact decide_eq_false (by omega))) | (exfalso; omega)
set_option maxHeartbeats 8000000 in
theorem con_onsent (w : World) {x dx : Nat} {d : Int} {ka : Nat → Tok} (HH : True) :
    Con 1 w 444 [(x, instObj 454 dx), (dx, D_ack w ka d)] ⟨[.ref x], []⟩ (fun C => ∀ (ka' : Nat → Tok), C (.none) [(x, instObj 454 dx), (dx, D_ack w ka' d)]) := by
  refine ⟨fun _ _ hkZ hPZ ka'  => hkZ _ _ (hPZ ka' ), ?_⟩
  w_on
  unfold Kf P0
  k_fill
  intro view loose mean mg mb dp un gd cn cs ca ccd cl outer A₀ base h₀ L m s R B F X N D T hk hd hu ret
  try dsimp only [addrs] at D
  dsimp only at ret
  k_dflt (refine' code_frame ?k1 ?k2 ?k3 ?k4 ?k5 ?kA ?kF ?kK ?k6 ?k7 ?k8 ?k9 ?kB ?_ ?c2 ?c3 ?c4 ?c5; (case kA => exact rfl); (case kF => exact rfl); (case kK => assumption); (case k1 => k_asm); (case k2 => k_asm); (case k3 => k_asm); (case k4 => k_asm); (case k5 => k_asm); (case k6 => k_is); (case k7 => k_is); (case k8 => k_room); (case k9 => first | exact BindsTo.of_eq rfl | exact binds_K (by k_in) rfl (by k_is) rfl rfl rfl); (case c5 => decide); (case kB => exact locs rfl); (case c2 => exact rfl); (case c3 => exact rfl); (case c4 => exact rfl); k_whole; intro g' L' h' FG' F' N' B' X' T' keep'; (try dsimp only); (refine env_let ?_; intro ev Ak); (try k_fold))
  k_steps
  all_goals first | ((try subst_vars); (with_reducible rename Nd _ => nd'); refine' fin (s := s) keep' ?zF ?zN ?zG ?zM nd' ?zE ?zT (ret (kf [_, _, _, _, _, _])); (case zF => k_asm); (case zN => k_asm); (case zG => k_asm); (case zM => k_asm); (case zT => k_dflt walk_at "take"); (case zE => exact rfl)) | (exfalso; omega)
set_option maxHeartbeats 8000000 in
theorem con_cancel (w : World) {x dx sl la e : Nat} {oe : Obj} {tkey : Tok} {kw : Nat → Tok} (HH : ((e == sysModules) = false) ∧ (oe.IsDictOf (PySem.intKind P0 w) []) ∧ True) :
    Con 2 w 1005 [(x, instObj 1034 dx), (dx, D_whl w kw sl la e), (e, oe)] ⟨[.ref x, .int 3 tkey], []⟩ (fun C => C (.none) [(x, instObj 1034 dx), (dx, D_whl w kw sl la e), (e, oe)]) := by
  refine ⟨fun _ _ hkZ hPZ => hkZ _ _ hPZ, ?_⟩
  obtain ⟨he, ho, _⟩ := HH
  w_on
  unfold Kf P0
  k_fill
  intro view loose mean mg mb dp un gd cn cs ca ccd cl outer A₀ base h₀ L m s R B F X N D T hk hd hu ret
  try dsimp only [addrs] at D
  dsimp only at ret
  k_dflt (refine' code_frame ?k1 ?k2 ?k3 ?k4 ?k5 ?kA ?kF ?kK ?k6 ?k7 ?k8 ?k9 ?kB ?_ ?c2 ?c3 ?c4 ?c5; (case kA => exact rfl); (case kF => exact rfl); (case kK => assumption); (case k1 => k_asm); (case k2 => k_asm); (case k3 => k_asm); (case k4 => k_asm); (case k5 => k_asm); (case k6 => k_is); (case k7 => k_is); (case k8 => k_room); (case k9 => first | exact BindsTo.of_eq rfl | exact binds_K (by k_in) rfl (by k_is) rfl rfl rfl); (case c5 => decide); (case kB => exact locs rfl); (case c2 => exact rfl); (case c3 => exact rfl); (case c4 => exact rfl); k_whole; intro g' L' h' FG' F' N' B' X' T' keep'; (try dsimp only); (refine env_let ?_; intro ev Ak); (try k_fold))
  k_steps
  all_goals first | ((try subst_vars); (with_reducible rename Nd _ => nd'); refine' fin (s := s) keep' ?zF ?zN ?zG ?zM nd' ?zE ?zT ret; (case zF => k_asm); (case zN => k_asm); (case zG => k_asm); (case zM => k_asm); (case zT => k_dflt walk_at "take"); (case zE => exact rfl)) | (exfalso; omega)
set_option maxHeartbeats 8000000 in
theorem con_put (w : World) {x dx pw q dq : Nat} {iss ring mss nx gr room : Int} {ks kq : Nat → Tok} {o : Array UInt8} {tx : Tok} (HH : ((o.size : Int) ≤ room) ∧ (o.size ≤ 100) ∧ True) :
    Con 4 w 816 [(x, instObj 967 dx), (dx, D_snd w ks iss ring mss iss nx gr pw q true), (q, instObj 734 dq), (dq, D_que w kq room #[])] ⟨[.ref x, .bytes o tx], []⟩ (fun C => ∀ (y : Tok), ∀ (iv : Int), ∀ (kq' : Nat → Tok), C (.int iv y) [(x, instObj 967 dx), (dx, D_snd w ks iss ring mss iss nx gr pw q true), (q, instObj 734 dq), (dq, D_que w kq' room o)]) := by
  refine ⟨fun _ _ hkZ hPZ y iv kq'  => hkZ _ _ (hPZ y iv kq' ), ?_⟩
  obtain ⟨hz, hz2, _⟩ := HH
  w_on
  unfold Kf P0
  k_fill
  intro view loose mean mg mb dp un gd cn cs ca ccd cl outer A₀ base h₀ L m s R B F X N D T hk hd hu ret
  try dsimp only [addrs] at D
  dsimp only at ret
  k_dflt (refine' code_frame ?k1 ?k2 ?k3 ?k4 ?k5 ?kA ?kF ?kK ?k6 ?k7 ?k8 ?k9 ?kB ?_ ?c2 ?c3 ?c4 ?c5; (case kA => exact rfl); (case kF => exact rfl); (case kK => assumption); (case k1 => k_asm); (case k2 => k_asm); (case k3 => k_asm); (case k4 => k_asm); (case k5 => k_asm); (case k6 => k_is); (case k7 => k_is); (case k8 => k_room); (case k9 => first | exact BindsTo.of_eq rfl | exact binds_K (by k_in) rfl (by k_is) rfl rfl rfl); (case c5 => decide); (case kB => exact locs rfl); (case c2 => exact rfl); (case c3 => exact rfl); (case c4 => exact rfl); k_whole; intro g' L' h' FG' F' N' B' X' T' keep'; (try dsimp only); (refine env_let ?_; intro ev Ak); (try k_fold))
  k_steps
  all_goals first | ((try subst_vars); (with_reducible rename Nd _ => nd'); refine' fin (s := s) keep' ?zF ?zN ?zG ?zM nd' ?zE ?zT (ret _ _ (kf [_, _, _, _])); (case zF => k_asm); (case zN => k_asm); (case zG => k_asm); (case zM => k_asm); (case zT => k_dflt walk_at "take"); (case zE => exact rfl)) | (exfalso; omega)
set_option maxHeartbeats 8000000 in
theorem con_acked (w : World) {x dx pw q dq : Nat} {iss ring mss room : Int} {ks kq : Nat → Tok} {ta : Tok} {o : Array UInt8} (HH : (o.size ≤ 100) ∧ (2 < ring) ∧ (0 ≤ iss) ∧ (iss < ring) ∧ True) :
    Con 4 w 964 [(x, instObj 967 dx), (dx, D_snd w ks iss ring mss iss ((iss + 1) % ring) ((iss + 1) % ring) pw q true), (q, instObj 734 dq), (dq, D_que w kq room o)] ⟨[.ref x, .int ((iss + 1) % ring) ta], []⟩ (fun C => ∀ (T : Nat), ∀ (iv : Int), ∀ (fb : Bool), ∀ (y : Tok), ∀ (ks' : Nat → Tok), ∀ (kq' : Nat → Tok), (iv = 0) → (fb = false) → C (.ref T) [(x, instObj 967 dx), (dx, D_snd w ks' iss ring mss ((iss + 1) % ring) ((iss + 1) % ring) ((iss + 1) % ring) pw q false), (q, instObj 734 dq), (dq, D_que w kq' room o), (T, { cls := .type "tuple", data := .seq #[.int iv y, .bool true, .bool fb] })]) := by
  refine ⟨fun _ _ hkZ hPZ T iv fb y ks' kq' fZ0 fZ1 => hkZ _ _ (hPZ T iv fb y ks' kq' fZ0 fZ1), ?_⟩
  obtain ⟨hz2, hr, hi, hi2, _⟩ := HH
  w_on
  unfold Kf P0
  k_fill
  intro view loose mean mg mb dp un gd cn cs ca ccd cl outer A₀ base h₀ L m s R B F X N D T hk hd hu ret
  try dsimp only [addrs] at D
  dsimp only at ret
  k_dflt (refine' code_frame ?k1 ?k2 ?k3 ?k4 ?k5 ?kA ?kF ?kK ?k6 ?k7 ?k8 ?k9 ?kB ?_ ?c2 ?c3 ?c4 ?c5; (case kA => exact rfl); (case kF => exact rfl); (case kK => assumption); (case k1 => k_asm); (case k2 => k_asm); (case k3 => k_asm); (case k4 => k_asm); (case k5 => k_asm); (case k6 => k_is); (case k7 => k_is); (case k8 => k_room); (case k9 => first | exact BindsTo.of_eq rfl | exact binds_K (by k_in) rfl (by k_is) rfl rfl rfl); (case c5 => decide); (case kB => exact locs rfl); (case c2 => exact rfl); (case c3 => exact rfl); (case c4 => exact rfl); k_whole; intro g' L' h' FG' F' N' B' X' T' keep'; (try dsimp only); (refine env_let ?_; intro ev Ak); (try k_fold))
  have gA := gap1 hr hi hi2
  k_steps
  all_goals first | ((try subst_vars); (with_reducible rename Nd _ => nd'); refine' fin (s := s) keep' ?zF ?zN ?zG ?zM nd' ?zE ?zT (ret _ _ _ _ (kf [_, _, _, _, _, _, _, _, _, _, _, _, _, _, _, _, _]) (kf [_, _, _, _]) ?_ ?_); (case zF => k_asm); (case zN => k_asm); (case zG => k_asm); (case zM => k_asm); (case zT => k_dflt walk_at "take"); (case zE => exact rfl); all_goals first | assumption | omega | rfl | exact decide_eq_false (by omega) | exact decide_eq_true (by omega) | (simp only [if_true]; first | omega | exact decide_eq_false (by omega))) | (exfalso; omega)
set_option maxHeartbeats 8000000 in
theorem con_mopt (w : World) {n : Int} {tn : Tok} (HH : (0 ≤ n) ∧ (n ≤ 65535) ∧ True) :
    Con 1 w 129 [] ⟨[.int n tn], []⟩ (fun C => ∀ (tv : Tok), C (.bytes #[(2 : Int).toNat.toUInt8, (4 : Int).toNat.toUInt8, (n / 256 % 256).toNat.toUInt8, (n % 256).toNat.toUInt8] tv) []) := by
  refine ⟨fun _ _ hkZ hPZ tv  => hkZ _ _ (hPZ tv ), ?_⟩
  obtain ⟨h0, h1, _⟩ := HH
  w_on
  unfold Kf P0
  k_fill
  intro view loose mean mg mb dp un gd cn cs ca ccd cl outer A₀ base h₀ L m s R B F X N D T hk hd hu ret
  try dsimp only [addrs] at D
  dsimp only at ret
  k_dflt (refine' code_frame ?k1 ?k2 ?k3 ?k4 ?k5 ?kA ?kF ?kK ?k6 ?k7 ?k8 ?k9 ?kB ?_ ?c2 ?c3 ?c4 ?c5; (case kA => exact rfl); (case kF => exact rfl); (case kK => assumption); (case k1 => k_asm); (case k2 => k_asm); (case k3 => k_asm); (case k4 => k_asm); (case k5 => k_asm); (case k6 => k_is); (case k7 => k_is); (case k8 => k_room); (case k9 => first | exact BindsTo.of_eq rfl | exact binds_K (by k_in) rfl (by k_is) rfl rfl rfl); (case c5 => decide); (case kB => exact locs rfl); (case c2 => exact rfl); (case c3 => exact rfl); (case c4 => exact rfl); k_whole; intro g' L' h' FG' F' N' B' X' T' keep'; (try dsimp only); (refine env_let ?_; intro ev Ak); (try k_fold))
  k_steps
  all_goals first | ((try subst_vars); (with_reducible rename Nd _ => nd'); refine' fin (s := s) keep' ?zF ?zN ?zG ?zM nd' ?zE ?zT (ret _); (case zF => k_asm); (case zN => k_asm); (case zG => k_asm); (case zM => k_asm); (case zT => k_dflt walk_at "take"); (case zE => exact rfl)) | (exfalso; omega)
set_option maxHeartbeats 8000000 in
theorem con_wheel (w : World) {x dx : Nat} (HH : True) :
    Con 1 w 984 [(x, instObj 1034 dx), (dx, dictOf [] 0)] ⟨[.ref x], []⟩ (fun C => ∀ (sl la e : Nat), ∀ (kw : Nat → Tok), ∀ (oe : Obj), ((e == sysModules) = false) → (oe.IsDictOf (PySem.intKind P0 w) []) → C (.none) [(x, instObj 1034 dx), (dx, D_whl w kw sl la e), (e, oe)]) := by
  refine ⟨fun _ _ hkZ hPZ sl la e kw oe fZ0 fZ1 => hkZ _ _ (hPZ sl la e kw oe fZ0 fZ1), ?_⟩
  w_on
  unfold Kf P0
  k_fill
  intro view loose mean mg mb dp un gd cn cs ca ccd cl outer A₀ base h₀ L m s R B F X N D T hk hd hu ret
  try dsimp only [addrs] at D
  dsimp only at ret
  k_dflt (refine' code_frame ?k1 ?k2 ?k3 ?k4 ?k5 ?kA ?kF ?kK ?k6 ?k7 ?k8 ?k9 ?kB ?_ ?c2 ?c3 ?c4 ?c5; (case kA => exact rfl); (case kF => exact rfl); (case kK => assumption); (case k1 => k_asm); (case k2 => k_asm); (case k3 => k_asm); (case k4 => k_asm); (case k5 => k_asm); (case k6 => k_is); (case k7 => k_is); (case k8 => k_room); (case k9 => first | exact BindsTo.of_eq rfl | exact binds_K (by k_in) rfl (by k_is) rfl rfl rfl); (case c5 => decide); (case kB => exact locs rfl); (case c2 => exact rfl); (case c3 => exact rfl); (case c4 => exact rfl); k_whole; intro g' L' h' FG' F' N' B' X' T' keep'; (try dsimp only); (refine env_let ?_; intro ev Ak); (try k_fold))
  k_steps
  all_goals ((with_reducible rename Nd _ => nd'); (with_reducible rename _ ∧ _ ∧ _ ∧ _ => lz); refine' fin3 (s := s) keep' ?zF (cb_drop ?zN ?zS) ?zG (cb_drop ?zM ?zT) ?zD (ret _ _ _ (kf [_, _, _, _, _, _, _, _]) _ ?_ ?_); (case zF => k_asm); (case zN => k_asm); (case zS => k_dflt ((repeat (refine List.forall_mem_cons.mpr ⟨?_, ?_⟩; k_mem)); exact List.forall_mem_nil _)); (case zG => k_asm); (case zM => k_asm); (case zT => k_dflt ((repeat (refine List.forall_mem_cons.mpr ⟨?_, ?_⟩; k_mem)); exact List.forall_mem_nil _)); (case zD => exact nd_w lz nd'); all_goals assumption)
set_option maxHeartbeats 8000000 in
theorem con_sender (w : World) {x dx : Nat} {iss ring mss room : Int} {ti tr tm to : Tok} (HH : (1 ≤ room) ∧ (room < 2 ^ 40) ∧ True) :
    Con 1 w 794 [(x, instObj 967 dx), (dx, dictOf [] 0)] ⟨[.ref x, .int iss ti, .int ring tr, .int mss tm, .int room to], []⟩ (fun C => ∀ (pw q dq : Nat), ∀ (ks : Nat → Tok), ∀ (kq : Nat → Tok), C (.none) [(x, instObj 967 dx), (dx, D_snd w ks iss ring mss iss iss iss pw q true), (q, instObj 734 dq), (dq, D_que w kq room #[])]) := by
  refine ⟨fun _ _ hkZ hPZ pw q dq ks kq  => hkZ _ _ (hPZ pw q dq ks kq ), ?_⟩
  obtain ⟨h1, h2, _⟩ := HH
  w_on
  unfold Kf P0
  k_fill
  intro view loose mean mg mb dp un gd cn cs ca ccd cl outer A₀ base h₀ L m s R B F X N D T hk hd hu ret
  try dsimp only [addrs] at D
  dsimp only at ret
  k_dflt (refine' code_frame ?k1 ?k2 ?k3 ?k4 ?k5 ?kA ?kF ?kK ?k6 ?k7 ?k8 ?k9 ?kB ?_ ?c2 ?c3 ?c4 ?c5; (case kA => exact rfl); (case kF => exact rfl); (case kK => assumption); (case k1 => k_asm); (case k2 => k_asm); (case k3 => k_asm); (case k4 => k_asm); (case k5 => k_asm); (case k6 => k_is); (case k7 => k_is); (case k8 => k_room); (case k9 => first | exact BindsTo.of_eq rfl | exact binds_K (by k_in) rfl (by k_is) rfl rfl rfl); (case c5 => decide); (case kB => exact locs rfl); (case c2 => exact rfl); (case c3 => exact rfl); (case c4 => exact rfl); k_whole; intro g' L' h' FG' F' N' B' X' T' keep'; (try dsimp only); (refine env_let ?_; intro ev Ak); (try k_fold))
  k_steps
  all_goals first | ((try subst_vars); (with_reducible rename Nd _ => nd'); refine' fin (s := s) keep' ?zF ?zN ?zG ?zM nd' ?zE ?zT (ret _ _ _ (kf [_, _, _, _, _, _, _, _, _, _, _, _, _, _, _, _, _]) (kf [_, _, _, _])); (case zF => k_asm); (case zN => k_asm); (case zG => k_asm); (case zM => k_asm); (case zT => k_dflt walk_at "take"); (case zE => exact rfl)) | (exfalso; omega)
set_option maxHeartbeats 8000000 in
theorem con_cong (w : World) {x dx : Nat} {mss first most : Int} {tm tf to : Tok} (HH : True) :
    Con 1 w 472 [(x, instObj 545 dx), (dx, dictOf [] 0)] ⟨[.ref x, .int mss tm, .int first tf, .int most to], []⟩ (fun C => C (.none) [(x, instObj 545 dx)]) := by
  refine ⟨fun _ _ hkZ hPZ => hkZ _ _ hPZ, ?_⟩
  w_on
  unfold Kf P0
  k_fill
  intro view loose mean mg mb dp un gd cn cs ca ccd cl outer A₀ base h₀ L m s R B F X N D T hk hd hu ret
  try dsimp only [addrs] at D
  dsimp only at ret
  k_dflt (refine' code_frame ?k1 ?k2 ?k3 ?k4 ?k5 ?kA ?kF ?kK ?k6 ?k7 ?k8 ?k9 ?kB ?_ ?c2 ?c3 ?c4 ?c5; (case kA => exact rfl); (case kF => exact rfl); (case kK => assumption); (case k1 => k_asm); (case k2 => k_asm); (case k3 => k_asm); (case k4 => k_asm); (case k5 => k_asm); (case k6 => k_is); (case k7 => k_is); (case k8 => k_room); (case k9 => first | exact BindsTo.of_eq rfl | exact binds_K (by k_in) rfl (by k_is) rfl rfl rfl); (case c5 => decide); (case kB => exact locs rfl); (case c2 => exact rfl); (case c3 => exact rfl); (case c4 => exact rfl); k_whole; intro g' L' h' FG' F' N' B' X' T' keep'; (try dsimp only); (refine env_let ?_; intro ev Ak); (try k_fold))
  k_steps
  all_goals first | ((try subst_vars); (with_reducible rename Nd _ => nd'); refine' fin (s := s) keep' ?zF ?zN ?zG ?zM nd' ?zE ?zT ret; (case zF => k_asm); (case zN => k_asm); (case zG => k_asm); (case zM => k_asm); (case zT => k_dflt walk_at "take"); (case zE => exact rfl)) | (exfalso; omega)
set_option maxHeartbeats 8000000 in
theorem con_acks (w : World) {x dx : Nat} {d : Int} {td : Tok} (HH : True) :
    Con 1 w 415 [(x, instObj 454 dx), (dx, dictOf [] 0)] ⟨[.ref x, .int d td], []⟩ (fun C => ∀ (ka : Nat → Tok), C (.none) [(x, instObj 454 dx), (dx, D_ack w ka d)]) := by
  refine ⟨fun _ _ hkZ hPZ ka  => hkZ _ _ (hPZ ka ), ?_⟩
  w_on
  unfold Kf P0
  k_fill
  intro view loose mean mg mb dp un gd cn cs ca ccd cl outer A₀ base h₀ L m s R B F X N D T hk hd hu ret
  try dsimp only [addrs] at D
  dsimp only at ret
  k_dflt (refine' code_frame ?k1 ?k2 ?k3 ?k4 ?k5 ?kA ?kF ?kK ?k6 ?k7 ?k8 ?k9 ?kB ?_ ?c2 ?c3 ?c4 ?c5; (case kA => exact rfl); (case kF => exact rfl); (case kK => assumption); (case k1 => k_asm); (case k2 => k_asm); (case k3 => k_asm); (case k4 => k_asm); (case k5 => k_asm); (case k6 => k_is); (case k7 => k_is); (case k8 => k_room); (case k9 => first | exact BindsTo.of_eq rfl | exact binds_K (by k_in) rfl (by k_is) rfl rfl rfl); (case c5 => decide); (case kB => exact locs rfl); (case c2 => exact rfl); (case c3 => exact rfl); (case c4 => exact rfl); k_whole; intro g' L' h' FG' F' N' B' X' T' keep'; (try dsimp only); (refine env_let ?_; intro ev Ak); (try k_fold))
  k_steps
  all_goals first | ((try subst_vars); (with_reducible rename Nd _ => nd'); refine' fin (s := s) keep' ?zF ?zN ?zG ?zM nd' ?zE ?zT (ret (kf [_, _, _, _, _, _])); (case zF => k_asm); (case zN => k_asm); (case zG => k_asm); (case zM => k_asm); (case zT => k_dflt walk_at "take"); (case zE => exact rfl)) | (exfalso; omega)
set_option maxHeartbeats 8000000 in
theorem con_clock (w : World) {li dl : Nat} {v0 v1 v2 v3 v4 v5 v6 v7 v8 v9 : Int} {kl : Nat → Tok} (HH : True) :
    Con 1 w 1066 [(li, instObj 1055 dl), (dl, D_lim w kl v0 v1 v2 v3 v4 v5 v6 v7 v8 v9)] ⟨[.ref li], []⟩ (fun C => ∀ (c : Nat), C (.ref c) [(li, instObj 1055 dl), (dl, D_lim w kl v0 v1 v2 v3 v4 v5 v6 v7 v8 v9)]) := by
  refine ⟨fun _ _ hkZ hPZ c  => hkZ _ _ (hPZ c ), ?_⟩
  w_on
  unfold Kf P0
  k_fill
  intro view loose mean mg mb dp un gd cn cs ca ccd cl outer A₀ base h₀ L m s R B F X N D T hk hd hu ret
  try dsimp only [addrs] at D
  dsimp only at ret
  k_dflt (refine' code_frame ?k1 ?k2 ?k3 ?k4 ?k5 ?kA ?kF ?kK ?k6 ?k7 ?k8 ?k9 ?kB ?_ ?c2 ?c3 ?c4 ?c5; (case kA => exact rfl); (case kF => exact rfl); (case kK => assumption); (case k1 => k_asm); (case k2 => k_asm); (case k3 => k_asm); (case k4 => k_asm); (case k5 => k_asm); (case k6 => k_is); (case k7 => k_is); (case k8 => k_room); (case k9 => first | exact BindsTo.of_eq rfl | exact binds_K (by k_in) rfl (by k_is) rfl rfl rfl); (case c5 => decide); (case kB => exact locs rfl); (case c2 => exact rfl); (case c3 => exact rfl); (case c4 => exact rfl); k_whole; intro g' L' h' FG' F' N' B' X' T' keep'; (try dsimp only); (refine env_let ?_; intro ev Ak); (try k_fold))
  k_steps
  all_goals first | ((try subst_vars); (with_reducible rename Nd _ => nd'); refine' fin (s := s) keep' ?zF ?zN ?zG ?zM nd' ?zE ?zT (ret _); (case zF => k_asm); (case zN => k_asm); (case zG => k_asm); (case zM => k_asm); (case zT => k_dflt walk_at "take"); (case zE => exact rfl)) | (exfalso; omega)
set_option maxHeartbeats 8000000 in
theorem con_limits (w : World) {li dl : Nat} {v0 v1 v2 v3 v4 v5 v6 v7 v8 v9 : Int} {u0 u1 u2 u3 u4 u5 u6 u7 u8 u9 : Tok} (HH : True) :
    Con 1 w 1052 [(li, instObj 1055 dl), (dl, dictOf [] 0)] ⟨[.ref li, .int v0 u0, .int v1 u1, .int v2 u2, .int v3 u3, .int v4 u4, .int v5 u5, .int v6 u6, .int v7 u7, .int v8 u8, .int v9 u9], []⟩ (fun C => ∀ (kl : Nat → Tok), C (.none) [(li, instObj 1055 dl), (dl, D_lim w kl v0 v1 v2 v3 v4 v5 v6 v7 v8 v9)]) := by
  refine ⟨fun _ _ hkZ hPZ kl  => hkZ _ _ (hPZ kl ), ?_⟩
  w_on
  unfold Kf P0
  k_fill
  intro view loose mean mg mb dp un gd cn cs ca ccd cl outer A₀ base h₀ L m s R B F X N D T hk hd hu ret
  try dsimp only [addrs] at D
  dsimp only at ret
  k_dflt (refine' code_frame ?k1 ?k2 ?k3 ?k4 ?k5 ?kA ?kF ?kK ?k6 ?k7 ?k8 ?k9 ?kB ?_ ?c2 ?c3 ?c4 ?c5; (case kA => exact rfl); (case kF => exact rfl); (case kK => assumption); (case k1 => k_asm); (case k2 => k_asm); (case k3 => k_asm); (case k4 => k_asm); (case k5 => k_asm); (case k6 => k_is); (case k7 => k_is); (case k8 => k_room); (case k9 => first | exact BindsTo.of_eq rfl | exact binds_K (by k_in) rfl (by k_is) rfl rfl rfl); (case c5 => decide); (case kB => exact locs rfl); (case c2 => exact rfl); (case c3 => exact rfl); (case c4 => exact rfl); k_whole; intro g' L' h' FG' F' N' B' X' T' keep'; (try dsimp only); (refine env_let ?_; intro ev Ak); (try k_fold))
  k_steps
  all_goals first | ((try subst_vars); (with_reducible rename Nd _ => nd'); refine' fin (s := s) keep' ?zF ?zN ?zG ?zM nd' ?zE ?zT (ret (kf [_, _, _, _, _, _, _, _, _, _, _, _, _, _, _, _, _, _, _, _])); (case zF => k_asm); (case zN => k_asm); (case zG => k_asm); (case zM => k_asm); (case zT => k_dflt walk_at "take"); (case zE => exact rfl)) | (exfalso; omega)
set_option maxHeartbeats 8000000 in
theorem con_recv (w : World) {x dx : Nat} {irs ring room mss : Int} {ti tr to tm : Tok} (HH : (0 < ring) ∧ True) :
    ConX codeC 2 w 282 [(x, instObj 397 dx), (dx, dictOf [] 0)] ⟨[.ref x, .int irs ti, .int ring tr, .int room to, .int mss tm], []⟩ (fun C => ∀ (bya am : Nat), ∀ (nx te : Int), ∀ (kr : Nat → Tok), ∀ (nb : Nat), (nx = (irs + 1) % ring) → (te = (nx + room) % ring) → C (.none) [(x, instObj 397 dx), (dx, D_rcv w kr ring room mss nx te bya am), (bya, { cls := .type "bytearray", data := .bytearray #[] nb })]) := by
  refine ⟨fun _ _ hkZ hPZ bya am nx te kr nb fZ0 fZ1 => hkZ _ _ (hPZ bya am nx te kr nb fZ0 fZ1), ?_⟩
  obtain ⟨h0, _⟩ := HH
  w_on
  unfold Kf P0
  k_fill
  intro view loose mean mg mb dp un gd cn cs ca ccd cl outer A₀ base h₀ L m s R B F X N D T hk hd hu ret
  try dsimp only [addrs] at D
  dsimp only at ret
  k_dflt (refine' codeC_frame ?k1 ?k2 ?k3 ?k4 ?k5 ?kA ?kF ?kK ?k6 ?k7 ?k8 ?k9 ?kB ?_ ?c2 ?c3 ?c4 ?c5; (case kA => exact rfl); (case kF => exact rfl); (case kK => assumption); (case k1 => k_asm); (case k2 => k_asm); (case k3 => k_asm); (case k4 => k_asm); (case k5 => k_asm); (case k6 => k_is); (case k7 => k_is); (case k8 => k_room); (case k9 => first | exact BindsTo.of_eq rfl | exact binds_K (by k_in) rfl (by k_is) rfl rfl rfl); (case c5 => decide); (case kB => exact locs rfl); (case c2 => exact rfl); (case c3 => exact rfl); (case c4 => exact rfl); k_whole; intro g' L' h' FG' F' N' B' X' T' keep'; (try dsimp only); skip)
  refine wpC_split 4 ?_
  dsimp only [List.take, List.drop]
  k_steps
  try dsimp only
  refine wpC_cons (wpC_AssignCall (wpC_evalCall ?_))
  k_steps
  rename Fr _ _ _ _ => F9
  rename News _ _ _ _ => N9
  refine ba_K F9 N9 ?_
  clear F9 N9
  intro b' h' F' N' l1
  k_lt l1
  try k_sweep
  k_steps
  try dsimp only
  refine wpC_any ?_
  k_steps
  all_goals first | ((try subst_vars); (with_reducible rename Nd _ => nd'); refine' fin (s := s) keep' ?zF ?zN ?zG ?zM nd' ?zE ?zT (ret _ _ _ _ (kf [_, _, _, _, _, _, _, _, _, _, _, _, _, _, _]) _ ?_ ?_); (case zF => k_asm); (case zN => k_asm); (case zG => k_asm); (case zM => k_asm); (case zT => k_dflt walk_at "take"); (case zE => exact rfl); all_goals first | assumption | omega | rfl | exact decide_eq_false (by omega) | exact decide_eq_true (by omega) | (simp only [if_true]; first | omega | exact decide_eq_false (by omega))) | (exfalso; omega)
local macro_rules | `(tactic| walk_at "con") => `(tactic| first | ((with_reducible show ConX _ _ _ 794 _ _ _); refine' con_sender _ ?mH) | ((with_reducible show ConX _ _ _ 472 _ _ _); refine' con_cong _ ?mH) | ((with_reducible show ConX _ _ _ 415 _ _ _); refine' con_acks _ ?mH) | ((with_reducible show ConX _ _ _ 984 _ _ _); refine' con_wheel _ ?mH) | ((with_reducible show ConX _ _ _ 1066 _ _ _); refine' con_clock _ ?mH) | ((with_reducible show ConX _ _ _ 129 _ _ _); refine' con_mopt _ ?mH))
set_option maxHeartbeats 8000000 in
theorem con_tcb (w : World) {t dt li dl lo re : Nat} {iss : Int} {ti : Tok} {v0 v1 v2 v3 v4 v5 v6 v7 v8 v9 : Int} {kl : Nat → Tok} (HH : (1 ≤ v1) ∧ (v1 < 2 ^ 40) ∧ (1 ≤ v2) ∧ (v2 < 2 ^ 40) ∧ True) :
    Con 4 w 1080 [(t, instObj 1098 dt), (dt, dictOf [] 0), (li, instObj 1055 dl), (dl, D_lim w kl v0 v1 v2 v3 v4 v5 v6 v7 v8 v9)] ⟨[.ref t, .ref li, .ref lo, .ref re, .int iss ti], []⟩ (fun C => ∀ (s ds q dq c cg a da wh dwh e sl la pw : Nat), ∀ (kt : Nat → Tok), ∀ (ks : Nat → Tok), ∀ (kq : Nat → Tok), ∀ (ka : Nat → Tok), ∀ (kw : Nat → Tok), ∀ (oe : Obj), ((e == sysModules) = false) → (oe.IsDictOf (PySem.intKind P0 w) []) → C (.none) [(t, instObj 1098 dt), (dt, D_tcb w kt li lo re s c cg a wh .none), (li, instObj 1055 dl), (dl, D_lim w kl v0 v1 v2 v3 v4 v5 v6 v7 v8 v9), (s, instObj 967 ds), (ds, D_snd w ks iss v0 v1 iss iss iss pw q true), (q, instObj 734 dq), (dq, D_que w kq v2 #[]), (a, instObj 454 da), (da, D_ack w ka v8), (wh, instObj 1034 dwh), (dwh, D_whl w kw sl la e), (e, oe)]) := by
  refine ⟨fun _ _ hkZ hPZ s ds q dq c cg a da wh dwh e sl la pw kt ks kq ka kw oe fZ0 fZ1 => hkZ _ _ (hPZ s ds q dq c cg a da wh dwh e sl la pw kt ks kq ka kw oe fZ0 fZ1), ?_⟩
  obtain ⟨h1, h1', h2, h2', _⟩ := HH
  w_on
  unfold Kf P0
  k_fill
  intro view loose mean mg mb dp un gd cn cs ca ccd cl outer A₀ base h₀ L m s R B F X N D T hk hd hu ret
  try dsimp only [addrs] at D
  dsimp only at ret
  k_dflt (refine' code_frame ?k1 ?k2 ?k3 ?k4 ?k5 ?kA ?kF ?kK ?k6 ?k7 ?k8 ?k9 ?kB ?_ ?c2 ?c3 ?c4 ?c5; (case kA => exact rfl); (case kF => exact rfl); (case kK => assumption); (case k1 => k_asm); (case k2 => k_asm); (case k3 => k_asm); (case k4 => k_asm); (case k5 => k_asm); (case k6 => k_is); (case k7 => k_is); (case k8 => k_room); (case k9 => first | exact BindsTo.of_eq rfl | exact binds_K (by k_in) rfl (by k_is) rfl rfl rfl); (case c5 => decide); (case kB => exact locs rfl); (case c2 => exact rfl); (case c3 => exact rfl); (case c4 => exact rfl); k_whole; intro g' L' h' FG' F' N' B' X' T' keep'; (try dsimp only); (refine env_let ?_; intro ev Ak); (try k_fold))
  k_steps
  all_goals first | ((try subst_vars); (with_reducible rename Nd _ => nd'); refine' fin (s := s) keep' ?zF ?zN ?zG ?zM nd' ?zE ?zT (ret _ _ _ _ _ _ _ _ _ _ _ _ _ _ (kf [_, _, _, _, _, _, _, _, _, _, _, _, _, _, _, _, _]) _ _ _ _ _ ?_ ?_); (case zF => k_asm); (case zN => k_asm); (case zG => k_asm); (case zM => k_asm); (case zT => k_dflt walk_at "take"); (case zE => exact rfl); all_goals first | assumption | omega | rfl | exact decide_eq_false (by omega) | exact decide_eq_true (by omega) | (simp only [if_true]; first | omega | exact decide_eq_false (by omega))) | (exfalso; omega)
def tupO (a b : Int) (t u : Tok) : Obj := { cls := .type "tuple", data := .seq #[.int a t, .int b u] }
@[irreducible] def TL (w : World) (d : Nat → Nat) (v : Nat → Int) (oe : Obj) (kt : Nat → Tok) (kl : Nat → Tok) (ks : Nat → Tok) (kq : Nat → Tok) (ka : Nat → Tok) (kw : Nat → Tok) (rv : Value) (iss : Int) (una : Int) (nx : Int) (gr : Int) (sp : Bool) (held : Array UInt8) (tl : List (Addr × Obj)) : List (Addr × Obj) := ((d 0), instObj 1098 (d 1)) :: ((d 1), D_tcb w kt (d 2) (d 4) (d 5) (d 6) (d 10) (d 11) (d 12) (d 14) rv) :: ((d 2), instObj 1055 (d 3)) :: ((d 3), D_lim w kl (v 0) (v 1) (v 2) (v 3) (v 4) (v 5) (v 6) (v 7) (v 8) (v 9)) :: ((d 4), tupO 1 80 (kt 20) (kt 21)) :: ((d 5), tupO 2 90 (kt 22) (kt 23)) :: ((d 6), instObj 967 (d 7)) :: ((d 7), D_snd w ks iss (v 0) (v 1) una nx gr (d 17) (d 8) sp) :: ((d 8), instObj 734 (d 9)) :: ((d 9), D_que w kq (v 2) held) :: ((d 12), instObj 454 (d 13)) :: ((d 13), D_ack w ka (v 8)) :: ((d 14), instObj 1034 (d 15)) :: ((d 15), D_whl w kw (d 18) (d 19) (d 16)) :: ((d 16), oe) :: tl
@[irreducible] def RL (w : World) (e : Nat → Nat) (nb : Nat) (kr : Nat → Tok) (v : Nat → Int) (rn : Int) : List (Addr × Obj) := [((e 0), instObj 397 (e 1)), ((e 1), D_rcv w kr (v 0) (v 3) (v 1) rn ((rn + v 3) % v 0) (e 2) (e 3)), ((e 2), ({ cls := .type "bytearray", data := .bytearray #[] nb } : Obj))]
section
variable {w : World} {d : Nat → Nat} {v : Nat → Int} {oe : Obj} {kt : Nat → Tok} {kl : Nat → Tok} {ks : Nat → Tok} {kq : Nat → Tok} {ka : Nat → Tok} {kw : Nat → Tok} {rv : Value} {iss : Int} {una : Int} {nx : Int} {gr : Int} {sp : Bool} {held : Array UInt8} {tl : List (Addr × Obj)}
theorem tl_t : ((d 0), instObj 1098 (d 1)) ∈ TL w d v oe kt kl ks kq ka kw rv iss una nx gr sp held tl := by unfold TL; exact (.head _)
theorem tl_dt : ((d 1), D_tcb w kt (d 2) (d 4) (d 5) (d 6) (d 10) (d 11) (d 12) (d 14) rv) ∈ TL w d v oe kt kl ks kq ka kw rv iss una nx gr sp held tl := by unfold TL; exact (.tail _ (.head _))
theorem tl_li : ((d 2), instObj 1055 (d 3)) ∈ TL w d v oe kt kl ks kq ka kw rv iss una nx gr sp held tl := by unfold TL; exact (.tail _ (.tail _ (.head _)))
theorem tl_dl : ((d 3), D_lim w kl (v 0) (v 1) (v 2) (v 3) (v 4) (v 5) (v 6) (v 7) (v 8) (v 9)) ∈ TL w d v oe kt kl ks kq ka kw rv iss una nx gr sp held tl := by unfold TL; exact (.tail _ (.tail _ (.tail _ (.head _))))
theorem tl_lo : ((d 4), tupO 1 80 (kt 20) (kt 21)) ∈ TL w d v oe kt kl ks kq ka kw rv iss una nx gr sp held tl := by unfold TL; exact (.tail _ (.tail _ (.tail _ (.tail _ (.head _)))))
theorem tl_re : ((d 5), tupO 2 90 (kt 22) (kt 23)) ∈ TL w d v oe kt kl ks kq ka kw rv iss una nx gr sp held tl := by unfold TL; exact (.tail _ (.tail _ (.tail _ (.tail _ (.tail _ (.head _))))))
theorem tl_s : ((d 6), instObj 967 (d 7)) ∈ TL w d v oe kt kl ks kq ka kw rv iss una nx gr sp held tl := by unfold TL; exact (.tail _ (.tail _ (.tail _ (.tail _ (.tail _ (.tail _ (.head _)))))))
theorem tl_ds : ((d 7), D_snd w ks iss (v 0) (v 1) una nx gr (d 17) (d 8) sp) ∈ TL w d v oe kt kl ks kq ka kw rv iss una nx gr sp held tl := by unfold TL; exact (.tail _ (.tail _ (.tail _ (.tail _ (.tail _ (.tail _ (.tail _ (.head _))))))))
theorem tl_q : ((d 8), instObj 734 (d 9)) ∈ TL w d v oe kt kl ks kq ka kw rv iss una nx gr sp held tl := by unfold TL; exact (.tail _ (.tail _ (.tail _ (.tail _ (.tail _ (.tail _ (.tail _ (.tail _ (.head _)))))))))
theorem tl_dq : ((d 9), D_que w kq (v 2) held) ∈ TL w d v oe kt kl ks kq ka kw rv iss una nx gr sp held tl := by unfold TL; exact (.tail _ (.tail _ (.tail _ (.tail _ (.tail _ (.tail _ (.tail _ (.tail _ (.tail _ (.head _))))))))))
theorem tl_a : ((d 12), instObj 454 (d 13)) ∈ TL w d v oe kt kl ks kq ka kw rv iss una nx gr sp held tl := by unfold TL; exact (.tail _ (.tail _ (.tail _ (.tail _ (.tail _ (.tail _ (.tail _ (.tail _ (.tail _ (.tail _ (.head _)))))))))))
theorem tl_da : ((d 13), D_ack w ka (v 8)) ∈ TL w d v oe kt kl ks kq ka kw rv iss una nx gr sp held tl := by unfold TL; exact (.tail _ (.tail _ (.tail _ (.tail _ (.tail _ (.tail _ (.tail _ (.tail _ (.tail _ (.tail _ (.tail _ (.head _))))))))))))
theorem tl_wh : ((d 14), instObj 1034 (d 15)) ∈ TL w d v oe kt kl ks kq ka kw rv iss una nx gr sp held tl := by unfold TL; exact (.tail _ (.tail _ (.tail _ (.tail _ (.tail _ (.tail _ (.tail _ (.tail _ (.tail _ (.tail _ (.tail _ (.tail _ (.head _)))))))))))))
theorem tl_dwh : ((d 15), D_whl w kw (d 18) (d 19) (d 16)) ∈ TL w d v oe kt kl ks kq ka kw rv iss una nx gr sp held tl := by unfold TL; exact (.tail _ (.tail _ (.tail _ (.tail _ (.tail _ (.tail _ (.tail _ (.tail _ (.tail _ (.tail _ (.tail _ (.tail _ (.tail _ (.head _))))))))))))))
theorem tl_e : ((d 16), oe) ∈ TL w d v oe kt kl ks kq ka kw rv iss una nx gr sp held tl := by unfold TL; exact (.tail _ (.tail _ (.tail _ (.tail _ (.tail _ (.tail _ (.tail _ (.tail _ (.tail _ (.tail _ (.tail _ (.tail _ (.tail _ (.tail _ (.head _)))))))))))))))
theorem tl_r {p : Addr × Obj} (h : p ∈ tl) : p ∈ TL w d v oe kt kl ks kq ka kw rv iss una nx gr sp held tl := by unfold TL; exact (.tail _ (.tail _ (.tail _ (.tail _ (.tail _ (.tail _ (.tail _ (.tail _ (.tail _ (.tail _ (.tail _ (.tail _ (.tail _ (.tail _ (.tail _ h)))))))))))))))
end
theorem rl_r {w : World} {e : Nat → Nat} {nb : Nat} {kr : Nat → Tok} {v : Nat → Int} {rn : Int} : ((e 0), instObj 397 (e 1)) ∈ RL w e nb kr v rn := by unfold RL; exact (.head _)
theorem rl_dr {w : World} {e : Nat → Nat} {nb : Nat} {kr : Nat → Tok} {v : Nat → Int} {rn : Int} : ((e 1), D_rcv w kr (v 0) (v 3) (v 1) rn ((rn + v 3) % v 0) (e 2) (e 3)) ∈ RL w e nb kr v rn := by unfold RL; exact (.tail _ (.head _))
theorem rl_bya {w : World} {e : Nat → Nat} {nb : Nat} {kr : Nat → Tok} {v : Nat → Int} {rn : Int} : ((e 2), ({ cls := .type "bytearray", data := .bytearray #[] nb } : Obj)) ∈ RL w e nb kr v rn := by unfold RL; exact (.tail _ (.tail _ (.head _)))
inductive Suf (l : List (Addr × Obj)) : List (Addr × Obj) → List (Addr × Obj) → Prop
  | nil : Suf l l []
  | cons {p : Addr × Obj} {n r : List (Addr × Obj)} : Suf l n r → Suf l (p :: n) (p :: r)
theorem Suf.eq {l : List (Addr × Obj)} : ∀ {n r : List (Addr × Obj)}, Suf l n r → n = r ++ l
  | _, _, .nil => rfl
  | _, _, .cons s => by rw [s.eq]; rfl
theorem Del.app {p : Addr × Obj} : ∀ (r l : List (Addr × Obj)), Del p (r ++ p :: l) (r ++ l)
  | [], _ => .here
  | _ :: r, l => .there (Del.app r l)
theorem Take.app : ∀ (l r : List (Addr × Obj)), Take l (r ++ l) r
  | [], r => by rw [List.append_nil]; exact .nil
  | p :: l, r => .cons (Del.app r l) (Take.app l r)
theorem Take.of_suf {l n r : List (Addr × Obj)} (s : Suf l n r) : Take l n r := s.eq ▸ Take.app l r
theorem nd_perm {l l' : List (Addr × Obj)} (p : List.Perm l l') (D : Nd (addrs l)) : Nd (addrs l') := by
  have D : (addrs l).Nodup := D
  rw [addrs_map, (p.map _).nodup_iff] at D
  show (addrs l').Nodup
  rw [addrs_map]
  exact D
section
variable {w : World} {A A₀ : Around} {s : Shared} {L : Addr} {h₀ base : Heap} {m mg mb : Str → Option Value} {pre news rest : List (Addr × Obj)} {p : Program} {loose : List Str} {mean : ExcName → Option Value} {outer : List Env}
theorem ConX.atS {cd : CodeT} {lv : Nat} {f : Addr} {args : Args} {P : PostT} {dp un : Nat} {gd : Option (List Code)} {cn : Str} {cs : Scope} {ca : Addr} {ccd : Value} {cl : List (Str × Addr)} {R : Result → Shared → Prop} {as : List Nat} (C : ConX cd lv w f pre args P)
    (B : Below A₀ base outer h₀) (F : Fr h₀ L s.heap m) (X : (Kf w).In h₀) (N : News h₀ L s.heap news) (D : Nd as) (T : Top p loose mean mg mb h₀) (hk : cs.kind = .function) (hd : dp + 8 * lv < recursionLimit) (hu : un + 60 * lv < cLine)
    (t : Suf pre news rest) (e : addrs news = as)
    (ret : P (fun v post => ∀ h' tk', Fr h₀ L h' m → News h₀ L h' (rest ++ post) → Nd (addrs (rest ++ post)) → R (.ok (.ret v)) { s with heap := h', toks := tk' })) :
    cd (model P0 w) (ktrTop dp un gd cn cs L ca ccd cl outer) (.call (.ref f) args) R s :=
  C.at B F X N D T hk hd hu (Take.of_suf t) e (C.1 _ _ (fun _ _ k h' tk' F' N' D' => k h' tk' F' (fun q hq => N' q (List.perm_append_comm.mem_iff.mp hq)) (nd_perm List.perm_append_comm D')) ret)
theorem ConX.lift {cd : CodeT} {lv : Nat} {f : Addr} {args : Args} {P : PostT} {l : List (Addr × Obj)} (C : ConX cd lv w f pre args P) (t : Take pre l rest) :
    ConX cd lv w f l args (fun K => P (fun v post => ∃ l', List.Perm (post ++ rest) l' ∧ K v l')) := by
  refine ⟨fun K K' h => C.1 _ _ (fun v post ⟨l', p, k⟩ => ⟨l', p, h v l' k⟩), ?_⟩
  intro view loose mean mg mb dp un gd cn cs ca ccd cl outer A₀ base h₀ L m s R B F X N D T hk hd hu ret
  have hin : ∀ b, b ∈ pre.map (·.1) → b ∈ l.map (·.1) := fun b hb => by
    obtain ⟨q, hq, rfl⟩ := List.mem_map.mp hb
    exact List.mem_map_of_mem (t.sub q hq)
  refine C.2 _ _ _ _ _ _ _ _ _ _ _ _ _ _ _ _ _ _ _ _ _ B F X (fun q hq => N q (t.sub q hq)) (t.nd1 rfl D) T hk hd hu (C.1 _ _ (fun v post ⟨l', pm, k⟩ h' tk' F' N' D' ap => k h' tk' F' (fun q hq => ?_) (nd_perm pm ?_) (fun b o e n => ⟨(ap b o e fun x => n (hin b x)).1, fun q hq => ?_⟩)) ret)
  · rcases List.mem_append.mp (pm.mem_iff.mpr hq) with h | h
    · exact N' q h
    · have := N q (t.sub2 q h)
      exact ⟨(ap _ _ this.1 (t.apart rfl D q h)).1, this.2⟩
  · show (addrs (post ++ rest)).Nodup
    rw [addrs_map, List.map_append]
    refine List.nodup_append.mpr ⟨addrs_map post ▸ D', (List.nodup_append.mp (t.nd rfl D)).2.1, ?_⟩
    intro a ha b hb
    obtain ⟨q, hq, rfl⟩ := List.mem_map.mp ha
    obtain ⟨r, hr, rfl⟩ := List.mem_map.mp hb
    have := N r (t.sub2 r hr)
    exact (ap _ _ this.1 (t.apart rfl D r hr)).2 q hq
  · rcases List.mem_append.mp (pm.mem_iff.mpr hq) with h | h
    · exact (ap b o e fun x => n (hin b x)).2 q h
    · intro z
      exact n (z ▸ List.mem_map_of_mem (t.sub2 q h))
theorem ConX.wk {cd : CodeT} {lv : Nat} {f : Addr} {args : Args} {P P' : PostT} (C : ConX cd lv w f pre args P) (hm : Mono P') (h : ∀ K, P' K → P K) : ConX cd lv w f pre args P' :=
  ⟨hm, fun view loose mean mg mb dp un gd cn cs ca ccd cl outer A₀ base h₀ L m s R B F X N D T hk hd hu ret => C.2 view loose mean mg mb dp un gd cn cs ca ccd cl outer A₀ base h₀ L m s R B F X N D T hk hd hu (h _ ret)⟩
end
local macro_rules | `(tactic| k_mem) => `(tactic| ((first | (with_reducible show _ ∈ TL _ _ _ _ _ _ _ _ _ _ _ _ _ _ _ _ _ _) | (with_reducible show List.Mem _ (TL _ _ _ _ _ _ _ _ _ _ _ _ _ _ _ _ _ _))); first | exact tl_t | exact tl_dt | exact tl_li | exact tl_dl | exact tl_lo | exact tl_re | exact tl_s | exact tl_ds | exact tl_q | exact tl_dq | exact tl_a | exact tl_da | exact tl_wh | exact tl_dwh | exact tl_e | exact tl_r rl_r | exact tl_r rl_dr | exact tl_r rl_bya))
local macro_rules | `(tactic| walk_at "take") => `(tactic| ((with_reducible show Take (TL _ _ _ _ _ _ _ _ _ _ _ _ _ _ _ _ _ _) _ _); (refine' Take.of_suf ?tS; (case tS => walk_at "suf"))))
local macro_rules | `(tactic| walk_at "suf") => `(tactic| first | exact Suf.nil | (refine' Suf.cons ?sC; (case sC => walk_at "suf")))
local macro_rules | `(tactic| walk_at "use") => `(tactic| (refine' ConX.atS ?mC ?mB ?mF ?mX ?mN ?mD ?mT ?mK ?mR1 ?mU ?mS ?mE ?mR; (case' mC => walk_at "conT"); (case mB => k_asm); (case mF => k_asm); (case mX => k_asm); (case mN => k_asm); (case mT => k_asm); (case mK => first | exact rfl | assumption); (case mS => walk_at "suf"); (case mD => ((with_reducible rename Nd _ => nd'); exact nd')); (case mE => exact rfl); (case mR1 => k_room); (case mU => k_units); (try (case mH => walk_at "hyp")); (try (case mC => walk_at "hyp")); k_whole; walk_at "on"))
theorem con_start_T (w : World) {d : Nat → Nat} {v : Nat → Int} {oe : Obj} {kt : Nat → Tok} {kl : Nat → Tok} {ks : Nat → Tok} {kq : Nat → Tok} {ka : Nat → Tok} {kw : Nat → Tok} {rv : Value} {iss : Int} {nx : Int} {gr : Int} {held : Array UInt8} {tl : List (Addr × Obj)} (HH : (2 < v 0) ∧ (0 ≤ iss) ∧ (iss < v 0) ∧ (((nx = iss ∧ (gr = iss ∨ gr = ((iss + 1) % v 0))) ∨ (nx = ((iss + 1) % v 0) ∧ gr = ((iss + 1) % v 0)))) ∧ True) :
    Con 4 w 886 (TL w d v oe kt kl ks kq ka kw rv iss iss nx gr true held tl) ⟨[.ref (d 6)], []⟩ (fun C => ∀ (tv : Tok), ∀ (ks' : Nat → Tok), C (.int iss tv) (TL w d v oe kt kl ks' kq ka kw rv iss iss ((iss + 1) % v 0) ((iss + 1) % v 0) true held tl)) := by
  refine' ConX.wk (ConX.lift (con_start w HH) ?t) ?m ?h
  case t => unfold TL; walk_at "take"
  case m => exact fun _ _ h k tv ks'  => h _ _ (k tv ks' )
  case h =>
    intro K h tv ks' 
    refine' ⟨_, List.Perm.symm (Take.perm ?p), h tv ks' ⟩
    case p => unfold TL; walk_at "take"

theorem con_back_T (w : World) {d : Nat → Nat} {v : Nat → Int} {oe : Obj} {kt : Nat → Tok} {kl : Nat → Tok} {ks : Nat → Tok} {kq : Nat → Tok} {ka : Nat → Tok} {kw : Nat → Tok} {rv : Value} {iss : Int} {nx : Int} {gr : Int} {held : Array UInt8} {tl : List (Addr × Obj)} {ta : Tok} (HH : (0 < v 0) ∧ True) :
    Con 4 w 936 (TL w d v oe kt kl ks kq ka kw rv iss iss nx gr true held tl) ⟨[.ref (d 6), .int iss ta], []⟩ (fun C => ∀ (ks' : Nat → Tok), C (.none) (TL w d v oe kt kl ks' kq ka kw rv iss iss iss gr true held tl)) := by
  refine' ConX.wk (ConX.lift (con_back w HH) ?t) ?m ?h
  case t => unfold TL; walk_at "take"
  case m => exact fun _ _ h k ks'  => h _ _ (k ks' )
  case h =>
    intro K h ks' 
    refine' ⟨_, List.Perm.symm (Take.perm ?p), h ks' ⟩
    case p => unfold TL; walk_at "take"

theorem con_cancel_T (w : World) {d : Nat → Nat} {v : Nat → Int} {oe : Obj} {kt : Nat → Tok} {kl : Nat → Tok} {ks : Nat → Tok} {kq : Nat → Tok} {ka : Nat → Tok} {kw : Nat → Tok} {rv : Value} {iss : Int} {una : Int} {nx : Int} {gr : Int} {sp : Bool} {held : Array UInt8} {tl : List (Addr × Obj)} {tkey : Tok} (HH : ((d 16 == sysModules) = false) ∧ (oe.IsDictOf (PySem.intKind P0 w) []) ∧ True) :
    Con 2 w 1005 (TL w d v oe kt kl ks kq ka kw rv iss una nx gr sp held tl) ⟨[.ref (d 14), .int 3 tkey], []⟩ (fun C => C (.none) (TL w d v oe kt kl ks kq ka kw rv iss una nx gr sp held tl)) := by
  refine' ConX.wk (ConX.lift (con_cancel w HH) ?t) ?m ?h
  case t => unfold TL; walk_at "take"
  case m => exact fun _ _ h k   => h _ _ (k  )
  case h =>
    intro K h  
    refine' ⟨_, List.Perm.symm (Take.perm ?p), h  ⟩
    case p => unfold TL; walk_at "take"

theorem con_onsent_T (w : World) {d : Nat → Nat} {v : Nat → Int} {oe : Obj} {kt : Nat → Tok} {kl : Nat → Tok} {ks : Nat → Tok} {kq : Nat → Tok} {ka : Nat → Tok} {kw : Nat → Tok} {rv : Value} {iss : Int} {una : Int} {nx : Int} {gr : Int} {sp : Bool} {held : Array UInt8} {tl : List (Addr × Obj)} (HH : True) :
    Con 1 w 444 (TL w d v oe kt kl ks kq ka kw rv iss una nx gr sp held tl) ⟨[.ref (d 12)], []⟩ (fun C => ∀ (ka' : Nat → Tok), C (.none) (TL w d v oe kt kl ks kq ka' kw rv iss una nx gr sp held tl)) := by
  refine' ConX.wk (ConX.lift (con_onsent w HH) ?t) ?m ?h
  case t => unfold TL; walk_at "take"
  case m => exact fun _ _ h k ka'  => h _ _ (k ka' )
  case h =>
    intro K h ka' 
    refine' ⟨_, List.Perm.symm (Take.perm ?p), h ka' ⟩
    case p => unfold TL; walk_at "take"

theorem con_acked_T (w : World) {d : Nat → Nat} {v : Nat → Int} {oe : Obj} {kt : Nat → Tok} {kl : Nat → Tok} {ks : Nat → Tok} {kq : Nat → Tok} {ka : Nat → Tok} {kw : Nat → Tok} {rv : Value} {iss : Int} {held : Array UInt8} {tl : List (Addr × Obj)} {ta : Tok} (HH : (held.size ≤ 100) ∧ (2 < v 0) ∧ (0 ≤ iss) ∧ (iss < v 0) ∧ True) :
    Con 4 w 964 (TL w d v oe kt kl ks kq ka kw rv iss iss ((iss + 1) % v 0) ((iss + 1) % v 0) true held tl) ⟨[.ref (d 6), .int ((iss + 1) % v 0) ta], []⟩ (fun C => ∀ (T : Nat), ∀ (iv : Int), ∀ (fb : Bool), ∀ (y : Tok), ∀ (ks' : Nat → Tok), ∀ (kq' : Nat → Tok), (iv = 0) → (fb = false) → C (.ref T) ((T, { cls := .type "tuple", data := .seq #[.int iv y, .bool true, .bool fb] }) :: TL w d v oe kt kl ks' kq' ka kw rv iss ((iss + 1) % v 0) ((iss + 1) % v 0) ((iss + 1) % v 0) false held tl)) := by
  refine' ConX.wk (ConX.lift (con_acked w HH) ?t) ?m ?h
  case t => unfold TL; walk_at "take"
  case m => exact fun _ _ h k T iv fb y ks' kq' f0 f1 => h _ _ (k T iv fb y ks' kq' f0 f1)
  case h =>
    intro K h T iv fb y ks' kq' f0 f1
    refine' ⟨_, List.Perm.symm (Take.perm ?p), h T iv fb y ks' kq' f0 f1⟩
    case p => unfold TL; walk_at "take"

theorem con_window_T (w : World) {d : Nat → Nat} {v : Nat → Int} {oe : Obj} {kt : Nat → Tok} {kl : Nat → Tok} {ks : Nat → Tok} {kq : Nat → Tok} {ka : Nat → Tok} {kw : Nat → Tok} {rv : Value} {iss : Int} {una : Int} {nx : Int} {gr : Int} {sp : Bool} {held : Array UInt8} {e : Nat → Nat} {nb : Nat} {kr : Nat → Tok} {rn : Int} (HH : (0 < v 3) ∧ (2 * v 3 ≤ v 0) ∧ (0 ≤ rn) ∧ (rn < v 0) ∧ True) :
    Con 4 w 310 (TL w d v oe kt kl ks kq ka kw rv iss una nx gr sp held (RL w e nb kr v rn)) ⟨[.ref (e 0)], []⟩ (fun C => ∀ (tv : Tok), ∀ (wv : Int), (wv = v 3) → C (.int wv tv) (TL w d v oe kt kl ks kq ka kw rv iss una nx gr sp held (RL w e nb kr v rn))) := by
  refine' ConX.wk (ConX.lift (con_window w HH) ?t) ?m ?h
  case t => unfold TL RL; walk_at "take"
  case m => exact fun _ _ h k tv wv f0 => h _ _ (k tv wv f0)
  case h =>
    intro K h tv wv f0
    refine' ⟨_, List.Perm.symm (Take.perm ?p), h tv wv f0⟩
    case p => unfold TL RL; walk_at "take"
local macro_rules | `(tactic| walk_at "conT") => `(tactic| first | ((with_reducible show ConX _ _ _ 886 _ _ _); refine' con_start_T _ ?mH) | ((with_reducible show ConX _ _ _ 936 _ _ _); refine' con_back_T _ ?mH) | ((with_reducible show ConX _ _ _ 1005 _ _ _); refine' con_cancel_T _ ?mH) | ((with_reducible show ConX _ _ _ 444 _ _ _); refine' con_onsent_T _ ?mH) | ((with_reducible show ConX _ _ _ 964 _ _ _); refine' con_acked_T _ ?mH) | ((with_reducible show ConX _ _ _ 310 _ _ _); refine' con_window_T _ ?mH))
def optOf (n : Int) : Array UInt8 := #[(2 : Int).toNat.toUInt8, (4 : Int).toNat.toUInt8, (n / 256 % 256).toNat.toUInt8, (n % 256).toNat.toUInt8]

set_option maxHeartbeats 8000000 in
theorem con_syn_none (w : World) {d : Nat → Nat} {v : Nat → Int} {oe : Obj} {kt : Nat → Tok} {kl : Nat → Tok} {ks : Nat → Tok} {kq : Nat → Tok} {ka : Nat → Tok} {kw : Nat → Tok} {iss : Int} {nx : Int} {gr : Int} {held : Array UInt8} (HH : (2 < v 0) ∧ (0 ≤ iss) ∧ (iss < v 0) ∧ (1 ≤ v 1) ∧ (v 1 < 2 ^ 40) ∧ (1 ≤ v 3) ∧ (v 3 < 2 ^ 40) ∧ (((nx = iss ∧ (gr = iss ∨ gr = ((iss + 1) % v 0))) ∨ (nx = ((iss + 1) % v 0) ∧ gr = ((iss + 1) % v 0)))) ∧ True) :
    Con 8 w 136 (TL w d v oe kt kl ks kq ka kw .none iss iss nx gr true held []) ⟨[.ref (d 0)], []⟩ (fun C => ∀ (sg dsg : Nat), ∀ (wv : Int), ∀ (ob : Array UInt8), ∀ (ks' : Nat → Tok), ∀ (ks2 : Nat → Tok), (wv = (if 65535 < v 3 then 65535 else v 3)) → (ob = optOf (if 65535 < v 1 then 65535 else v 1)) → C (.ref sg) ((sg, instObj 111 dsg) :: (dsg, D_seg w ks2 iss 0 2 wv ob) :: TL w d v oe kt kl ks' kq ka kw .none iss iss ((iss + 1) % v 0) ((iss + 1) % v 0) true held [])) := by
  refine ⟨fun _ _ hkZ hPZ sg dsg wv ob ks' ks2 fZ0 fZ1 => hkZ _ _ (hPZ sg dsg wv ob ks' ks2 fZ0 fZ1), ?_⟩
  obtain ⟨hr, hi, hi2, hm, hm2, hw, hw2, hs, _⟩ := HH
  w_on
  unfold Kf P0
  k_fill
  intro view loose mean mg mb dp un gd cn cs ca ccd cl outer A₀ base h₀ L m s R B F X N D T hk hd hu ret
  try dsimp only [addrs] at D
  dsimp only at ret
  k_dflt (refine' code_frame ?k1 ?k2 ?k3 ?k4 ?k5 ?kA ?kF ?kK ?k6 ?k7 ?k8 ?k9 ?kB ?_ ?c2 ?c3 ?c4 ?c5; (case kA => exact rfl); (case kF => exact rfl); (case kK => assumption); (case k1 => k_asm); (case k2 => k_asm); (case k3 => k_asm); (case k4 => k_asm); (case k5 => k_asm); (case k6 => k_is); (case k7 => k_is); (case k8 => k_room); (case k9 => first | exact BindsTo.of_eq rfl | exact binds_K (by k_in) rfl (by k_is) rfl rfl rfl); (case c5 => decide); (case kB => exact locs rfl); (case c2 => exact rfl); (case c3 => exact rfl); (case c4 => exact rfl); k_whole; intro g' L' h' FG' F' N' B' X' T' keep'; (try dsimp only); (refine env_let ?_; intro ev Ak); (try k_fold))
  k_steps
  all_goals first | ((try subst_vars); (with_reducible rename Nd _ => nd'); refine' fin (s := s) keep' ?zF ?zN ?zG ?zM nd' ?zE ?zT (ret _ _ _ _ _ (kf [_, _, _, _, _, _, _, _, _, _, _, _, _, _, _, _, _, _]) ?_ ?_); (case zF => k_asm); (case zN => k_asm); (case zG => k_asm); (case zM => k_asm); (case zT => k_dflt walk_at "take"); (case zE => exact rfl); all_goals first | assumption | omega | rfl | exact decide_eq_false (by omega) | exact decide_eq_true (by omega) | (simp only [if_true]; first | omega | exact decide_eq_false (by omega))) | (exfalso; omega)
local macro_rules | `(tactic| walk_at "conT") => `(tactic| ((with_reducible show ConX _ _ _ 136 _ _ _); refine' con_syn_none _ ?mH))
set_option maxHeartbeats 8000000 in
theorem con_told_none (w : World) {d : Nat → Nat} {v : Nat → Int} {oe : Obj} {kt : Nat → Tok} {kl : Nat → Tok} {ks : Nat → Tok} {kq : Nat → Tok} {ka : Nat → Tok} {kw : Nat → Tok} {iss : Int} {nx : Int} {gr : Int} {held : Array UInt8} (HH : (2 < v 0) ∧ (0 ≤ iss) ∧ (iss < v 0) ∧ (1 ≤ v 1) ∧ (v 1 < 2 ^ 40) ∧ (1 ≤ v 3) ∧ (v 3 < 2 ^ 40) ∧ (((nx = iss ∧ (gr = iss ∨ gr = ((iss + 1) % v 0))) ∨ (nx = ((iss + 1) % v 0) ∧ gr = ((iss + 1) % v 0)))) ∧ True) :
    Con 12 w 1137 (TL w d v oe kt kl ks kq ka kw .none iss iss nx gr true held []) ⟨[.ref (d 0), .none], []⟩ (fun C => ∀ (ks' : Nat → Tok), C (.bool true) (TL w d v oe kt kl ks' kq ka kw .none iss iss ((iss + 1) % v 0) ((iss + 1) % v 0) true held [])) := by
  refine ⟨fun _ _ hkZ hPZ ks'  => hkZ _ _ (hPZ ks' ), ?_⟩
  obtain ⟨hr, hi, hi2, hm, hm2, hw, hw2, hs, _⟩ := HH
  w_on
  unfold Kf P0
  k_fill
  intro view loose mean mg mb dp un gd cn cs ca ccd cl outer A₀ base h₀ L m s R B F X N D T hk hd hu ret
  try dsimp only [addrs] at D
  dsimp only at ret
  k_dflt (refine' code_frame ?k1 ?k2 ?k3 ?k4 ?k5 ?kA ?kF ?kK ?k6 ?k7 ?k8 ?k9 ?kB ?_ ?c2 ?c3 ?c4 ?c5; (case kA => exact rfl); (case kF => exact rfl); (case kK => assumption); (case k1 => k_asm); (case k2 => k_asm); (case k3 => k_asm); (case k4 => k_asm); (case k5 => k_asm); (case k6 => k_is); (case k7 => k_is); (case k8 => k_room); (case k9 => first | exact BindsTo.of_eq rfl | exact binds_K (by k_in) rfl (by k_is) rfl rfl rfl); (case c5 => decide); (case kB => exact locs rfl); (case c2 => exact rfl); (case c3 => exact rfl); (case c4 => exact rfl); k_whole; intro g' L' h' FG' F' N' B' X' T' keep'; (try dsimp only); (refine env_let ?_; intro ev Ak); (try k_fold))
  k_steps
  all_goals first | ((try subst_vars); (with_reducible rename Nd _ => nd'); refine' fin (s := s) keep' ?zF ?zN ?zG ?zM nd' ?zE ?zT (ret _); (case zF => k_asm); (case zN => k_asm); (case zG => k_asm); (case zM => k_asm); (case zT => k_dflt walk_at "take"); (case zE => exact rfl)) | (exfalso; omega)
set_option maxHeartbeats 8000000 in
theorem con_syn_some (w : World) {d : Nat → Nat} {v : Nat → Int} {oe : Obj} {kt : Nat → Tok} {kl : Nat → Tok} {ks : Nat → Tok} {kq : Nat → Tok} {ka : Nat → Tok} {kw : Nat → Tok} {iss : Int} {nx : Int} {gr : Int} {held : Array UInt8} {e : Nat → Nat} {nb : Nat} {kr : Nat → Tok} {rn : Int} (HH : (2 < v 0) ∧ (0 ≤ iss) ∧ (iss < v 0) ∧ (1 ≤ v 1) ∧ (v 1 < 2 ^ 40) ∧ (1 ≤ v 3) ∧ (v 3 < 2 ^ 40) ∧ (((nx = iss ∧ (gr = iss ∨ gr = ((iss + 1) % v 0))) ∨ (nx = ((iss + 1) % v 0) ∧ gr = ((iss + 1) % v 0)))) ∧ ((d 16 == sysModules) = false) ∧ (oe.IsDictOf (PySem.intKind P0 w) []) ∧ (0 ≤ rn) ∧ (rn < v 0) ∧ (2 * v 3 ≤ v 0) ∧ True) :
    Con 8 w 136 (TL w d v oe kt kl ks kq ka kw (.ref (e 0)) iss iss nx gr true held (RL w e nb kr v rn)) ⟨[.ref (d 0)], []⟩ (fun C => ∀ (sg dsg : Nat), ∀ (wv : Int), ∀ (ob : Array UInt8), ∀ (ks' ka' : Nat → Tok), ∀ (ks2 : Nat → Tok), (wv = (if 65535 < v 3 then 65535 else v 3)) → (ob = optOf (if 65535 < v 1 then 65535 else v 1)) → C (.ref sg) ((sg, instObj 111 dsg) :: (dsg, D_seg w ks2 iss rn 18 wv ob) :: TL w d v oe kt kl ks' kq ka' kw (.ref (e 0)) iss iss ((iss + 1) % v 0) ((iss + 1) % v 0) true held (RL w e nb kr v rn))) := by
  refine ⟨fun _ _ hkZ hPZ sg dsg wv ob ks' ka' ks2 fZ0 fZ1 => hkZ _ _ (hPZ sg dsg wv ob ks' ka' ks2 fZ0 fZ1), ?_⟩
  obtain ⟨hr, hi, hi2, hm, hm2, hw, hw2, hs, he, ho, hn, hn2, hv, _⟩ := HH
  w_on
  unfold Kf P0
  k_fill
  intro view loose mean mg mb dp un gd cn cs ca ccd cl outer A₀ base h₀ L m s R B F X N D T hk hd hu ret
  try dsimp only [addrs] at D
  dsimp only at ret
  k_dflt (refine' code_frame ?k1 ?k2 ?k3 ?k4 ?k5 ?kA ?kF ?kK ?k6 ?k7 ?k8 ?k9 ?kB ?_ ?c2 ?c3 ?c4 ?c5; (case kA => exact rfl); (case kF => exact rfl); (case kK => assumption); (case k1 => k_asm); (case k2 => k_asm); (case k3 => k_asm); (case k4 => k_asm); (case k5 => k_asm); (case k6 => k_is); (case k7 => k_is); (case k8 => k_room); (case k9 => first | exact BindsTo.of_eq rfl | exact binds_K (by k_in) rfl (by k_is) rfl rfl rfl); (case c5 => decide); (case kB => exact locs rfl); (case c2 => exact rfl); (case c3 => exact rfl); (case c4 => exact rfl); k_whole; intro g' L' h' FG' F' N' B' X' T' keep'; (try dsimp only); (refine env_let ?_; intro ev Ak); (try k_fold))
  k_steps
  all_goals first | ((try subst_vars); (with_reducible rename Nd _ => nd'); refine' fin (s := s) keep' ?zF ?zN ?zG ?zM nd' ?zE ?zT (ret _ _ _ _ _ _ (kf [_, _, _, _, _, _, _, _, _, _, _, _, _, _, _, _, _, _]) ?_ ?_); (case zF => k_asm); (case zN => k_asm); (case zG => k_asm); (case zM => k_asm); (case zT => k_dflt walk_at "take"); (case zE => exact rfl); all_goals first | assumption | omega | rfl | exact decide_eq_false (by omega) | exact decide_eq_true (by omega) | (simp only [if_true]; first | omega | exact decide_eq_false (by omega))) | (exfalso; omega)
local macro_rules | `(tactic| walk_at "conT") => `(tactic| ((with_reducible show ConX _ _ _ 136 _ _ _); refine' con_syn_some _ ?mH))
set_option maxHeartbeats 8000000 in
theorem con_told_some (w : World) {d : Nat → Nat} {v : Nat → Int} {oe : Obj} {kt : Nat → Tok} {kl : Nat → Tok} {ks : Nat → Tok} {kq : Nat → Tok} {ka : Nat → Tok} {kw : Nat → Tok} {iss : Int} {nx : Int} {gr : Int} {held : Array UInt8} {e : Nat → Nat} {nb : Nat} {kr : Nat → Tok} {rn : Int} {ot : Int} {tot : Tok} (HH : (2 < v 0) ∧ (0 ≤ iss) ∧ (iss < v 0) ∧ (1 ≤ v 1) ∧ (v 1 < 2 ^ 40) ∧ (1 ≤ v 3) ∧ (v 3 < 2 ^ 40) ∧ (((nx = iss ∧ (gr = iss ∨ gr = ((iss + 1) % v 0))) ∨ (nx = ((iss + 1) % v 0) ∧ gr = ((iss + 1) % v 0)))) ∧ ((d 16 == sysModules) = false) ∧ (oe.IsDictOf (PySem.intKind P0 w) []) ∧ (0 ≤ rn) ∧ (rn < v 0) ∧ (2 * v 3 ≤ v 0) ∧ (rn = (ot + 1) % v 0) ∧ True) :
    Con 12 w 1137 (TL w d v oe kt kl ks kq ka kw (.ref (e 0)) iss iss nx gr true held (RL w e nb kr v rn)) ⟨[.ref (d 0), .int ot tot], []⟩ (fun C => ∀ (ks' ka' : Nat → Tok), C (.bool true) (TL w d v oe kt kl ks' kq ka' kw (.ref (e 0)) iss iss ((iss + 1) % v 0) ((iss + 1) % v 0) true held (RL w e nb kr v rn))) := by
  refine ⟨fun _ _ hkZ hPZ ks' ka'  => hkZ _ _ (hPZ ks' ka' ), ?_⟩
  obtain ⟨hr, hi, hi2, hm, hm2, hw, hw2, hs, he, ho, hn, hn2, hv, hrn, _⟩ := HH
  w_on
  unfold Kf P0
  k_fill
  intro view loose mean mg mb dp un gd cn cs ca ccd cl outer A₀ base h₀ L m s R B F X N D T hk hd hu ret
  try dsimp only [addrs] at D
  dsimp only at ret
  k_dflt (refine' code_frame ?k1 ?k2 ?k3 ?k4 ?k5 ?kA ?kF ?kK ?k6 ?k7 ?k8 ?k9 ?kB ?_ ?c2 ?c3 ?c4 ?c5; (case kA => exact rfl); (case kF => exact rfl); (case kK => assumption); (case k1 => k_asm); (case k2 => k_asm); (case k3 => k_asm); (case k4 => k_asm); (case k5 => k_asm); (case k6 => k_is); (case k7 => k_is); (case k8 => k_room); (case k9 => first | exact BindsTo.of_eq rfl | exact binds_K (by k_in) rfl (by k_is) rfl rfl rfl); (case c5 => decide); (case kB => exact locs rfl); (case c2 => exact rfl); (case c3 => exact rfl); (case c4 => exact rfl); k_whole; intro g' L' h' FG' F' N' B' X' T' keep'; (try dsimp only); (refine env_let ?_; intro ev Ak); (try k_fold))
  k_steps
  all_goals first | ((try subst_vars); (with_reducible rename Nd _ => nd'); refine' fin (s := s) keep' ?zF ?zN ?zG ?zM nd' ?zE ?zT (ret _ _); (case zF => k_asm); (case zN => k_asm); (case zG => k_asm); (case zM => k_asm); (case zT => k_dflt walk_at "take"); (case zE => exact rfl)) | (exfalso; omega)
def Kind (w : World) (v : Nat → Int) (ot : Int) (tot : Tok) (cv rv : Value) (tl : List (Addr × Obj)) : Prop :=
  (cv = .none ∧ rv = .none ∧ tl = []) ∨ ∃ (e : Nat → Nat) (nb : Nat) (kr : Nat → Tok), cv = .int ot tot ∧ rv = .ref (e 0) ∧ tl = RL w e nb kr v ((ot + 1) % v 0)
theorem con_told (w : World) {d : Nat → Nat} {v : Nat → Int} {oe : Obj} {kt : Nat → Tok} {kl : Nat → Tok} {ks : Nat → Tok} {kq : Nat → Tok} {ka : Nat → Tok} {kw : Nat → Tok} {rv : Value} {iss : Int} {nx : Int} {gr : Int} {held : Array UInt8} {tl : List (Addr × Obj)} {ot : Int} {tot : Tok} {cv : Value} (HH : (2 < v 0) ∧ (0 ≤ iss) ∧ (iss < v 0) ∧ (1 ≤ v 1) ∧ (v 1 < 2 ^ 40) ∧ (1 ≤ v 3) ∧ (v 3 < 2 ^ 40) ∧ (((nx = iss ∧ (gr = iss ∨ gr = ((iss + 1) % v 0))) ∨ (nx = ((iss + 1) % v 0) ∧ gr = ((iss + 1) % v 0)))) ∧ ((d 16 == sysModules) = false) ∧ (oe.IsDictOf (PySem.intKind P0 w) []) ∧ (0 ≤ ot) ∧ (ot < v 0) ∧ (2 * v 3 ≤ v 0) ∧ (Kind w v ot tot cv rv tl) ∧ True) :
    Con 12 w 1137 (TL w d v oe kt kl ks kq ka kw rv iss iss nx gr true held tl) ⟨[.ref (d 0), cv], []⟩ (fun C => ∀ (ks' ka' : Nat → Tok), C (.bool true) (TL w d v oe kt kl ks' kq ka' kw rv iss iss ((iss + 1) % v 0) ((iss + 1) % v 0) true held tl)) := by
  obtain ⟨hr, hi, hi2, hm, hm2, hw, hw2, hs, he, ho, hot, hot2, hv, hk, _⟩ := HH
  rcases hk with ⟨rfl, rfl, rfl⟩ | ⟨e, nb, kr, rfl, rfl, rfl⟩
  · exact ConX.wk (con_told_none w ⟨hr, hi, hi2, hm, hm2, hw, hw2, hs, trivial⟩) (fun _ _ h k a b => h _ _ (k a b)) (fun K h a => h a _)
  · exact ConX.wk (con_told_some w ⟨hr, hi, hi2, hm, hm2, hw, hw2, hs, he, ho, Int.emod_nonneg _ (by omega), Int.emod_lt_of_pos _ (by omega), hv, rfl, trivial⟩) (fun _ _ h k a b => h _ _ (k a b)) (fun K h a b => h a b)
def mA (base : Str → Option Value) (t cv : Value) (wv : Option Value) : Str → Option Value := fun y => if y = ("come" : Str) then some cv else if y = ("way" : Str) then wv else if y = ("tcb" : Str) then some t else base y
theorem mA_start {base : Str → Option Value} {t cv : Value} (h : base "way" = none) : (fun y => if y = ("tcb" : Str) then some t else if y = ("come" : Str) then some cv else base y) = mA base t cv none := by
  funext y
  unfold mA
  by_cases h1 : y = ("tcb" : Str)
  · subst h1; rfl
  · by_cases h2 : y = ("come" : Str)
    · subst h2; rfl
    · by_cases h3 : y = ("way" : Str)
      · subst h3; simp only [h, if_neg h1, if_neg h2, if_true]
      · simp only [if_neg h1, if_neg h2, if_neg h3]
theorem mA_way {base : Str → Option Value} {t cv v : Value} {wv : Option Value} : (fun y => if y = ("way" : Str) then some v else mA base t cv wv y) = mA base t cv (some v) := by
  funext y
  unfold mA
  by_cases h1 : y = ("way" : Str)
  · subst h1; rfl
  · simp only [if_neg h1]
theorem mA_come {base : Str → Option Value} {t cv c' : Value} {wv : Option Value} : (fun y => if y = ("come" : Str) then some c' else mA base t cv wv y) = mA base t c' wv := by
  funext y
  unfold mA
  by_cases h1 : y = ("come" : Str)
  · simp only [if_pos h1]
  · simp only [if_neg h1]
def AllJ (w : World) (base : Str → Option Value) (li dl wl : Nat) (v : Nat → Int) (kl : Nat → Tok) (iss ot : Int) (tot : Tok) (o : Array UInt8) (I i : Nat) (m : Str → Option Value) (led : List (Addr × Obj)) : Prop :=
  ∃ (d : Nat → Nat) (oe : Obj) (nx gr : Int) (wv : Option Value) (kt ks kq ka kw : Nat → Tok) (cv rv : Value) (tl : List (Addr × Obj)), d 2 = li ∧ d 3 = dl ∧ (d 16 == sysModules) = false ∧ oe.IsDictOf (PySem.intKind P0 w) [] ∧ ((i = 0 ∧ nx = iss ∧ gr = iss) ∨ (nx = ((iss + 1) % v 0) ∧ gr = ((iss + 1) % v 0))) ∧ Kind w v ot tot cv rv tl ∧ m = mA base (.ref (d 0)) cv wv ∧ led = TL w d v oe kt kl ks kq ka kw rv iss iss nx gr true o tl ∧ Nd (I :: wl :: addrs led)
section
variable {w : World} {base : Str → Option Value} {li dl wl : Nat} {v : Nat → Int} {kl : Nat → Tok} {iss ot : Int} {tot : Tok} {o : Array UInt8} {I i : Nat} {m : Str → Option Value} {led : List (Addr × Obj)} {d : Nat → Nat} {oe : Obj} {nx gr : Int} {wv : Option Value} {kt ks kq ka kw : Nat → Tok} {cv rv : Value} {tl : List (Addr × Obj)} {lo9 oI : Obj} {h₀ h' : Heap} {L : Addr}
theorem nd_tail {x : Nat} {l : List Nat} (D : Nd (x :: l)) : Nd l := (List.nodup_cons.mp D).2
theorem AllJ_mk (f0 : d 2 = li) (f1 : d 3 = dl) (f2 : (d 16 == sysModules) = false) (f3 : oe.IsDictOf (PySem.intKind P0 w) []) (f4 : ((i = 0 ∧ nx = iss ∧ gr = iss) ∨ (nx = ((iss + 1) % v 0) ∧ gr = ((iss + 1) % v 0)))) (f5 : Kind w v ot tot cv rv tl) (nd : Nd (I :: wl :: addrs (TL w d v oe kt kl ks kq ka kw rv iss iss nx gr true o tl))) : AllJ w base li dl wl v kl iss ot tot o I i (mA base (.ref (d 0)) cv wv) (TL w d v oe kt kl ks kq ka kw rv iss iss nx gr true o tl) := ⟨d, oe, nx, gr, wv, kt, ks, kq, ka, kw, cv, rv, tl, f0, f1, f2, f3, f4, f5, rfl, rfl, nd⟩
theorem AllJ_elim {C : Prop} (hJ : AllJ w base li dl wl v kl iss ot tot o I i m led) (k : ∀ (d : Nat → Nat) (oe : Obj) (nx gr : Int) (wv : Option Value) (kt ks kq ka kw : Nat → Tok) (cv rv : Value) (tl : List (Addr × Obj)), (d 2 = li) → (d 3 = dl) → ((d 16 == sysModules) = false) → (oe.IsDictOf (PySem.intKind P0 w) []) → (((i = 0 ∧ nx = iss ∧ gr = iss) ∨ (nx = ((iss + 1) % v 0) ∧ gr = ((iss + 1) % v 0)))) → (Kind w v ot tot cv rv tl) → m = mA base (.ref (d 0)) cv wv → led = TL w d v oe kt kl ks kq ka kw rv iss iss nx gr true o tl → Nd (I :: wl :: addrs (TL w d v oe kt kl ks kq ka kw rv iss iss nx gr true o tl)) → C) : C := by
  obtain ⟨d, oe, nx, gr, wv, kt, ks, kq, ka, kw, cv, rv, tl, f0, f1, f2, f3, f4, f5, em, el, nd⟩ := hJ
  exact k d oe nx gr wv kt ks kq ka kw cv rv tl f0 f1 f2 f3 f4 f5 em el (el ▸ nd)
theorem AllJ_start (f0 : d 2 = li) (f1 : d 3 = dl) (f2 : (d 16 == sysModules) = false) (f3 : oe.IsDictOf (PySem.intKind P0 w) []) (f4 : Kind w v ot tot cv rv tl) (nd : Nd (wl :: addrs (TL w d v oe kt kl ks kq ka kw rv iss iss iss iss true o tl))) : ∀ I, (∀ z ∈ ((wl, lo9) : Addr × Obj) :: TL w d v oe kt kl ks kq ka kw rv iss iss iss iss true o tl, @LT.lt Nat _ z.1 I) → AllJ w base li dl wl v kl iss ot tot o I 0 (mA base (.ref (d 0)) cv wv) (TL w d v oe kt kl ks kq ka kw rv iss iss iss iss true o tl) := fun I hI =>
  AllJ_mk f0 f1 f2 f3 (.inl ⟨rfl, rfl, rfl⟩) f4 (nd_new (news := (wl, lo9) :: TL w d v oe kt kl ks kq ka kw rv iss iss iss iss true o tl) nd hI rfl)
theorem nd_off (nd : Nd (I :: wl :: addrs led)) : ∀ q ∈ led, @Ne Nat q.1 I := fun q hq e => (List.nodup_cons.mp nd).1 (.tail _ (e ▸ mem_addrs hq))
theorem turn_end {env : Env} {s : Shared} {tk' : Nat} {R : Result → Shared → Prop} (F' : Fr h₀ env.locals h' (mA base (.ref (d 0)) cv wv)) (N' : News h₀ env.locals h' ((I, oI) :: (wl, lo9) :: TL w d v oe kt kl ks kq ka kw rv iss iss nx gr true o tl)) (f0 : d 2 = li) (f1 : d 3 = dl) (f2 : (d 16 == sysModules) = false) (f3 : oe.IsDictOf (PySem.intKind P0 w) []) (f4 : ((i = 0 ∧ nx = iss ∧ gr = iss) ∨ (nx = ((iss + 1) % v 0) ∧ gr = ((iss + 1) % v 0)))) (f5 : Kind w v ot tot cv rv tl) (nd : Nd (I :: wl :: addrs (TL w d v oe kt kl ks kq ka kw rv iss iss nx gr true o tl))) :
    TurnC h₀ env I oI [(wl, lo9)] (AllJ w base li dl wl v kl iss ot tot o I i) s R .next { s with heap := h', toks := tk' } :=
  ⟨h', tk', _, _, rfl, F', N', nd_off nd, AllJ_mk f0 f1 f2 f3 f4 f5 nd⟩
theorem Suf.sub {l n r : List (Addr × Obj)} (s : Suf l n r) : ∀ q ∈ l, q ∈ n := fun q hq => by rw [s.eq]; exact List.mem_append.mpr (.inr hq)
theorem nd_suf {l n r : List (Addr × Obj)} {as : List Nat} (s : Suf l n r) (D : Nd as) (e : addrs n = as) : Nd (addrs l) := (Take.of_suf s).nd1 e D
theorem turn_end' {env : Env} {s : Shared} {tk' : Nat} {R : Result → Shared → Prop} {n r : List (Addr × Obj)} {as : List Nat} (F' : Fr h₀ env.locals h' (mA base (.ref (d 0)) cv wv)) (N' : News h₀ env.locals h' n) (su : Suf ((I, oI) :: (wl, lo9) :: TL w d v oe kt kl ks kq ka kw rv iss iss nx gr true o tl) n r) (D : Nd as) (e : addrs n = as) (f0 : d 2 = li) (f1 : d 3 = dl) (f2 : (d 16 == sysModules) = false) (f3 : oe.IsDictOf (PySem.intKind P0 w) []) (f4 : ((i = 0 ∧ nx = iss ∧ gr = iss) ∨ (nx = ((iss + 1) % v 0) ∧ gr = ((iss + 1) % v 0)))) (f5 : Kind w v ot tot cv rv tl) :
    TurnC h₀ env I oI [(wl, lo9)] (AllJ w base li dl wl v kl iss ot tot o I i) s R .next { s with heap := h', toks := tk' } :=
  turn_end F' (cb_drop N' su.sub) f0 f1 f2 f3 f4 f5 (nd_suf su D e)
theorem pth_rv {rv' : Value} {una : Int} {sp : Bool} {held : Array UInt8} : Pth (d 1) (D_tcb w kt (d 2) (d 4) (d 5) (d 6) (d 10) (d 11) (d 12) (d 14) rv) (D_tcb w kt (d 2) (d 4) (d 5) (d 6) (d 10) (d 11) (d 12) (d 14) rv') (TL w d v oe kt kl ks kq ka kw rv iss una nx gr sp held tl) (TL w d v oe kt kl ks kq ka kw rv' iss una nx gr sp held tl) := by
  unfold TL
  exact .tail .head
theorem TL_app {una : Int} {sp : Bool} {held : Array UInt8} {tl' : List (Addr × Obj)} : TL w d v oe kt kl ks kq ka kw rv iss una nx gr sp held tl' = TL w d v oe kt kl ks kq ka kw rv iss una nx gr sp held [] ++ tl' := by
  unfold TL
  rfl
theorem tl_swap {una : Int} {sp : Bool} {held : Array UInt8} {tl' : List (Addr × Obj)} {q : Addr × Obj} (h : q ∈ TL w d v oe kt kl ks kq ka kw rv iss una nx gr sp held tl') : q ∈ TL w d v oe kt kl ks kq ka kw rv iss una nx gr sp held tl ∨ q ∈ tl' := by
  rw [TL_app] at h
  rw [TL_app (tl' := tl)]
  rcases List.mem_append.mp h with h | h
  · exact .inl (List.mem_append.mpr (.inl h))
  · exact .inr h
theorem addrs_tl {una : Int} {sp : Bool} {held : Array UInt8} : addrs (TL w d v oe kt kl ks kq ka kw rv iss una nx gr sp held tl) = addrs (TL w d v oe kt kl ks kq ka kw rv iss una nx gr sp held []) ++ addrs tl := by
  unfold TL
  simp only [addrs, List.cons_append, List.nil_append]
theorem nd_tl4 {una : Int} {sp : Bool} {held : Array UInt8} (D : Nd (addrs (TL w d v oe kt kl ks kq ka kw rv iss una nx gr sp held tl))) : Nd [d 0, d 1, d 6, d 7] := by
  unfold TL at D
  exact Take.nd1 (pre := [(d 0, oe), (d 1, oe), (d 6, oe), (d 7, oe)]) (l := (d 0, oe) :: (d 1, oe) :: (d 2, oe) :: (d 3, oe) :: (d 4, oe) :: (d 5, oe) :: (d 6, oe) :: (d 7, oe) :: _) (.cons .here (.cons .here (.cons (.there (.there (.there (.there .here)))) (.cons (.there (.there (.there (.there .here)))) .nil)))) rfl D
theorem way2 {una : Int} {sp : Bool} {held : Array UInt8} {r dr b am nb : Nat} {kr : Nat → Tok} {rn : Int} {rv0 : Value}
    (N : News h₀ L h' ((r, instObj 397 dr) :: (dr, D_rcv w kr (v 0) (v 3) (v 1) rn ((rn + v 3) % v 0) b am) :: (b, { cls := .type "bytearray", data := .bytearray #[] nb }) :: (I, oI) :: (wl, lo9) :: TL w d v oe kt kl ks kq ka kw rv iss una nx gr sp held tl)) (nd : Nd (r :: dr :: b :: I :: wl :: addrs (TL w d v oe kt kl ks kq ka kw rv0 iss una nx gr sp held tl))) :
    News h₀ L h' ((I, oI) :: (wl, lo9) :: TL w d v oe kt kl ks kq ka kw rv iss una nx gr sp held (RL w (fun i => [r, dr, b, am].getD i 0) nb kr v rn)) ∧ Nd (I :: wl :: addrs (TL w d v oe kt kl ks kq ka kw rv iss una nx gr sp held (RL w (fun i => [r, dr, b, am].getD i 0) nb kr v rn))) := by
  have e0 : addrs (TL w d v oe kt kl ks kq ka kw rv0 iss una nx gr sp held tl) = addrs (TL w d v oe kt kl ks kq ka kw rv iss una nx gr sp held tl) := by unfold TL; rfl
  rw [e0] at nd
  constructor
  · intro q hq
    rcases List.mem_cons.mp hq with rfl | hq
    · exact N _ (.tail _ (.tail _ (.tail _ (.head _))))
    rcases List.mem_cons.mp hq with rfl | hq
    · exact N _ (.tail _ (.tail _ (.tail _ (.tail _ (.head _)))))
    rcases tl_swap (tl := tl) hq with hq | hq
    · exact N _ (.tail _ (.tail _ (.tail _ (.tail _ (.tail _ hq)))))
    · unfold RL at hq
      rcases List.mem_cons.mp hq with rfl | hq
      · exact N _ (.head _)
      rcases List.mem_cons.mp hq with rfl | hq
      · exact N _ (.tail _ (.head _))
      rcases List.mem_cons.mp hq with rfl | hq
      · exact N _ (.tail _ (.tail _ (.head _)))
      · cases hq
  · rw [addrs_tl] at nd ⊢
    have e : addrs (RL w (fun i => [r, dr, b, am].getD i 0) nb kr v rn) = [r, dr, b] := by unfold RL; rfl
    rw [e]
    have nd : (r :: dr :: b :: I :: wl :: (addrs (TL w d v oe kt kl ks kq ka kw rv iss una nx gr sp held []) ++ addrs tl)).Nodup := nd
    show (I :: wl :: (addrs (TL w d v oe kt kl ks kq ka kw rv iss una nx gr sp held []) ++ [r, dr, b])).Nodup
    have p : List.Perm (I :: wl :: (addrs (TL w d v oe kt kl ks kq ka kw rv iss una nx gr sp held []) ++ [r, dr, b])) (r :: dr :: b :: I :: wl :: addrs (TL w d v oe kt kl ks kq ka kw rv iss una nx gr sp held [])) := by
      show List.Perm ((I :: wl :: addrs (TL w d v oe kt kl ks kq ka kw rv iss una nx gr sp held [])) ++ [r, dr, b]) ([r, dr, b] ++ (I :: wl :: addrs (TL w d v oe kt kl ks kq ka kw rv iss una nx gr sp held [])))
      exact List.perm_append_comm
    rw [p.nodup_iff]
    exact List.Sublist.nodup ((((((List.sublist_append_left _ _).cons_cons _).cons_cons _).cons_cons _).cons_cons _).cons_cons _) nd
theorem start_TL {as : List Nat} {rest : List (Addr × Obj)} {t dt lo re s ds q dq c cg a da wh dwh e pw sl la : Nat} {x1 x2 x3 x4 : Tok}
    (N : News h₀ L h' led) (D : Nd as) (e1 : addrs led = as) (tk : Take ((wl, lo9) :: (t, instObj 1098 dt) :: (dt, D_tcb w kt li lo re s c cg a wh .none) :: (li, instObj 1055 dl) :: (dl, D_lim w kl (v 0) (v 1) (v 2) (v 3) (v 4) (v 5) (v 6) (v 7) (v 8) (v 9)) :: (lo, tupO 1 80 x1 x2) :: (re, tupO 2 90 x3 x4) :: (s, instObj 967 ds) :: (ds, D_snd w ks iss (v 0) (v 1) iss iss iss pw q true) :: (q, instObj 734 dq) :: (dq, D_que w kq (v 2) o) :: (a, instObj 454 da) :: (da, D_ack w ka (v 8)) :: (wh, instObj 1034 dwh) :: (dwh, D_whl w kw sl la e) :: (e, oe) :: []) led rest) : News h₀ L h' ((wl, lo9) :: TL w (fun i => [t, dt, li, dl, lo, re, s, ds, q, dq, c, cg, a, da, wh, dwh, e, pw, sl, la].getD i 0) v oe (fun i => if i < 20 then kt i else [x1, x2, x3, x4].getD (i - 20) 0) kl ks kq ka kw .none iss iss iss iss true o []) ∧ Nd (wl :: addrs (TL w (fun i => [t, dt, li, dl, lo, re, s, ds, q, dq, c, cg, a, da, wh, dwh, e, pw, sl, la].getD i 0) v oe (fun i => if i < 20 then kt i else [x1, x2, x3, x4].getD (i - 20) 0) kl ks kq ka kw .none iss iss iss iss true o [])) := by
  unfold TL
  exact ⟨cb_drop N tk.sub, tk.nd1 e1 D⟩
theorem start_TLk {as : List Nat} {rest : List (Addr × Obj)} {t dt lo re s ds q dq c cg a da wh dwh e pw sl la : Nat} {x1 x2 x3 x4 : Tok} {G : Prop}
    (N : News h₀ L h' led) (D : Nd as) (e1 : addrs led = as) (tk : Take ((wl, lo9) :: (t, instObj 1098 dt) :: (dt, D_tcb w kt li lo re s c cg a wh .none) :: (li, instObj 1055 dl) :: (dl, D_lim w kl (v 0) (v 1) (v 2) (v 3) (v 4) (v 5) (v 6) (v 7) (v 8) (v 9)) :: (lo, tupO 1 80 x1 x2) :: (re, tupO 2 90 x3 x4) :: (s, instObj 967 ds) :: (ds, D_snd w ks iss (v 0) (v 1) iss iss iss pw q true) :: (q, instObj 734 dq) :: (dq, D_que w kq (v 2) o) :: (a, instObj 454 da) :: (da, D_ack w ka (v 8)) :: (wh, instObj 1034 dwh) :: (dwh, D_whl w kw sl la e) :: (e, oe) :: []) led rest) (k : News h₀ L h' ((wl, lo9) :: TL w (fun i => [t, dt, li, dl, lo, re, s, ds, q, dq, c, cg, a, da, wh, dwh, e, pw, sl, la].getD i 0) v oe (fun i => if i < 20 then kt i else [x1, x2, x3, x4].getD (i - 20) 0) kl ks kq ka kw .none iss iss iss iss true o []) → Nd (wl :: addrs (TL w (fun i => [t, dt, li, dl, lo, re, s, ds, q, dq, c, cg, a, da, wh, dwh, e, pw, sl, la].getD i 0) v oe (fun i => if i < 20 then kt i else [x1, x2, x3, x4].getD (i - 20) 0) kl ks kq ka kw .none iss iss iss iss true o [])) → G) : G := k (start_TL N D e1 tk).1 (start_TL N D e1 tk).2
end
local macro_rules | `(tactic| walk_at "conT") => `(tactic| ((with_reducible show ConX _ _ _ 1137 _ _ _); refine' con_told _ ?mH))
section
local macro_rules | `(tactic| walk_at "exec Raise some none") => `(tactic| (k_here; k_dflt (refine' raise_ownK 63 ?hX ?hC ?hb ?hh ?_; (case hX => k_asm); (case hC => k_is); (case hb => decide +kernel); (case hh => rfl))))
local macro_rules | `(tactic| walk_at "call ref") => `(tactic| (k_here; (with_reducible show wpAny _ _ (call (Value.ref 63) _ _) _ _ _); k_dflt (refine' call_excK (B := "Exception") (initId := "Exception.__init__") ?hF ?hX ?hN ?hC ?hB ?h1 ?h2 ?h3 ?h4 ?h5 ?h6 ?h7 ?_ ?hz; (case hF => k_asm); (case hX => k_asm); (case hN => k_asm); (case hC => k_is); (case hB => exact PySem.F.excBase_Exception); (case h1 => decide +kernel); (case h2 => decide +kernel); (case h3 => decide +kernel); (case h4 => k_is); (case h5 => k_is); (case h6 => k_is); (case h7 => k_is); (case hz => (simp only [List.length_cons, List.length_nil, PySem.sizeLine_eq]; omega)); intro e' t' h' F' N' l1 l2; (try k_lt2 l1); (try k_sweep); k_enter)))
local macro_rules | `(tactic| walk_at "setAttr ref") => `(tactic| (k_here; k_dflt (refine' setAttr_excK ?hF ?hX ?hN ?hne ?hC ?hf ?hs ?_; (case hF => k_asm); (case hX => k_asm); (case hN => k_asm); (case hne => k_all); (case hC => k_is); (case hf => k_is); (case hs => k_is); intro h' tk' d' F' N'; (try k_sweep))))
local macro_rules | `(tactic| walk_at "leaving ref") => `(tactic| (k_here; k_dflt (refine' leave_raiseL ?k1 ?k2 ?k3 ?k4 ?k5 ?_; (case k1 => k_asm); (case k2 => k_asm); (case k3 => k_asm); (case k4 => k_all); (case k5 => k_all); intro h' t' R' U'; (try dsimp only at R' U' ⊢))))
local macro_rules | `(tactic| walk_at "OwnRaise ref") => `(tactic| (k_here; k_dflt (refine' ownRaise_K ?hF ?hX ?hN ?hm ?hC ?_; (case hF => k_asm); (case hX => k_asm); (case hN => k_asm); (case hm => k_mem); (case hC => k_is))))

local macro_rules | `(tactic| walk_at "noteFrame ref") => `(tactic| (k_here; k_dflt (refine' caught_R ?k1 ?k0 ?k2 ?k3 ?k4 ?k5 ?k6 ?k7 ?k8 ?k9 ?_; (case k1 => assumption); (case k0 => assumption); (case k2 => assumption); (case k3 => assumption); (case k4 => assumption); (case k5 => assumption); (case k6 => k_asm); (case k7 => k_is); (case k8 => k_is); (case k9 => decide +kernel); intro h' n₂ F' N₂ G' N' U'; (try k_sweep))))
set_option maxHeartbeats 8000000 in
theorem con_refused (w : World) {t dt li lo re s ds c cg a wh pw q : Nat} {rv : Value} {iss ring mss una nx gr : Int} {kt ks : Nat → Tok} (nd : Nd [t, dt, s, ds]) :
    ConR 8 w 1130 [(t, instObj 1098 dt), (dt, D_tcb w kt li lo re s c cg a wh rv), (s, instObj 967 ds), (ds, D_snd w ks iss ring mss una nx gr pw q false)] ⟨[.ref t], []⟩ (fun v => v = .bool true) := by
  w_on
  unfold ConR Kf P0
  k_fill
  intro view loose mean mg mb dp un gd cn cs ca ccd cl outer A₀ base h₀ L m s R B F X N T hk hd hu ret
  k_dflt (refine' code_frameR ?k1 ?k2 ?k3 ?k4 ?k5 ?kA ?kF ?kK ?k6 ?k7 ?k8 ?k9 ?kB ?_ ?c2 ?c3 ?c4 ?c5; (case kA => exact rfl); (case kF => exact rfl); (case kK => assumption); (case k1 => k_asm); (case k2 => k_asm); (case k3 => k_asm); (case k4 => k_asm); (case k5 => k_asm); (case k6 => k_is); (case k7 => k_is); (case k8 => k_room); (case k9 => first | exact BindsTo.of_eq rfl | exact binds_K (by k_in) rfl (by k_is) rfl rfl rfl); (case c5 => decide); (case kB => exact locs rfl); (case c2 => exact rfl); (case c3 => exact rfl); (case c4 => exact rfl); k_whole; intro g' b₂ L' h' F' N' B' X' T' lo' Xb' Tb' kg' kb'; (try dsimp only); (refine env_let ?_; intro ev Ak); (try k_fold))
  k_steps
  all_goals (obtain ⟨e1, e2⟩ := end_R N kg' kb' (by assumption) (by assumption) (by assumption); exact ret _ _ _ rfl e1 e2)
end
local macro_rules | `(tactic| k_enter) => `(tactic| ((with_reducible show codeAny _ _ (Code.call (Value.ref 1130) _) _ _); k_dflt (refine' ConR.at (con_refused _ ?mH0) ?mB ?mF ?mX ?mN ?mT ?mK ?mD ?mU ?mS ?mR; (case mB => k_asm); (case mF => k_asm); (case mX => assumption); (case mN => k_asm); (case mT => assumption); (case mK => first | exact rfl | assumption); (case mS => ((repeat (refine List.forall_mem_cons.mpr ⟨?_, ?_⟩; k_mem)); exact List.forall_mem_nil _)); (case mD => k_room); (case mU => k_units); (case mH0 => ((with_reducible rename Nd _ => nd'); first | exact nd_tl4 nd' | exact nd_tl4 (nd_tail nd') | exact nd_tl4 (nd_tail (nd_tail nd')) | exact nd_tl4 (nd_tail (nd_tail (nd_tail nd'))) | exact nd_tl4 (nd_tail (nd_tail (nd_tail (nd_tail nd')))) | exact nd_tl4 (nd_tail (nd_tail (nd_tail (nd_tail (nd_tail nd'))))) | exact nd_tl4 (nd_tail (nd_tail (nd_tail (nd_tail (nd_tail (nd_tail nd')))))) | exact nd_tl4 (nd_tail (nd_tail (nd_tail (nd_tail (nd_tail (nd_tail (nd_tail nd'))))))) | exact nd_tl4 (nd_tail (nd_tail (nd_tail (nd_tail (nd_tail (nd_tail (nd_tail (nd_tail nd')))))))) | exact nd_tl4 (nd_tail (nd_tail (nd_tail (nd_tail (nd_tail (nd_tail (nd_tail (nd_tail (nd_tail nd'))))))))) | exact nd_tl4 (nd_tail (nd_tail (nd_tail (nd_tail (nd_tail (nd_tail (nd_tail (nd_tail (nd_tail (nd_tail nd')))))))))) | exact nd_tl4 (nd_tail (nd_tail (nd_tail (nd_tail (nd_tail (nd_tail (nd_tail (nd_tail (nd_tail (nd_tail (nd_tail nd')))))))))))))); intro v' h' tk' g₂ ev' F' N' X' T' kk' UU'; subst ev'; (unfold Kf at X'); (try dsimp only)))
local macro_rules | `(tactic| walk_at "pth") => `(tactic| ((with_reducible show Pth _ _ _ (TL _ _ _ _ _ _ _ _ _ _ _ _ _ _ _ _ _ _) _); exact pth_rv))
local macro_rules | `(tactic| walk_at "con") => `(tactic| first | ((with_reducible show ConX _ _ _ 1080 _ _ _); refine' con_tcb _ ?mH) | ((with_reducible show ConX _ _ _ 816 _ _ _); refine' con_put _ ?mH))
set_option maxHeartbeats 8000000 in
theorem con_all (w : World) {li dl wl nw : Nat} {ws : List Value} {iss ot : Int} {ti tot tx : Tok} {o : Array UInt8} {v : Nat → Int} {kl : Nat → Tok} (hnd : Nd [li, dl, wl]) (hr : 2 < v 0) (hi : 0 ≤ iss) (hi2 : iss < v 0) (hm : 1 ≤ v 1) (hm2 : v 1 < 2 ^ 40) (hs1 : 40 ≤ v 2) (hs2 : v 2 < 2 ^ 40) (hw : 1 ≤ v 3) (hw2 : v 3 < 2 ^ 40) (hv : 2 * v 3 ≤ v 0) (hot : 0 ≤ ot) (hot2 : ot < v 0) (hz : o.size ≤ 4) (hws : ∀ v ∈ ws, ∃ (i : Int) (t : Tok), v = .int i t) (hlen : 0 < ws.length) :
    ConRC 14 w 1144 [(li, instObj 1055 dl), (dl, D_lim w kl (v 0) (v 1) (v 2) (v 3) (v 4) (v 5) (v 6) (v 7) (v 8) (v 9)), (wl, listOf ws.toArray nw)] ⟨[.ref li, .int iss ti, .int ot tot, .bytes o tx, .ref wl], []⟩ (fun v => v = .bool true) := by
  w_on
  unfold ConRC Kf P0
  k_fill
  intro view loose mean mg mb dp un gd cn cs ca ccd cl outer A₀ base h₀ L m sz R B F X N T hk hd hu ret
  k_dflt (refine' codeC_frameR (binds := [("limits", .ref li), ("first", .int iss ti), ("other", .int ot tot), ("octets", .bytes o tx), ("ways", .ref wl)]) ?k1 ?k2 ?k3 ?k4 ?k5 ?kA ?kF ?kK ?k6 ?k7 ?k8 ?k9 ?kB ?_ ?c2 ?c3 ?c4 ?c5; (case kA => exact rfl); (case kF => exact rfl); (case kK => assumption); (case k1 => k_asm); (case k2 => k_asm); (case k3 => k_asm); (case k4 => k_asm); (case k5 => k_asm); (case k6 => k_is); (case k7 => k_is); (case k8 => k_room); (case k9 => first | exact BindsTo.of_eq rfl | exact binds_K (by k_in) rfl (by k_is) rfl rfl rfl); (case c5 => decide); (case kB => exact locs rfl); (case c2 => exact rfl); (case c3 => exact rfl); (case c4 => exact rfl); k_whole; intro g' b₂ L' h' F' N' B' X' T' lo' Xb' Tb' kg' kb'; (try dsimp only); skip)
  refine wpC_split 2 ?_
  dsimp only [List.take, List.drop]
  k_steps
  try dsimp only
  rename Fr _ _ _ _ => F9
  rename News _ _ _ _ => N9
  rename Nd _ => nd9
  rw [mA_start (by rfl)] at F9
  refine' start_TLk (wl := wl) (lo9 := listOf ws.toArray nw) (v := v) (kl := kl) (iss := iss) (o := o) N9 nd9 rfl ?tk ?kk
  case tk => k_dflt walk_at "take"
  case kk =>
  repeat ((with_reducible rename Nd _ => ndz); clear ndz)
  intro N8 nd8
  clear N9
  refine wpC_cons (wpC_For ?_)
  k_steps
  refine' forC_list (J := fun I i => AllJ w (fun y => List.lookup y (List.reverse [("limits", .ref li), ("first", .int iss ti), ("other", .int ot tot), ("octets", .bytes o tx), ("ways", .ref wl)])) li dl wl v kl iss ot tot o I i) rfl rfl rfl ?hp F9 N8 (AllJ_start rfl rfl ?he ?ho (.inl ⟨rfl, rfl, rfl⟩) nd8) ?turn ?done
  case hp => rfl
  case he => assumption
  case ho => assumption
  case turn =>
    clear F9 N8 nd8
    intro I i vv m1 led1 oI h tk hvi hJ hne hwI F9 N9
    try dsimp only
    obtain ⟨wi, wt, ev⟩ := hws vv (List.mem_of_getElem? hvi)
    subst ev
    clear hne
    revert F9 N9
    refine AllJ_elim hJ ?_
    clear hJ
    intro d oe nx gr wv kt ks kq ka kw cv rv tl e2 e3 he ho hs hk em el nd _ _
    rename Fr _ _ _ _ => F9
    rename News _ _ _ _ => N9
    subst em el
    subst e2 e3
    rw [mA_way] at F9
    have hs2 : ((nx = iss ∧ (gr = iss ∨ gr = ((iss + 1) % v 0))) ∨ (nx = ((iss + 1) % v 0) ∧ gr = ((iss + 1) % v 0))) := by
      rcases hs with ⟨_, x1, x2⟩ | ⟨x1, x2⟩
      · exact .inl ⟨x1, .inl x2⟩
      · exact .inr ⟨x1, x2⟩
    have hs3 : ((iss = iss ∧ (gr = iss ∨ gr = ((iss + 1) % v 0))) ∨ (iss = ((iss + 1) % v 0) ∧ gr = ((iss + 1) % v 0))) := .inl ⟨rfl, by
      rcases hs with ⟨_, x1, x2⟩ | ⟨x1, x2⟩
      · exact .inl x2
      · exact .inr x2⟩
    clear hs
    by_cases w1 : wi = 1
    · subst w1
      refine wpC_any ?_
      try k_fold
      k_steps
      try dsimp only
      (with_reducible rename Nd _ => nd7)
      refine' turn_end' ?zFe1 ?zNe1 ?zSe1 nd7 ?zEe1 rfl rfl he ho (.inr ⟨rfl, rfl⟩) ?zKe1
      case zFe1 => k_asm
      case zNe1 => k_asm
      case zSe1 => k_dflt walk_at "suf"
      case zEe1 => exact rfl
      case zKe1 => assumption

    · by_cases w2 : wi = 2
      · subst w2
        refine wpC_split 1 ?_
        dsimp only [List.take, List.drop]
        k_steps
        try dsimp only
        refine wpC_cons (wpC_If (wpC_any ?_))
        k_steps
        refine wpC_split 1 ?_
        dsimp only [List.take, List.drop]
        k_steps
        try dsimp only
        rename Fr _ _ _ _ => F9
        rename News _ _ _ _ => N9
        rw [mA_come] at F9
        refine wpC_cons (wpC_AssignCall (wpC_evalCall ?_))
        k_steps
        refine callWith_C (K := Mine.hd.heap_1 w.params) (by k_is) ?_
        k_steps
        rename Fr _ _ _ _ => F9
        rename News _ _ _ _ => N9
        refine call_clsC F9 X' N9 (by k_is) (by k_is) (by k_is) ?_
        clear F9
        intro x' dx' h' F9 N7 lx1 lx2
        rename Nd _ => nd6
        have nd7 := nd_new2 nd6 lx1 lx2 rfl
        clear N9 nd6
        refine' ConX.at (con_recv w ?rH) ?rB F9 X' N7 nd7 T' ?rK ?rD ?rU ?rS ?rE ?rR
        case rB => k_asm
        case rK => exact rfl
        case rS => k_dflt walk_at "take"
        case rE => exact rfl
        case rD =>
          simp only [depth_deeper, weight_tc]
          exact Nat.lt_of_le_of_lt (by omega) hd
        case rU =>
          simp only [units_deeper, cunits_tc]
          exact Nat.lt_of_le_of_lt (by omega) hu
        case rH => exact ⟨by omega, trivial⟩
        clear F9 N7 nd7
        intro bya' am' nx' te' kr' nbr fr1 fr2 h' tk' F9 N9 nd9
        subst fr1 fr2
        dsimp only [List.cons_append, List.nil_append] at N9
        dsimp only [List.cons_append, List.nil_append, addrs] at nd9
        dsimp only [InitBack]
        refine ⟨rfl, ?_⟩
        try dsimp only
        k_steps
        try dsimp only
        rename News _ _ _ _ => N9
        rename Nd _ => nd9
        obtain ⟨N8, nd8⟩ := way2 N9 nd9
        clear N9 nd9
        have hk2 : Kind w v ot tot (.int ot tot) (.ref x') (RL w (fun i => [x', dx', bya', am'].getD i 0) nbr kr' v ((ot + 1) % v 0)) := .inr ⟨_, _, _, rfl, rfl, rfl⟩
        clear hk
        refine wpC_any ?_
        k_steps
        try dsimp only
        refine wpC_any ?_
        try k_fold
        k_steps
        try dsimp only
        (with_reducible rename Nd _ => nd7)
        refine' turn_end' ?zFe2 ?zNe2 ?zSe2 nd7 ?zEe2 rfl rfl he ho (.inr ⟨rfl, rfl⟩) ?zKe2
        case zFe2 => k_asm
        case zNe2 => k_asm
        case zSe2 => k_dflt walk_at "suf"
        case zEe2 => exact rfl
        case zKe2 => assumption

      · refine wpC_cons (wpC_If (wpC_any ?_))
        k_steps
        any_goals (exfalso; omega)
        refine wpC_any ?_
        k_steps
        try dsimp only
        refine wpC_cons (wpC_If (wpC_any ?_))
        k_steps
        any_goals (exfalso; omega)
        refine wpC_any ?_
        k_steps
        try dsimp only
        refine wpC_any ?_
        try k_fold
        k_steps
        try dsimp only
        (with_reducible rename Nd _ => nd7)
        refine' turn_end' ?zFe3 ?zNe3 ?zSe3 nd7 ?zEe3 rfl rfl he ho (.inr ⟨rfl, rfl⟩) ?zKe3
        case zFe3 => k_asm
        case zNe3 => k_asm
        case zSe3 => k_dflt walk_at "suf"
        case zEe3 => exact rfl
        case zKe3 => assumption

  case done =>
    clear F9 N8 nd8
    intro I m1 led1 h tk hJ F9 N9
    try dsimp only
    have hgn := gapne hr hi hi2
    revert F9 N9
    refine AllJ_elim hJ ?_
    clear hJ
    intro d oe nx gr wv kt ks kq ka kw cv rv tl e2 e3 he ho hs hk em el nd _ _
    rename Fr _ _ _ _ => F9
    rename News _ _ _ _ => N9
    subst em el
    replace nd := nd_tail nd
    obtain ⟨e1, e4⟩ : nx = ((iss + 1) % v 0) ∧ gr = ((iss + 1) % v 0) := by
      rcases hs with ⟨x0, _, _⟩ | x
      · exact absurd x0 (by omega)
      · exact x
    subst e1 e4
    subst e2 e3
    refine wpC_any ?_
    try k_fold
    k_steps
    all_goals exact ret _ _ _ rfl (end_G (env := envX cn cs L ca ccd cl) rfl N kg' (by assumption) (by assumption) (by assumption) (cb_drop (by assumption) (by (repeat (refine List.forall_mem_cons.mpr ⟨?_, ?_⟩; k_mem)); exact List.forall_mem_nil _))).1 (end_G (env := envX cn cs L ca ccd cl) rfl N kg' (by assumption) (by assumption) (by assumption) (cb_drop (by assumption) (by (repeat (refine List.forall_mem_cons.mpr ⟨?_, ?_⟩; k_mem)); exact List.forall_mem_nil _))).2
set_option maxHeartbeats 8000000 in
theorem con_take (w : World) {src n : Nat} {a b top : Int} {ta tb tt : Tok} (HH : (0 ≤ a) ∧ (0 ≤ b) ∧ (b < 2147483647) ∧ (0 < top) ∧ (top < 2 ^ 40) ∧ True) :
    Con 1 w 1116 [(src, listOf #[.int a ta, .int b tb] n)] ⟨[.ref src, .int top tt], []⟩ (fun C => ∀ (x a' b' : Int), ∀ (t t1 t2 : Tok), (0 ≤ x) → (x < top) → (0 ≤ a') → (0 ≤ b') → (b' < 2147483647) → C (.int x t) [(src, listOf #[.int a' t1, .int b' t2] n)]) := by
  refine ⟨fun _ _ hkZ hPZ x a' b' t t1 t2 fZ0 fZ1 fZ2 fZ3 fZ4 => hkZ _ _ (hPZ x a' b' t t1 t2 fZ0 fZ1 fZ2 fZ3 fZ4), ?_⟩
  obtain ⟨ha, hb, hb2, ht, ht2, _⟩ := HH
  w_on
  unfold Kf P0
  k_fill
  intro view loose mean mg mb dp un gd cn cs ca ccd cl outer A₀ base h₀ L m s R B F X N D T hk hd hu ret
  try dsimp only [addrs] at D
  dsimp only at ret
  k_dflt (refine' code_frame ?k1 ?k2 ?k3 ?k4 ?k5 ?kA ?kF ?kK ?k6 ?k7 ?k8 ?k9 ?kB ?_ ?c2 ?c3 ?c4 ?c5; (case kA => exact rfl); (case kF => exact rfl); (case kK => assumption); (case k1 => k_asm); (case k2 => k_asm); (case k3 => k_asm); (case k4 => k_asm); (case k5 => k_asm); (case k6 => k_is); (case k7 => k_is); (case k8 => k_room); (case k9 => first | exact BindsTo.of_eq rfl | exact binds_K (by k_in) rfl (by k_is) rfl rfl rfl); (case c5 => decide); (case kB => exact locs rfl); (case c2 => exact rfl); (case c3 => exact rfl); (case c4 => exact rfl); k_whole; intro g' L' h' FG' F' N' B' X' T' keep'; (try dsimp only); (refine env_let ?_; intro ev Ak); (try k_fold))
  k_steps
  all_goals first | ((with_reducible rename Nd _ => nd'); refine' fin (s := s) keep' ?zF ?zN ?zG ?zM nd' ?zE ?zT (ret _ _ _ _ _ _ ?_ ?_ ?_ ?_ ?_); (case zF => k_asm); (case zN => k_asm); (case zG => k_asm); (case zM => k_asm); (case zT => k_dflt walk_at "take"); (case zE => exact rfl); all_goals first | assumption | omega | rfl | exact decide_eq_false (by omega) | exact decide_eq_true (by omega) | (simp only [if_true]; first | omega | exact decide_eq_false (by omega))) | (exfalso; omega)
section
local macro_rules | `(tactic| walk_at "con") => `(tactic| ((with_reducible show ConX _ _ _ 1116 _ _ _); refine' con_take _ ?mH))
local macro_rules | `(tactic| walk_at "on") => `(tactic| (intro x' a' b' t' t1' t2' f1' f2' f3' f4' f5' h' tk' F' N' D'; rcases (show x' = 0 ∨ x' = 1 by omega) with ex' | ex' <;> subst ex'; all_goals ((try dsimp only [List.cons_append, List.nil_append] at N'); (try dsimp only [List.cons_append, List.nil_append, addrs] at D'); (try dsimp only); (try k_sweep))))
set_option maxHeartbeats 8000000 in
theorem con_one (w : World) {src th n n2 : Nat} {a b p q : Int} {ta tb tp tq : Tok} (HH : (0 ≤ a) ∧ (0 ≤ b) ∧ (b < 2147483647) ∧ True) :
    Con 2 w 1123 [(src, listOf #[.int a ta, .int b tb] n), (th, listOf #[.int p tp, .int q tq] n2)] ⟨[.ref src, .ref th], []⟩ (fun C => ∀ (y a' b' : Int), ∀ (ty t1 t2 : Tok), ((y = p ∨ y = q)) → (0 ≤ a') → (0 ≤ b') → (b' < 2147483647) → C (.int y ty) [(src, listOf #[.int a' t1, .int b' t2] n), (th, listOf #[.int p tp, .int q tq] n2)]) := by
  refine ⟨fun _ _ hkZ hPZ y a' b' ty t1 t2 fZ0 fZ1 fZ2 fZ3 => hkZ _ _ (hPZ y a' b' ty t1 t2 fZ0 fZ1 fZ2 fZ3), ?_⟩
  obtain ⟨ha, hb, hb2, _⟩ := HH
  w_on
  unfold Kf P0
  k_fill
  intro view loose mean mg mb dp un gd cn cs ca ccd cl outer A₀ base h₀ L m s R B F X N D T hk hd hu ret
  try dsimp only [addrs] at D
  dsimp only at ret
  k_dflt (refine' code_frame ?k1 ?k2 ?k3 ?k4 ?k5 ?kA ?kF ?kK ?k6 ?k7 ?k8 ?k9 ?kB ?_ ?c2 ?c3 ?c4 ?c5; (case kA => exact rfl); (case kF => exact rfl); (case kK => assumption); (case k1 => k_asm); (case k2 => k_asm); (case k3 => k_asm); (case k4 => k_asm); (case k5 => k_asm); (case k6 => k_is); (case k7 => k_is); (case k8 => k_room); (case k9 => first | exact BindsTo.of_eq rfl | exact binds_K (by k_in) rfl (by k_is) rfl rfl rfl); (case c5 => decide); (case kB => exact locs rfl); (case c2 => exact rfl); (case c3 => exact rfl); (case c4 => exact rfl); k_whole; intro g' L' h' FG' F' N' B' X' T' keep'; (try dsimp only); (refine env_let ?_; intro ev Ak); (try k_fold))
  k_steps
  all_goals first | ((try subst_vars); (with_reducible rename Nd _ => nd'); refine' fin (s := s) keep' ?zF ?zN ?zG ?zM nd' ?zE ?zT (ret _ _ _ _ _ _ ?_ ?_ ?_ ?_); (case zF => k_asm); (case zN => k_asm); (case zG => k_asm); (case zM => k_asm); (case zT => k_dflt walk_at "take"); (case zE => exact rfl); all_goals first | assumption | omega | rfl | exact decide_eq_false (by omega) | exact decide_eq_true (by omega) | (simp only [if_true]; first | omega | exact decide_eq_false (by omega))) | (exfalso; omega)
end
local macro_rules | `(tactic| walk_at "con") => `(tactic| first | ((with_reducible show ConX _ _ _ 1116 _ _ _); refine' con_take _ ?mH) | ((with_reducible show ConX _ _ _ 1123 _ _ _); refine' con_one _ ?mH) | ((with_reducible show ConX _ _ _ 1052 _ _ _); refine' con_limits _ ?mH))
local macro_rules | `(tactic| k_room) => `(tactic| ((try simp (config := {zetaDelta := true}) only [List.nil_append, List.append_nil, depth_under_make, depth_under_kw, depth_in1, depth_deeper, depth_caller, depth_mark]); (try dsimp only [ktrTop]); (try simp only [List.nil_append, List.append_nil, weight_tc]); decide))
local macro_rules | `(tactic| k_units) => `(tactic| ((try simp (config := {zetaDelta := true}) only [List.nil_append, List.append_nil, units_in1, units_deeper, Around.mark_units, units_caller]); (try dsimp only [ktrTop]); (try simp only [List.nil_append, List.append_nil, cunits_tc]); decide))
theorem con_all_v (w : World) {li dl wl nw : Nat} {ws : List Value} {iss ot : Int} {ti tot tx : Tok} {o : Array UInt8} {v0 v1 v2 v3 v4 v5 v6 v7 v8 v9 : Int} {kl : Nat → Tok} (hnd : Nd [li, dl, wl]) (hr : 2 < v0) (hi : 0 ≤ iss) (hi2 : iss < v0) (hm : 1 ≤ v1) (hm2 : v1 < 2 ^ 40) (hs1 : 40 ≤ v2) (hs2 : v2 < 2 ^ 40) (hw : 1 ≤ v3) (hw2 : v3 < 2 ^ 40) (hv : 2 * v3 ≤ v0) (hot : 0 ≤ ot) (hot2 : ot < v0) (hz : o.size ≤ 4) (hws : ∀ v ∈ ws, ∃ (i : Int) (t : Tok), v = .int i t) (hlen : 0 < ws.length) :
    ConRC 14 w 1144 [(li, instObj 1055 dl), (dl, D_lim w kl v0 v1 v2 v3 v4 v5 v6 v7 v8 v9), (wl, listOf ws.toArray nw)] ⟨[.ref li, .int iss ti, .int ot tot, .bytes o tx, .ref wl], []⟩ (fun v => v = .bool true) :=
  con_all w (v := (fun i => [v0, v1, v2, v3, v4, v5, v6, v7, v8, v9].getD i 0)) hnd hr hi hi2 hm hm2 hs1 hs2 hw hw2 hv hot hot2 hz hws hlen
theorem nd_off3 {I C D : Addr} {led : List (Addr × Obj)} (off : LCg.Off3 I C D led) (ne : (@Ne Nat I C) ∧ (@Ne Nat I D) ∧ (@Ne Nat C D)) (nd : Nd (addrs led)) : Nd (I :: C :: D :: addrs led) := by
  have h : ∀ a ∈ addrs led, a ≠ I ∧ a ≠ C ∧ a ≠ D := fun a ha => by
    rw [addrs_map] at ha
    obtain ⟨q, hq, rfl⟩ := List.mem_map.mp ha
    exact off.mem q hq
  refine List.nodup_cons.mpr ⟨fun hm => ?_, List.nodup_cons.mpr ⟨fun hm => ?_, List.nodup_cons.mpr ⟨fun hm => ?_, nd⟩⟩⟩
  · rcases List.mem_cons.mp hm with e | hm
    · exact ne.1 e
    rcases List.mem_cons.mp hm with e | hm
    · exact ne.2.1 e
    exact (h _ hm).1 rfl
  · rcases List.mem_cons.mp hm with e | hm
    · exact ne.2.2 e
    exact (h _ hm).2.1 rfl
  · exact (h _ hm).2.2 rfl
theorem nd_off1 {D : Addr} : ∀ {led : List (Addr × Obj)}, LCg.Off1 D led → Nd (addrs led) → Nd (D :: addrs led) := fun {led} off nd => by
  refine List.nodup_cons.mpr ⟨fun hm => ?_, nd⟩
  rw [addrs_map] at hm
  obtain ⟨q, hq, e⟩ := List.mem_map.mp hm
  have : ∀ {l : List (Addr × Obj)}, LCg.Off1 D l → ∀ p ∈ l, p.1 ≠ D := fun {l} => by
    induction l with
    | nil => intro _ p hp; cases hp
    | cons a r ih =>
      intro o p hp
      rcases List.mem_cons.mp hp with rfl | hp
      · exact o.1
      · exact ih o.2 p hp
  exact this off q hq e
theorem nd_3 {I a c : Nat} (h1 : a ≠ I) (h2 : c ≠ I) (h3 : a ≠ c) : Nd [I, a, c] := by
  show List.Nodup _
  simp only [List.nodup_cons, List.mem_cons, List.not_mem_nil, or_false, not_or, not_false_eq_true, List.nodup_nil, and_true]
  exact ⟨⟨h1.symm, h2.symm⟩, h3⟩
theorem nd_2 {a c : Nat} (h3 : a ≠ c) : Nd [a, c] := by
  show List.Nodup _
  simp only [List.nodup_cons, List.mem_cons, List.not_mem_nil, or_false, not_false_eq_true, List.nodup_nil, and_true]
  exact h3
section
variable {w : World} {A A₀ : Around} {s : Shared} {L : Addr} {h₀ base : Heap} {m mg mb : Str → Option Value} {pre news rest : List (Addr × Obj)} {p : Program} {loose : List Str} {mean : ExcName → Option Value}
theorem ConRC.atT {lv : Nat} {f : Addr} {args : Args} {V : Value → Prop} {dp un : Nat} {gd : Option (List Code)} {cn : Str} {cs : Scope} {ca : Addr} {ccd : Value} {cl : List (Str × Addr)} {R : Result → Shared → Prop} {as : List Nat} (C : Nd (addrs pre) → ConRC lv w f pre args V)
    (B : Below A₀ h₀ [] h₀) (F : Fr h₀ L s.heap m) (X : (Kf w).In h₀) (N : News h₀ L s.heap news) (T : Top p loose mean mg mb h₀) (hk : cs.kind = .function) (hd : dp + 8 * lv < recursionLimit) (hu : un + 60 * lv < cLine)
    (D : Nd as) (e : addrs news = as) (t : Take pre news rest)
    (ret : ∀ v h' tk', V v → Fr h₀ L h' m → News h₀ L h' news → R (.ok (.ret v)) { s with heap := h', toks := tk' }) :
    codeC (model P0 w) (ktrTop dp un gd cn cs L ca ccd cl []) (.call (.ref f) args) R s := (C (t.nd1 e D)).at B F X N T hk hd hu t.sub ret
end
theorem nd_perm3 {I a c : Nat} {o1 o2 o3 : Obj} (D : Nd [I, a, c]) : Nd (addrs [(a, o1), (c, o2), (I, o3)]) := by
  have D : [I, a, c].Nodup := D
  show [a, c, I].Nodup
  simp only [List.nodup_cons, List.mem_cons, List.not_mem_nil, or_false, not_or, not_false_eq_true, List.nodup_nil, and_true] at D ⊢
  exact ⟨⟨D.2, fun e => D.1.1 e.symm⟩, fun e => D.1.2 e.symm⟩
set_option maxHeartbeats 8000000 in
theorem law_holds : PySem.Challenge.rw_xw0344_01.Holds := by
  refine Mine.hd ?_
  w_on
  k_fill
  intro w s₀ s₁ mg mb G Y fa o pm cd doc dV kV ho hd hcd hD hmg hg args vals as hpre hlay hrd hwl hlo
  have KX := kIn_of Y
  have X := (Ground.X G).1
  have V := (Ground.X G).2
  refine Ground.open G ?_
  intro T B D TE TW
  obtain ⟨_, _, M⟩ := bmod_of_top T
  clear hmg
  wrow_args hpre hlay hrd hwl hlo
  refine enter_clean ?_
  w_top on
  have K0 := below_caller (Top.heap T)
  have he := Dflts.none hD rfl
  subst he
  have he := Dflts.noKw hD
  subst he
  refine call_cellsC (by decide) ho (fd_plain hd) (Top.nolimit T) hcd rfl (kinds_of (by kinds_ok)) (by decide) fun h₁ tk₁ cells F N0 X0 => ?_
  cells_open X0
  clear hd
  k_drop
  dsimp only
  have nd0 : Nd [s₁.heap.objs.size + 1] := List.nodup_cons.mpr ⟨List.not_mem_nil, List.nodup_nil⟩
  refine wpC_mid 2 (Mid1 s₁.heap s₁.heap.objs.size (s₁.heap.objs.size + 1) s₁) (fun _ _ h => h.1) ?_ ?_
  · dsimp only [List.take]
    refine wpC_cons (wpC_If (wpC_Not (wpC_truthCall (wpC_evalCall ?_))))
    k_steps
    refine callWith_C (K := Mine.hd.heap_1 w.params) (by k_is) ?_
    k_steps
    rename Fr _ _ _ _ => F9
    rename News _ _ _ _ => N9
    rename Nd _ => nd9
    refine wpC_call ?_
    refine' ConRC.atT (fun hn => con_all_v w hn ?A1a ?A2a ?A3a ?A4a ?A5a ?A6a ?A7a ?A8a ?A9a ?A10a ?A11a ?A12a ?A13a ?A14a ?A15a) K0 F9 ?aXa N9 T rfl ?aDa ?aUa nd9 ?aEa ?aTa ?aRa
    case aXa => exact KX
    case aTa => k_dflt walk_at "take"
    case aEa => exact rfl
    case A14a => first | exact hI9 | ((repeat (refine List.forall_mem_cons.mpr ⟨⟨_, _, rfl⟩, ?_⟩)); exact List.forall_mem_nil _)
    case A15a => first | assumption | exact Nat.succ_pos _
    case A13a => first | decide | (simp only [Array.size_replicate]; omega)
    case A1a => omega
    case A2a => omega
    case A3a => omega
    case A4a => omega
    case A5a => omega
    case A6a => omega
    case A7a => omega
    case A8a => omega
    case A9a => omega
    case A10a => omega
    case A11a => omega
    case A12a => omega
    case aDa => decide
    case aUa => decide
    clear F9 N9
    intro v' h' tk' ev' F9 N9
    subst ev'
    try dsimp only
    refine ⟨true, rfl, ?_⟩
    simp only [Bool.not_true, Bool.false_eq_true, if_false]
    refine wpC_any ?_
    k_steps
    try dsimp only
    refine wpC_any ?_
    k_steps
    all_goals first
      | (exfalso; rename decide (_ = []) = false => hne9; exact (of_decide_eq_false hne9) (List.eq_nil_of_length_eq_zero (by omega)))
      | exact mid1 (by assumption) (cb_drop (by assumption) (by (repeat (refine List.forall_mem_cons.mpr ⟨?_, ?_⟩; k_mem)); exact List.forall_mem_nil _)) (by assumption) (by first | omega | (refine Int.mul_nonneg ?_ ?_ <;> (repeat' split) <;> omega)) (by omega) (by omega) (by k_ne)

  · intro s' hM
    dsimp only [List.drop]
    obtain ⟨_, m, h', tk', src, n, a, b, ta, tb, oc, es, h1, h2, h3, h4, hoc, F9, N9⟩ := hM
    subst es
    clear F nd0
    have nd0 := nd_2 h4
    refine wpC_cons (wpC_For ?_)
    k_steps
    rename Fr _ _ _ _ => F9
    rename News _ _ _ _ => N9
    refine' forC_range (n := 3) (J := LawJ (s₁.heap.objs.size + 1) src n) ?hh ?hx ?hp ?hr ?hsm ?hnn F9 (cb_drop N9 ?hdr) (lawJ_start h1 h2 h3 hoc) ?turn ?done
    case hh => rfl
    case hx => rfl
    case hp => rfl
    case hr => assumption
    case hsm => decide
    case hnn => decide
    case hdr => exact (by (repeat (refine List.forall_mem_cons.mpr ⟨?_, ?_⟩; k_mem)); exact List.forall_mem_nil _)
    case done =>
      clear F9 N9
      intro I m1 led1 h tk hJ F9 N9
      try dsimp only
      refine wpC_any ?_
      k_steps
      try dsimp only
      refine GoodW.toG ?_
      wrow_close
    case turn =>
      clear F9 N9
      repeat ((with_reducible rename Nd _ => ndz); clear ndz)
      intro I i t m1 led1 oI h tk hi hJ hne F9 N9
      obtain ⟨a, b, ta, tb, oc, h1, h2, h3, hoc, h5, h6, el⟩ := hJ
      subst el
      clear hne
      have ndI := nd_3 h5 h6 h4
      refine wpC_mid 2 (Mid2 s₁.heap s₁.heap.objs.size (s₁.heap.objs.size + 1) src n I oI s₁) (fun _ _ h => h.1) ?_ ?_
      · dsimp only [List.take]
        have hp32 : (2 : Int) ^ Int.toNat 32 = 4294967296 := by decide
        refine wpC_any ?_
        k_steps
        all_goals exact mid2 (by assumption) (cb_drop (by assumption) (by (repeat (refine List.forall_mem_cons.mpr ⟨?_, ?_⟩; k_mem)); exact List.forall_mem_nil _)) (by assumption) (by first | assumption | omega) (by first | assumption | omega) (by first | assumption | omega) (by first | assumption | omega) (by first | assumption | omega) (by first | assumption | omega) (by first | assumption | omega) (by first | assumption | omega)

      · intro s' hM
        dsimp only [List.drop]
        clear F9 N9 hoc h1 h2 h3
        obtain ⟨_, base, h', tk', a, b, ring, most, ta, tb, tr, tm, oc, es, h1, h2, h3, q1, q2, q3, q4, q5, hoc, F9, N9⟩ := hM
        subst es
        refine wpC_split 3 ?_
        dsimp only [List.take, List.drop]
        k_steps
        try dsimp only
        rename Fr _ _ _ _ => F9
        rename News _ _ _ _ => N9
        refine wpC_cons (wpC_any ?_)
        refine assign_ways (c := s₁.heap.objs.size + 1) (src := src) (n := n) (I₀ := I) (oI₀ := oI) (oc := oc) rfl F9 rfl (by with_unfolding_all rfl) (by with_unfolding_all rfl) (by decide) (by rfl) (by decide) (by rfl) (by rfl) (by rfl) ?_ ?_ ?_
        · k_steps
          exact mid3 (by assumption) (cb_drop (by assumption) (by (repeat (refine List.forall_mem_cons.mpr ⟨?_, ?_⟩; k_mem)); exact List.forall_mem_nil _)) (by assumption) (by first | assumption | omega) (by first | assumption | omega) (by first | assumption | omega) (by first | assumption | omega) (by first | assumption | omega)
        · clear F9 N9
          intro a b ta tb I' oI' C oC D oD h tk E' z1 z2 z3 F9 N9 off ne
          have nd6 := nd_off3 off ne (nd_perm3 ndI)
          clear off
          try dsimp only [addrs] at nd6
          k_steps
          exact stepEnd (by assumption) (cb_drop (by assumption) (by (repeat (refine List.forall_mem_cons.mpr ⟨?_, ?_⟩; k_mem)); exact List.forall_mem_nil _)) (by first | assumption | omega) (by first | assumption | omega) (by first | assumption | omega)
        · clear F9 N9
          intro ys a b ta tb D h tk z1 z2 z3 hI9 hl F9 N9 off
          have nd6 := nd_off1 off (nd_perm3 ndI)
          clear off
          try dsimp only [addrs] at nd6
          try dsimp only
          refine wpC_cons (wpC_If (wpC_Not (wpC_truthCall (wpC_evalCall ?_))))
          k_steps
          refine callWith_C (K := Mine.hd.heap_1 w.params) (by k_is) ?_
          k_steps
          rename Fr _ _ _ _ => F9
          rename News _ _ _ _ => N9
          rename Nd _ => nd9
          refine wpC_call ?_
          refine' ConRC.atT (fun hn => con_all_v w hn ?A1b ?A2b ?A3b ?A4b ?A5b ?A6b ?A7b ?A8b ?A9b ?A10b ?A11b ?A12b ?A13b ?A14b ?A15b) K0 F9 ?aXb N9 T rfl ?aDb ?aUb nd9 ?aEb ?aTb ?aRb
          case aXb => exact KX
          case aTb => k_dflt walk_at "take"
          case aEb => exact rfl
          case A14b => first | exact hI9 | ((repeat (refine List.forall_mem_cons.mpr ⟨⟨_, _, rfl⟩, ?_⟩)); exact List.forall_mem_nil _)
          case A15b => first | assumption | exact Nat.succ_pos _
          case A13b => first | decide | (simp only [Array.size_replicate]; omega)
          case A1b => omega
          case A2b => omega
          case A3b => omega
          case A4b => omega
          case A5b => omega
          case A6b => omega
          case A7b => omega
          case A8b => omega
          case A9b => omega
          case A10b => omega
          case A11b => omega
          case A12b => omega
          case aDb => decide
          case aUb => decide
          clear F9 N9
          intro v' h' tk' ev' F9 N9
          subst ev'
          try dsimp only
          refine ⟨true, rfl, ?_⟩
          simp only [Bool.not_true, Bool.false_eq_true, if_false]
          refine wpC_any ?_
          k_steps
          try dsimp only

          refine wpC_any ?_
          k_steps
          exact law_end (by assumption) (cb_drop (by assumption) (by (repeat (refine List.forall_mem_cons.mpr ⟨?_, ?_⟩; k_mem)); exact List.forall_mem_nil _)) hoc (by first | assumption | omega) (by first | assumption | omega) (by first | assumption | omega) (by first | assumption | omega) (by first | assumption | omega)
end Mine
end
set_option maxRecDepth 100000 in
set_option maxHeartbeats 8000000 in
theorem PySem.Challenge.cw_xw0344_01_holds : PySem.Challenge.rw_xw0344_01.Holds := by
  exact Mine.law_holds
