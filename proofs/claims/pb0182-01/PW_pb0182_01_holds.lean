import PyProof.Rows.All
import Wide.All
import OpenK.AllK
import Wide.FinOn
import KE.KDictOf
import PySem.Challenge.RW_pb0182_01
set_option linter.all false
set_option compiler.extract_closed false
local macro_rules | `(tactic| omega) => `(tactic| first | (law_clear; lia) | lia)
section TextC1
open PySem PySem.W PyProof.Rows PySem.Calls PySem.Spec
open PySem.Sem (wp)
set_option Elab.async false
set_option maxRecDepth 100000
set_option maxHeartbeats 1000000
namespace Mine
/-- a code that is no decoder: a bytearray that it holds is not locked -/
noncomputable def cleanCode : Code → Bool
  | .builtin id _ => !Builtin.Bytes.decodersThatHold.contains id
  | _ => true
noncomputable def CleanL (l : List (Code × Pos)) : Prop := ∀ x ∈ l, cleanCode x.1 = true
/-- wpAny, told of clean stacks alone -/
noncomputable def wpC {α : Type} (M : Model) (A : Around) (t : Sem α) (Q : α → Shared → Prop) (E : Value → Shared → Prop) (s : Shared) : Prop :=
  ∀ Γ p, Γ.In A → cleanCode Γ.code = true → CleanL Γ.below → wp M Γ t (fun a _ s' => Q a s') (fun e _ s' => E e s') p s
noncomputable def codeC (M : Model) (A : Around) (c : Code) (R : Result → Shared → Prop) (s : Shared) : Prop :=
  ∀ Γ p, Γ.code = c → Γ.Below A → CleanL Γ.below → wpCode M Γ R p s

section
variable {α β : Type} {M : Model} {A : Around} {E : Value → Shared → Prop} {s : Shared}
theorem wpC_any {t : Sem α} {Q : α → Shared → Prop} (h : wpAny M A t Q E s) : wpC M A t Q E s := fun Γ p hΓ _ _ => h Γ p hΓ
theorem codeC_any {c : Code} {R : Result → Shared → Prop} (h : codeAny M A c R s) : codeC M A c R s := fun Γ p hc hΓ _ => h Γ p hc hΓ
theorem wpC_pure {a : α} {Q : α → Shared → Prop} (h : Q a s) : wpC M A (pure a) Q E s := wpC_any (wpAny_pure h)
theorem wpC_mono {t : Sem α} {Q Q' : α → Shared → Prop} {E' : Value → Shared → Prop} (h : wpC M A t Q E s) (hQ : ∀ a s, Q a s → Q' a s) (hE : ∀ e s, E e s → E' e s) : wpC M A t Q' E' s :=
  fun Γ p hΓ h1 h2 => Sem.wp_mono M Γ t (fun a _ s => hQ a s) (fun e _ s => hE e s) p s (h Γ p hΓ h1 h2)
theorem wpC_bind {m : Sem α} {f : α → Sem β} {Q : β → Shared → Prop} (h : wpC M A m (fun a s' => wpC M A (f a) Q E s') E s) : wpC M A (m >>= f) Q E s := fun Γ p hΓ h1 h2 => by
  rw [Sem.wp_bind']
  exact Sem.wp_mono M Γ m (fun a p' s' h' => h' Γ p' hΓ h1 h2) (fun _ _ _ h' => h') p s (h Γ p hΓ h1 h2)
/-- a plain part, then a part on a clean stack -/
theorem wpC_bindA {m : Sem α} {f : α → Sem β} {Q : β → Shared → Prop} (h : wpAny M A m (fun a s' => wpC M A (f a) Q E s') E s) : wpC M A (m >>= f) Q E s := wpC_bind (wpC_any h)
theorem wpC_tryCatch {m : Sem α} {k : Value → Sem α} {Q : α → Shared → Prop} (h : wpC M A m Q (fun e s' => wpC M A (k e) Q E s') s) : wpC M A (tryCatch m k) Q E s := fun Γ p hΓ h1 h2 => by
  rw [Sem.wp_tryCatch']
  exact Sem.wp_mono M Γ m (fun _ _ _ h' => h') (fun e p' s' h' => h' Γ p' hΓ h1 h2) p s (h Γ p hΓ h1 h2)
theorem wpC_onRaise {m : Sem α} {k : Value → Sem Unit} {Q : α → Shared → Prop} (h : wpC M A m Q (fun e s' => wpAny M A (k e) (fun _ s'' => E e s'') E s') s) : wpC M A (m.onRaise k) Q E s := fun Γ p hΓ h1 h2 => by
  rw [Sem.wp_onRaise]
  exact Sem.wp_mono M Γ m (fun _ _ _ h' => h') (fun e p' s' h' => h' Γ p' hΓ) p s (h Γ p hΓ h1 h2)
theorem wpC_attempt {m : Sem α} {Q : Except Value α → Shared → Prop} (h : wpC M A m (fun a => Q (.ok a)) (fun e => Q (.error e)) s) : wpC M A m.attempt Q E s := fun Γ p hΓ h1 h2 => by
  rw [Sem.wp_attempt]; exact h Γ p hΓ h1 h2
theorem wpC_holding {vs : List Value} {m : Sem α} {Q : α → Shared → Prop} (h : wpC M A m Q E s) : wpC M A (holding vs m) Q E s := fun Γ p hΓ h1 h2 => by
  rw [Sem.wp_holding]; exact h Γ p hΓ h1 h2
theorem wpC_keep {vs : List Value} {m : Sem α} {Q : α → Shared → Prop} (h : wpC M A m Q E s) : wpC M A (m.keep vs) Q E s := fun Γ p hΓ h1 h2 => by
  rw [Sem.wp_keep]; exact h Γ p hΓ h1 h2
theorem wpC_standAt {pos : Pos} {f : Unit → Sem β} {Q : β → Shared → Prop} (h : wpC M A (f ()) Q E s) : wpC M A (standAt pos >>= f) Q E s := wpC_bindA (wpAny_standAt h)
theorem wpC_of_eq {t t' : Sem α} {Q : α → Shared → Prop} (e : t = t') (h : wpC M A t' Q E s) : wpC M A t Q E s := e ▸ h
theorem codeC_mono {c : Code} {R R' : Result → Shared → Prop} (h : codeC M A c R s) (hR : ∀ r s, R r s → R' r s) : codeC M A c R' s := fun Γ p hc hΓ hl => wpCode_mono hR (h Γ p hc hΓ hl)

theorem clean_enter {Γ : PySem.Ctx} {p : Pos} (h1 : cleanCode Γ.code = true) (h2 : CleanL Γ.below) : CleanL ((Γ.code, p) :: Γ.below) := fun x hx => by
  rcases List.mem_cons.mp hx with rfl | hx
  · exact h1
  · exact h2 x hx
theorem wpC_run {c : Code} {h : Option Value} {Q : Flow → Shared → Prop} (hc : codeC M (A.mark h) c (fun r s' => match r with | .ok f => Q f s' | .error e => E e s') s) (hnb : h ≠ some byPass := by intro x; cases x) : wpC M A (run c h) Q E s :=
  fun Γ p hΓ h1 h2 => by rw [Sem.wp_run]; exact hc _ p rfl (hΓ.enter c h p hnb) (clean_enter h1 h2)
theorem wpC_runOwn {c : Code} {env : Env} {h : Option Value} {Q : Flow → Shared → Prop}
    (hc : codeC M (A.mark h) c (fun r s' => match r with | .ok f => Q f s' | .error e => cameBackBy M A env E e s') s) (hnb : h ≠ some byPass := by intro x; cases x) : wpC M A (runOwn c env h) Q E s := by
  unfold runOwn
  exact wpC_onRaise (wpC_run hc hnb)
theorem wpC_runValue {c : Code} {Q : Value → Shared → Prop} (hc : codeC M A c (fun r s' => match r with | .ok (.ret v) => Q v s' | .ok _ => False | .error e => E e s') s) : wpC M A (runValue c) Q E s :=
  fun Γ p hΓ h1 h2 => by rw [Sem.wp_runValue]; exact hc _ p rfl (hΓ.enter c none p (by intro x; cases x)) (clean_enter h1 h2)
theorem wpC_call {f : Value} {pos : List Value} {kw : List (Str × Value)} {Q : Value → Shared → Prop}
    (hc : codeC M A (.call f ⟨pos, kw⟩) (fun r s' => match r with | .ok (.ret v) => Q v s' | .ok _ => False | .error e => E e s') s) : wpC M A (call f pos kw) Q E s := wpC_runValue hc
theorem codeC_of_tree {c : Code} {R : Result → Shared → Prop} (hcl : cleanCode c = true)
    (h : wpC M (A.under c) (M.den c) (fun fin s' => match fin with | .done f => R (.ok f) s' | .again c' => c'.quiet = true ∧ codeC M A c' R s') (fun e s' => R (.error e) s') s) : codeC M A c R s := fun Γ p hc hΓ hl => by
  rw [wpCode_iff_wp, hc]
  refine Sem.wp_mono M Γ _ (fun fin p' s' h' => ?_) (fun _ _ _ h' => h') p s (h Γ p (hc ▸ hΓ.in) (hc ▸ hcl) hl)
  cases fin with
  | done f => exact h'
  | again c' => exact ⟨h'.1, h'.2 (Γ.goto c') p' rfl (hΓ.goto c') hl⟩
theorem codeC_loop {c : Code} {R : Result → Shared → Prop} (hcl : cleanCode c = true) (hq : c.quiet = true) (I : Nat → Shared → Prop)
    (turn : ∀ n s, I n s → wpC M (A.under c) (M.den c)
      (fun fin s' => match fin with | .done f => R (.ok f) s' | .again c' => (c' = c ∧ ∃ m, m < n ∧ I m s') ∨ (c'.quiet = true ∧ codeC M A c' R s')) (fun e s' => R (.error e) s') s)
    (n : Nat) (h : I n s) : codeC M A c R s := by
  induction n using Nat.strongRecOn generalizing s with
  | ind n ih =>
    refine codeC_of_tree hcl (wpC_mono (turn n s h) (fun fin s' hf => ?_) fun _ _ h' => h')
    cases fin with
    | done f => exact hf
    | again c' =>
      rcases hf with ⟨rfl, m, hm, hI⟩ | hf
      · exact ⟨hq, ih m hm hI⟩
      · exact hf

theorem guard_no {id : String} {args : Args} (h : (Code.builtin id args).isGuard = false) (e : guardIds.contains id = true) : False := by
  have : guardIds.contains id = false := h
  rw [e] at this; cases this
/-- the stack holds no lock on a bytearray -/
theorem dite_no {c : Prop} [i : Decidable c] {t : c → Bool} {e : ¬c → Bool} (h : ¬c) (he : e h = false) : dite c t e = false := by
  rw [dif_neg h]; exact he
theorem wpC_exported {v : Value} {Q : Bool → Shared → Prop} (hg : A.guards = some []) (h : Q false s) : wpC M A (Builtin.Bytes.exported v) Q E s := fun Γ p hΓ h1 h2 => by
  have key : ∀ x ∈ (Γ.code, p) :: Γ.below, x.1.isGuard = false ∧ cleanCode x.1 = true := by
    intro x hx
    refine ⟨?_, clean_enter h1 h2 x hx⟩
    have e := hΓ.2.2.2.1 _ hg
    rw [← guardsOf_cons Γ.code p] at e
    cases q : x.1.isGuard with
    | false => rfl
    | true =>
      have : x.1 ∈ guardsOf ((Γ.code, p) :: Γ.below) := List.mem_filter.mpr ⟨List.mem_map_of_mem hx, q⟩
      rw [e] at this; cases this
  have any_no : ∀ F : Code × Pos → Bool, (∀ c q, c.isGuard = false → cleanCode c = true → F (c, q) = false) → ((Γ.code, p) :: Γ.below).any F = false := fun F hF =>
    List.any_eq_false.mpr fun x hx => by rw [hF x.1 x.2 (key x hx).1 (key x hx).2]; exact Bool.false_ne_true
  delta Builtin.Bytes.exported
  show Q (((Γ.code, p) :: Γ.below).any _) s
  refine (any_no _ ?_).symm ▸ h
  intro c q kg kc
  cases c with
  | builtin id args =>
    delta Builtin.Bytes.exported.match_1
    refine dite_no (fun z => ?_) (dite_no (fun z => ?_) (dite_no (fun z => ?_) (dite_no (fun z => ?_) (dite_no (fun z => ?_) ?_))))
    iterate 5 exact guard_no (args := args) (z ▸ kg) (by decide +kernel)
    obtain ⟨pos, kw⟩ := args
    cases pos with
    | nil => rfl
    | cons a r =>
      have kc' : (!Builtin.Bytes.decodersThatHold.contains id) = true := kc
      show (_ && Builtin.Bytes.decodersThatHold.contains id) = false
      rw [(Bool.not_eq_true' _).mp kc', Bool.and_false]
  | _ => rfl
end
/-- a world, any one -/
noncomputable def wDef : World := ⟨fun _ _ => 0, { strHash := fun _ => 0, shareClass := fun a => a, mergeTok := fun t => t, idOf := fun a => a, idOfShared := fun _ _ => 0, followText := fun _ => false, idOfImm := fun _ => 0 }⟩
/-- what holds of the would-be counterexample holds of all -/
theorem eps_all {α : Type} {i : Nonempty α} {P : α → Prop} (h : P (@Classical.epsilon α i fun v => ¬ P v)) : ∀ v, P v := fun v =>
  Classical.byContradiction fun hn => (Classical.epsilon_spec (p := fun v => ¬ P v) ⟨v, hn⟩) h
theorem fa_cons {α : Type} {a : α} {l : List α} {P : α → Prop} (h1 : P a) (h2 : ∀ q ∈ l, P q) : ∀ q ∈ a :: l, P q := List.forall_mem_cons.mpr ⟨h1, h2⟩
end Mine
end TextC1
section TextH1
open PySem PySem.W PyProof.Rows PySem.Calls
open PySem.Sem (wp)
set_option Elab.async false
set_option maxRecDepth 100000
set_option maxHeartbeats 4000000
namespace Mine
/-- a long goal behind a letter -/
theorem goal_by {G : Prop} (h : ∀ P : Prop, (G → P) → P) : G := h G id
/-- a thread that begins with the claim's caller stands on a clean stack: what holds of clean stacks holds of its run -/
theorem thread_clean {prog : Program} {w : World} {t : Sem PySem.Fin} {s : Shared} {R : Result → Shared → Prop} (hreg : s.asleep)
    (h : wpC (model prog w) callerA t (fun fin s' => ∃ f, fin = .done f ∧ (R (.ok f) s' ∧ s'.gens = #[])) (fun e s' => R (.error e) s' ∧ s'.gens = #[]) s) :
    ∃ n r s' s'', PySem.runN (denote table) prog w n s ⟨t, .builtin "claim.caller" {}, default, []⟩ = .halted (outcomeOf r) s' ∧
      schedN (denote table) prog w n (.single s ⟨t, .builtin "claim.caller" {}, default, []⟩) = .halted (outcomeOf r) s' ∧ s'.forget = s''.forget ∧ R r s'' := by
  have hc : cleanCode (.builtin "claim.caller" {}) = true := by
    show (!Builtin.Bytes.decodersThatHold.contains "claim.caller") = true
    decide +kernel
  have h0 := h ⟨.builtin "claim.caller" {}, none, none, [], none⟩ default caller_in hc (fun x hx => by cases hx)
  obtain ⟨n, r, s₁, s₂, hs, hn, hfo, hR⟩ := wp_halts_full (M := model prog w) (R := R) (c := .builtin "claim.caller" {}) (t := t) (p := default) hreg
    (Sem.wp_mono _ _ _ (fun fin p' s' z => by
      obtain ⟨f, rfl, z1, z2⟩ := z
      exact ⟨z1, by rw [z2]; simp [leftWithCleanup]⟩) (fun e _ s' z => ⟨z.1, by rw [z.2]; simp [leftWithCleanup]⟩) _ _ h0)
  exact ⟨n, r, s₂, s₁, hn, hs, hfo, hR⟩

noncomputable abbrev WalkC (q : Program) (loose : List Str) (XP : (Str → Option Value) → Heap → Prop) (YP : World → Heap → Prop) (r : RowW) (d : DefRec) (kwd : List (Str × Expr)) : Prop :=
  ∀ (w : World) (s₀ s₁ : Shared) (mg mb : Str → Option Value), Ground q loose r.records XP w s₀ mg mb s₁.heap → YP w s₁.heap → ∀ (a : Addr) (o : Obj) (pm cd doc dV kV : Value), s₁.heap.get? a = some o →
    o.data = .func { docDef d.name d.params d.body d.scope pm cd doc with defaults := dV, kwdefaults := kV } → s₁.heap.CodeRec cd d.name → Dflts mg s₁.heap d.params kwd dV kV → mg d.name = some (.ref a) → s₁.gens = #[] →
    ∀ (args : List WData) (vals : List Value) (as : List Addr), r.claim.pre args = true → WData.layableAll args = true → ReadsAllW r.records (classAt s₀.heap) s₁.heap vals args as → WellAll w.params s₁.heap vals args → (∀ a ∈ as, (a == sysModules) = false) →
      wpC (model r.prog w) callerA (PySem.call (.ref a) vals) (fun v s' => GoodWG r.claim (classAt s₀.heap) (ExcName.means s₀.heap) args s₁ (.ok (.ret v)) s' ∧ s'.gens = #[])
        (fun e s' => GoodWG r.claim (classAt s₀.heap) (ExcName.means s₀.heap) args s₁ (.error e) s' ∧ s'.gens = #[]) s₁

/-- the head for a walk on a clean stack; o_head finds it by this name -/
theorem PySem.W.holds_open {r : OpenRow} {q : Program} {loose : List Str} {Xt : Shared → Bool} {XP : (Str → Option Value) → Heap → Prop} {α : Type} {Yf : Shared → α} {Ya : World → α} {YP : World → Heap → Prop} {d : DefRec} {kwd : List (Str × Expr)} {N : Nat}
    (left : LeftO r.prog q loose Xt Yf Ya N) (hY : ∀ w s, Yf s = Ya w → YP w s.heap) (hYk : ∀ w h h', YP w h → (∀ b o, h.get? b = some o → h'.get? b = some o) → YP w h')
    (hX : ∀ s, Xt s = true → XP (s.heap.nsMap mainGlobals) s.heap) (hXk : ∀ mg h h', XP mg h → (∀ b o, h.get? b = some o → h'.get? b = some o) → XP mg h')
    (hdef : defOf q r.name = some (d, kwd)) (hp : r.prog.theDef r.name = some (d.params, d.body, d.scope)) (hk : kwWritten? d.params.kwonlyargs d.params.kw_defaults = some kwd) (hRf : ∀ s, Xt s = true → RecFacts r.records s.heap) (hwr : (!r.writes || r.records.isEmpty) = true)
    (k1 : r.wellSaid = true) (ok : (chainsOk q && opensWell r.prog && (frees r.toRowW && r.within.isEmpty)) = true) (hb : r.prog.bare) (hw : r.toRowW.promised)
    (call : WalkC q loose XP YP r.toRowW d kwd) : r.Holds := by
  obtain ⟨ok, k5⟩ := Bool.and_eq_true_iff.mp ok
  obtain ⟨hch, o1⟩ := Bool.and_eq_true_iff.mp ok
  obtain ⟨k5, k6⟩ := Bool.and_eq_true_iff.mp k5
  obtain ⟨hsame, hu, ha, hap, hm⟩ := frees_parts k5
  refine ⟨k1, hw, ⟨hb, o1, by show r.makers.map _ = []; rw [hm]; rfl⟩, hw.witness, fun w => ⟨(left.behind hX hch w).1, fun sA hA => goal_by fun Z hZ => ?_⟩⟩
  obtain ⟨s₀, hf, hg0, s, hT, hz, hgens, hg, G00, y⟩ := (left.behind (XP := fun mg h => XP mg h ∧ RecFacts r.records h) (fun s hs => ⟨hX s hs, hRf s hs⟩) hch w).2 sA hA
  have G0 : Ground q loose [] XP w s (s.heap.nsMap mainGlobals) (s.heap.nsMap builtinsNs) s.heap := ⟨G00.T, G00.B, G00.D, G00.TE, G00.TD, G00.W, G00.X.1, G00.cls, G00.has, G00.apart, G00.once, G00.K⟩
  have RF := G00.X.2
  refine hZ ⟨s₀, hf, hg0, s, hT, fun n hn => ?_, RF.1, RF.2.1, ?_⟩
  clear hZ Z
  · obtain rfl : n = r.name := by split at hn <;> simp_all
    exact pinned_of_view hg G0 hdef hp hk
  have hgens : s.gens = #[] := Array.eq_empty_of_size_eq_zero (beq_iff_eq.mp hgens)
  have G : Ground q loose r.records XP w s _ _ s.heap := RF.ground G0
  intro args hpre hlay ord hord
  refine goal_by fun Z hZ => ?_
  obtain ⟨⟨vs, s₁⟩, hlaid⟩ := Option.isSome_iff_exists.mp (layAllW_isSome (P := w.params) (ord := ord) G.has args r.args s (pre_splitW hpre).1)
  have keeps := layAllW_keeps _ _ _ hlaid
  have hal := layAllW_rest _ _ _ hlaid
  obtain ⟨as, hrd, hin, hold⟩ := reads_layAllW hord _ _ _ hlaid hlay s₁.heap (fun _ _ e => e)
  have L : Laid r.records w s s₁ args vs as := ⟨⟨ord, hord, hlaid⟩, hrd, hin, hold, keeps, hal.1.trans hgens, hal.2.2.1⟩
  have G₁ := G.keeps hXk keeps
  obtain ⟨a, o, pm, cd, doc, dV, kV, h1, h2, h3, h4, h5⟩ := G₁.fn hdef
  have walk := call w s s₁ _ _ G₁ (hYk _ _ _ (hY w s y) keeps) a o pm cd doc dV kV h2 h3 h4 h5 (defOf_name hdef ▸ h1) L.gens args vs as hpre hlay L.reads L.well (L.low G.low)
  have hi := ident_freeW hu ha hap
  have hwi : r.claim.within = [] := List.isEmpty_iff.mp k6
  obtain ⟨k, res, s', s'', hrun, hsched, hfo, hgW⟩ := thread_clean (prog := r.prog) (w := w) (s := s₁) (t := (do match ← nsGet mainNs r.name with
      | some f => do ret (← PySem.call f vs)
      | none => unsupported "claim.caller:no-such-global"))
    (R := fun res s' => GoodWG r.claim (classAt s.heap) (ExcName.means s.heap) args s₁ res s') (Shared.asleep_of_life hal.2.2.2 hz)
    (wpC_bindA (wpAny_nsGet G₁.T.g (by
      rw [h1]
      exact wpC_bind (wpC_mono walk (fun v s' z => wpC_pure ⟨_, rfl, z⟩) fun e s' z => z))))
  have z := hgW.laid (c := r.claim) hsame hwi hi L
  obtain ⟨eh, _, _, eo, _⟩ := Shared.forget_eq hfo
  have hcase := z.1.congr eh
  have hos : s'.os = s.os := by rw [eo]; exact z.2.1
  have hkp : ∀ b o, s₁.heap.get? b = some o → asItWas s₁.heap s'.heap b o := fun b o e => by rw [eh]; exact hgW.2.1.old b o e
  have hlife : s'.heap.life = s.heap.life := (runN_life _ _ _ hrun).trans hal.2.2.2
  refine hZ ⟨vs, s₁, hlaid, k, _, s', hsched, ?_, (fun _ i x hx => by rw [hgens] at hx; simp at hx), fun q => ⟨namesKept_of hT hg _ keeps hkp, noTable hwr q⟩, by rw [hlife], Shared.rest_eq hos⟩
  refine goal_by fun Z hZ => ?_
  rcases hcase with ⟨v, rfl, d1, d2, d3, d4, d5⟩ | ⟨e, ob, cls, rfl, d1, d2, d3, d4, d5⟩
  · exact hZ (.inl ⟨v, rfl, d1, d2, d3, fun b o y _ => d4 b o y, d5⟩)
  · exact hZ (.inr ⟨e, ob, cls, rfl, d1, d2, d3, d4, fun b o y _ => d5 b o y⟩)
end Mine
end TextH1
section TextHd
open PySem PySem.W PyProof.Rows
set_option Elab.async false
set_option maxRecDepth 100000
set_option maxHeartbeats 8000000
namespace Mine
/-- the entries of the built-ins' namespace, as the start-up lays them -/
noncomputable def bEntry (P : Params) (x : (String × Manifest.BuiltinName) × Nat) : DictEntry :=
  ⟨reduceHash (P.strHash (Str.ofString x.1.1).cps), .str (Str.ofString x.1.1) (x.2 + 1), if x.2 = 0 then .str (Str.ofString "builtins") 160 else builtinAtStartup x.1.1 x.1.2⟩
noncomputable def bEntries (P : Params) : Array DictEntry := (Manifest.builtinsNames.zipIdx.map (bEntry P)).toArray
noncomputable def bDict (P : Params) : Obj := ⟨.type "dict", none, .dict (bEntries P) 159, #[]⟩
/-- what the head tells of the heap, and the built-ins' namespace besides -/
noncomputable def withB (H : Hook) : Hook where
  α := H.α × Option Obj
  obs := fun s => (H.obs s, s.heap.get? (nat_lit 0))
  val := fun w => (H.val w, some (bDict w.params))
  says := fun w h => H.says w h ∧ h.get? (nat_lit 0) = some (bDict w.params)
  of := fun w s x => by
    obtain ⟨h1, h2⟩ := Prod.mk.inj x
    exact ⟨H.of w s h1, h2⟩
  keeps := fun w h h' x k => ⟨H.keeps w h h' x.1 k, k _ _ x.2⟩
/-- the statements of the text that the law reaches, and it itself -/
noncomputable def hdView : Program := { PySem.Challenge.rw_pb0182_01.row.prog with main := { PySem.Challenge.rw_pb0182_01.row.prog.main with body := [0, 2, 4, 5, 7, 8, 9, 12, 13, 14, 17, 18, 20, 21, 22, 23, 24, 25].filterMap fun i => PySem.Challenge.rw_pb0182_01.row.prog.main.body[i]? } }
noncomputable def hdLoose : List Str := [Str.ofString "ShapeError", Str.ofString "laid", Str.ofString "write_coverage"]
/-- the row is well said: looked at leaf by leaf, by the kernel -/
theorem said_ok : OpenLaw.wellSaid PySem.Challenge.rw_pb0182_01 = true := by
  rw [Fast.te9446332074065402090]
  delta Fast.tw9446332074065402090
  repeat' (first
    | with_reducible refine look_both ?_ ?_
    | delta Fast.tw17960256430627541270
    | delta Fast.tw2436336058641802641
    | delta Fast.tw12908688711261696721)
  all_goals decide +kernel
/-- the run of the text's top over a tree of objects: less work for the kernel -/
noncomputable def topRunT (tb : String → Option Builtin) (p : Program) (w : World) (n₀ : Nat) (ann : Option Value) : Nat → SharedT → Thread → Option SharedT
  | 0, _, _ => none
  | n + 1, s, t => match through t with
    | true => some s
    | false => match Fast.tw6613529449190102663 n₀ ann t with
      | false => none
      | true => match Fast.tw10156331382660048174 (Fast.tw11892475500146522536 tb) p w s t with
        | some (s', t') => topRunT tb p w n₀ ann n s' t'
        | none => none
theorem topRun_of {tb : String → Option Builtin} {p : Program} {w : World} {n₀ : Nat} {ann : Option Value} : ∀ {n : Nat} {s s' : SharedT} {t : Thread}, topRunT tb p w n₀ ann n s t = some s' → topRun tb p w n₀ ann n s.abs t = some s'.abs := by
  intro n
  induction n with
  | zero => intro s s' t h; cases h
  | succ n ih =>
    intro s s' t h
    unfold topRunT at h
    rw [← Fast.te6613529449190102663, ← Fast.te10156331382660048174, ← Fast.te11892475500146522536] at h
    unfold topRun
    cases he : through t with
    | true => rw [he] at h; cases h; rfl
    | false =>
      rw [he] at h
      cases hk : stepOk n₀ ann t with
      | false => rw [hk] at h; cases h
      | true =>
        rw [hk] at h
        cases hs : stepT (denote tb) p w s t with
        | none => rw [hs] at h; cases h
        | some r => obtain ⟨s₂, t₂⟩ := r; rw [hs] at h; rw [stepT_spec hs]; exact ih h
noncomputable def bootT (P : Params) : BT := (.node (boot_o_0 P) (.node (boot_o_1 P) (.node (boot_o_3 P) (.node (boot_o_7 P) .nil .nil) .nil) (.node (boot_o_5 P) (.node (boot_o_9 P) .nil .nil) .nil)) (.node (boot_o_2 P) (.node (boot_o_4 P) (.node (boot_o_8 P) .nil .nil) .nil) (.node (boot_o_6 P) (.node (boot_o_10 P) .nil .nil) .nil)))
theorem boot_abs (P : Params) : absHeap (bootT P) 11 (boot_heap P).life = boot_heap P := by kernel_rfl
theorem left_T {p q : Program} {loose : List Str} {Xt : Shared → Bool} {α : Type} {Yf : Shared → α} {Ya : World → α} {N : Nat} {g0 : Bool} (e : opening p = plainProg p.main.scope.names) (hN : Nat.ble 600 N = true) (f : ∀ s, fenceModules? p s = some s)
    (size : ∀ P : Params, ((boot_heap P).isNs mainGlobals && (Array.mk [] : Array GenState).size == 0, (boot_heap P).objs.size, (boot_heap P).nsMap mainGlobals "__annotations__") = (true, 11, some (.ref 6)))
    (h : ∀ (w : World) (os : OsState), (topRunT Fast.tw14364793385576792824 p w 11 (some (.ref 6)) N ⟨bootT w.params, 11, (boot_heap w.params).life, Array.mk [], boot_drawn, boot_toks, os⟩ (topStub p)).map (fun s =>
      (staticsOk (importedModules p.main.body) (boot_heap w.params) s.abs.heap && namesBound p s.abs.heap && gensDone s.abs && laidKept (boot_heap w.params) s.abs.heap, Fast.tw4187177175401517315 q loose (importedModules p.main.body) Xt g0 s.abs, Yf s.abs)) = some (true, openGood q loose, Ya w)) : LeftO p q loose Xt Yf Ya N g0 := fun w => by
  obtain ⟨⟨hp, gs, d, k, os⟩, e1, e2⟩ := Option.map_eq_some_iff.mp (boot_open e hN f w)
  obtain ⟨rfl, rfl, rfl, rfl⟩ : hp = boot_heap w.params ∧ gs = Array.mk [] ∧ d = boot_drawn ∧ k = boot_toks := by
    have z := Prod.mk.inj e2
    have z2 := Prod.mk.inj z.2
    have z3 := Prod.mk.inj z2.2
    exact ⟨z.1, z2.1, z3.1, z3.2⟩
  obtain ⟨s, r, l⟩ := Option.map_eq_some_iff.mp (h w os)
  have r := topRun_of r
  rw [← Fast.te14364793385576792824] at r
  have l1 := Prod.mk.inj l
  rw [← Fast.te4187177175401517315] at l1
  have z := Prod.mk.inj (size w.params)
  have z2 := Prod.mk.inj z.2
  have r : topRun treeTable p w 11 (some (.ref 6)) N ⟨boot_heap w.params, Array.mk [], boot_drawn, boot_toks, os⟩ (topStub p) = some s.abs := by
    have q : SharedT.abs ⟨bootT w.params, 11, (boot_heap w.params).life, Array.mk [], boot_drawn, boot_toks, os⟩ = ⟨boot_heap w.params, Array.mk [], boot_drawn, boot_toks, os⟩ := congrArg (fun H => Shared.mk H (Array.mk []) boot_drawn boot_toks os) (boot_abs w.params)
    rw [← q]; exact r
  have t : topFrom treeTable p w N ⟨boot_heap w.params, Array.mk [], boot_drawn, boot_toks, os⟩ = some s.abs := by
    unfold topFrom
    dsimp only
    rw [z.1, z2.1, z2.2, r]
    show (match staticsOk (importedModules p.main.body) (boot_heap w.params) s.abs.heap && namesBound p s.abs.heap && gensDone s.abs && laidKept (boot_heap w.params) s.abs.heap with | true => _ | false => _) = _
    rw [l1.1]
  unfold openEnds
  rw [e1]
  show (topFrom treeTable p w N _).map _ = _
  rw [t]
  exact congrArg some l1.2
noncomputable def hdXt (s : Shared) : Bool := xlAt hdView [] s && recOk (RowW.records (OpenRow.toRowW PySem.Challenge.rw_pb0182_01.row)) s
theorem head_of {H : Hook} {d : DefRec} {kwd : List (Str × PySem.Expr)} (hl : LeftO PySem.Challenge.rw_pb0182_01.row.prog hdView hdLoose hdXt (Hook.obs (withB H)) (Hook.val (withB H)) 4314)
    (hdef : defOf hdView PySem.Challenge.rw_pb0182_01.row.name = some (d, kwd)) (hp : PySem.Challenge.rw_pb0182_01.row.prog.theDef PySem.Challenge.rw_pb0182_01.row.name = some (d.params, d.body, d.scope)) (hk : kwWritten? d.params.kwonlyargs d.params.kw_defaults = some kwd)
    (k1 : PySem.Challenge.rw_pb0182_01.row.wellSaid = true) (hw : PySem.Challenge.rw_pb0182_01.row.toRowW.promised) (hc : WalkC hdView hdLoose (XL hdView []) (Hook.says (withB H)) PySem.Challenge.rw_pb0182_01.row.toRowW d kwd) : PySem.Challenge.rw_pb0182_01.row.Holds :=
  Mine.PySem.W.holds_open hl (Hook.of (withB H)) (Hook.keeps (withB H)) (fun s e => xl_of s (Bool.and_eq_true_iff.mp e).1) XL.keeps hdef hp hk (fun s e => recFacts_of (Bool.and_eq_true_iff.mp e).2) (by rfl) k1 (by decide +kernel)
    ⟨rfl, rfl, rfl, rfl, rfl, by decide +kernel⟩ hw hc
local macro_rules | `(tactic| o_law) => `(tactic| refine holds_law said_ok fun said => ?_)
local macro_rules | `(tactic| o_head $H) => `(tactic| (refine head_of (H := $H) ?hl (by rfl) (by rfl) (by rfl) (by assumption) ?hw ?hc; case hl => exact left_T (by kernel_rfl) (by decide) (fun s => by rfl) (fun P => by kernel_rfl) (fun w os => by kernel_rfl)))
open_top hd0 for PySem.Challenge.rw_pb0182_01
noncomputable abbrev KF : Params → Frag := hd0.heap_1
end Mine
end TextHd
section TextB1
open PySem PySem.W PyProof.Rows
set_option Elab.async false
set_option maxRecDepth 100000
set_option maxHeartbeats 1000000
namespace Mine
theorem ar_step {i n : Nat} (h : i < n) : n + 1 - (i + 1) < n + 1 - i := Nat.sub_lt_sub_left (Nat.lt_succ_of_lt h) (Nat.lt_succ_self i)
theorem ar_pred {i n : Nat} (h : i < n) : ∃ k, n - i = k + 1 := ⟨n - i - 1, (Nat.sub_add_cancel (Nat.sub_pos_of_lt h)).symm⟩
theorem ar_pred2 {n j k : Nat} (h : n - j = k + 1) : n - (j + 1) = k := by rw [Nat.sub_add_eq, h]; rfl
theorem ar_min2 {b a n : Nat} (h : n = 1 + b + a) : min b (n - 1) = b := Nat.min_eq_left (by rw [h, Nat.add_assoc, Nat.add_sub_cancel_left]; exact Nat.le_add_right _ _)
theorem ar_drop {b a n : Nat} (h : n = 1 + b + a) : n - (1 + b) = a := by rw [h, Nat.add_sub_cancel_left]
theorem ar_nat (b : Nat) : (1 + (b : Int)).toNat = 1 + b := rfl
theorem ar_min {b a n : Nat} (h : n = 1 + b + a) : min (1 + (b : Int)).toNat n - 1 = b := by
  rw [ar_nat, Nat.min_eq_left (by rw [h]; exact Nat.le_add_right _ _)]; exact Nat.add_sub_cancel_left _ _
theorem ar_byte {n x : Int} (h0 : 0 ≤ n) (h1 : n < 65536) (h : x = n / 256 ∨ x = n % 256) : 0 ≤ x ∧ x < 256 := by
  rcases h with rfl | rfl
  · exact ⟨Int.ediv_nonneg h0 (by decide), Int.ediv_lt_of_lt_mul (by decide) h1⟩
  · exact ⟨Int.emod_nonneg _ (by decide), Int.emod_lt_of_pos _ (by decide)⟩
theorem ar_hi {n : Int} (h0 : 0 ≤ n) (h1 : n < 65536) : n / 256 % 256 = n / 256 := Int.emod_eq_of_lt (Int.ediv_nonneg h0 (by decide)) (Int.ediv_lt_of_lt_mul (by decide) h1)
theorem ar_upto {y : Int} (n : Nat) (h : 0 ≤ y) : max 0 (min y (n : Int)) = ((min y.toNat n : Nat) : Int) := by
  obtain ⟨k, rfl⟩ := Int.eq_ofNat_of_zero_le h
  rw [Int.toNat_natCast]
  rcases Nat.le_total k n with z | z
  · rw [Nat.min_eq_left z, Int.min_eq_left (Int.ofNat_le.mpr z)]; exact Int.max_eq_right (Int.natCast_nonneg _)
  · rw [Nat.min_eq_right z, Int.min_eq_right (Int.ofNat_le.mpr z)]; exact Int.max_eq_right (Int.natCast_nonneg _)
theorem two_of_len {α : Type} {l : List α} (h : l.length = 2) : ∃ a b, l = [a, b] := by
  cases l with
  | nil => cases h
  | cons a r =>
    cases r with
    | nil => cases h
    | cons b r =>
      cases r with
      | nil => exact ⟨a, b, rfl⟩
      | cons _ _ => cases h
/-- a goal that the walk leaves alone -/
noncomputable def Hold (P : Prop) : Prop := P
theorem hold {P : Prop} (h : Hold P) : P := h
theorem Hold.go {P : Prop} (h : P) : Hold P := h

/-- all that stood in H stands in h, up to slots, but for what ms holds, which is there still -/
noncomputable def Upto (ms : List Addr) (H h : Heap) : Prop := ∀ b o, H.get? b = some o → ∃ o', h.get? b = some o' ∧ (b ∉ ms → ∃ sl, o' = { o with slots := sl })
theorem Upto.refl (ms : List Addr) (H : Heap) : Upto ms H H := fun _ o e => ⟨o, e, fun _ => ⟨o.slots, rfl⟩⟩
theorem Upto.trans {ms : List Addr} {h₁ h₂ h₃ : Heap} (a : Upto ms h₁ h₂) (b : Upto ms h₂ h₃) : Upto ms h₁ h₃ := fun x o e => by
  obtain ⟨o₁, e₁, f₁⟩ := a x o e
  obtain ⟨o₂, e₂, f₂⟩ := b x _ e₁
  refine ⟨o₂, e₂, fun n => ?_⟩
  obtain ⟨sl, rfl⟩ := f₁ n
  obtain ⟨sl', rfl⟩ := f₂ n
  exact ⟨sl', rfl⟩
theorem Upto.mono {ms ms' : List Addr} {h₁ h₂ : Heap} (a : Upto ms h₁ h₂) (hm : ∀ b ∈ ms, b ∈ ms' ∨ h₁.get? b = none) : Upto ms' h₁ h₂ := fun x o e => by
  obtain ⟨o₁, e₁, f₁⟩ := a x o e
  refine ⟨o₁, e₁, fun n => f₁ fun z => ?_⟩
  rcases hm x z with z | z
  · exact n z
  · rw [e] at z; cases z
theorem Upto.of_keeps {ms : List Addr} {h₁ h₂ : Heap} (k : ∀ b o, h₁.get? b = some o → h₂.get? b = some o) : Upto ms h₁ h₂ := fun x o e => ⟨o, k x o e, fun _ => ⟨o.slots, rfl⟩⟩
theorem Upto.none {ms : List Addr} {H h : Heap} (u : Upto ms H h) {b : Addr} (e : h.get? b = none) : H.get? b = none := by
  cases q : H.get? b with
  | none => rfl
  | some o =>
    obtain ⟨o', e', _⟩ := u b o q
    rw [e] at e'; cases e'
theorem Upto.ns {ms : List Addr} {H h : Heap} (u : Upto ms H h) {C : Addr} {m : Str → Option Value} (n : H.Ns C m) (hc : C ∉ ms) : h.Ns C m := by
  obtain ⟨o, es, ep, e, hd, r⟩ := n
  obtain ⟨o', e', f⟩ := u C o e
  obtain ⟨sl, rfl⟩ := f hc
  exact ⟨_, es, ep, e', hd, r⟩

/-- an exception object in flight through the frames `l`, over a base that stays; all of H stands but for ms -/
noncomputable def Exc (H : Heap) (ms : List Addr) (base : Heap) (l : List Env) (x : Addr) (cls : Value) (h : Heap) : Prop :=
  Upto ms H h ∧ H.get? x = none ∧ base.StaysIn h ∧ base.get? x = none ∧ h.FunFrames base l ∧
    ∃ oe vs, h.get? x = some oe ∧ oe.cls = cls ∧ oe.data = .fields vs ∧ 1 < vs.size ∧
      (vs[1]? = some .none ∨ ∃ T oT ts, vs[1]? = some (.ref T) ∧ base.get? T = none ∧ H.get? T = none ∧ T ≠ x ∧ h.get? T = some oT ∧ oT.data = .fields ts ∧ 3 < ts.size)

/-- the same, and its traceback is there -/
noncomputable def ExcT (H : Heap) (ms : List Addr) (base : Heap) (l : List Env) (x : Addr) (cls : Value) (h : Heap) : Prop :=
  Upto ms H h ∧ H.get? x = none ∧ base.StaysIn h ∧ base.get? x = none ∧ h.FunFrames base l ∧
    ∃ oe vs, h.get? x = some oe ∧ oe.cls = cls ∧ oe.data = .fields vs ∧ 1 < vs.size ∧
      ∃ T oT ts, vs[1]? = some (.ref T) ∧ base.get? T = none ∧ H.get? T = none ∧ T ≠ x ∧ h.get? T = some oT ∧ oT.data = .fields ts ∧ 3 < ts.size

section
variable {H base h : Heap} {ms : List Addr} {l : List Env} {env : Env} {x : Addr} {cls : Value}
theorem ExcT.exc (e : ExcT H ms base l x cls h) : Exc H ms base l x cls h := by
  obtain ⟨a, a', b, b', c, oe, vs, d1, d2, d3, d4, d5⟩ := e
  exact ⟨a, a', b, b', c, oe, vs, d1, d2, d3, d4, .inr d5⟩
theorem ExcT.tail (e : ExcT H ms base (env :: l) x cls h) : ExcT H ms base l x cls h := by
  obtain ⟨a, a', b, b', ⟨_, _, c⟩, d⟩ := e
  exact ⟨a, a', b, b', c, d⟩
theorem ExcT.there (e : ExcT H ms base l x cls h) : ∃ o, h.get? x = some o ∧ o.cls = cls := by
  obtain ⟨_, _, _, _, _, oe, vs, d1, d2, _⟩ := e
  exact ⟨oe, d1, d2⟩
/-- seen from an earlier heap -/
theorem Exc.weaken {H' : Heap} {ms' : List Addr} (e : Exc H ms base l x cls h) (u : Upto ms' H' H) (hm : ∀ b ∈ ms, b ∈ ms' ∨ H'.get? b = none) : Exc H' ms' base l x cls h := by
  obtain ⟨a, a', b, b', c, oe, vs, d1, d2, d3, d4, d5⟩ := e
  refine ⟨fun y o q => ?_, u.none a', b, b', c, oe, vs, d1, d2, d3, d4, ?_⟩
  · obtain ⟨o₁, q₁, f₁⟩ := u y o q
    obtain ⟨o₂, q₂, f₂⟩ := a y _ q₁
    refine ⟨o₂, q₂, fun n => ?_⟩
    obtain ⟨sl, rfl⟩ := f₁ n
    obtain ⟨sl', rfl⟩ := f₂ fun hy => by
      rcases hm y hy with z | z
      · exact n z
      · rw [q] at z; cases z
    exact ⟨sl', rfl⟩
  · rcases d5 with d5 | ⟨T, oT, ts, e1, e2, e2', e3⟩
    · exact .inl d5
    · exact .inr ⟨T, oT, ts, e1, e2, u.none e2', e3⟩
end

/-- a record that is no part of the base turns: the frames stand -/
theorem upd_keep {h : Heap} {T : Addr} {oT : Obj} {ts : Array Value} (hT : h.get? T = some oT) (hd : oT.data = .fields ts) (f : Obj → Obj) :
    (∀ b o, h.get? b = some o → (∀ vs, o.data ≠ .fields vs) → ∃ o', (h.update T f).get? b = some o' ∧ o'.data = o.data) := fun b o e nf => by
  have : b ≠ T := fun q => by subst q; rw [hT] at e; cases e; exact nf ts hd
  exact ⟨o, (Heap.get?_update_other _ _ (Ne.symm this)).trans e, rfl⟩
theorem upto_upd {ms : List Addr} {H h : Heap} {T : Addr} (u : Upto ms H h) (hT : H.get? T = none) (f : Obj → Obj) : Upto ms H (h.update T f) := fun b o e => by
  obtain ⟨o', e', f'⟩ := u b o e
  exact ⟨o', (Heap.get?_update_other _ _ fun q => by subst q; rw [hT] at e; cases e).trans e', f'⟩
theorem upto_push {ms : List Addr} {H h : Heap} (u : Upto ms H h) (o : Obj) : Upto ms H (h.push o) := fun b ob e => by
  obtain ⟨o', e', f'⟩ := u b ob e
  exact ⟨o', Heap.get?_push_of_some _ e', f'⟩
theorem upto_slots {ms S : List Addr} {H h h' : Heap} (u : Upto ms H h) (x : Heap.SlotsOnly S h h') : Upto ms H h' := fun b ob e => by
  obtain ⟨o', e', f'⟩ := u b ob e
  obtain ⟨sl', e''⟩ := x.2.2 b _ e'
  refine ⟨_, e'', fun n => ?_⟩
  obtain ⟨sl, rfl⟩ := f' n
  exact ⟨sl', rfl⟩

section
variable {M : Model} {A : Around} {E : Value → Shared → Prop} {s : Shared} {H base : Heap} {ms : List Addr} {outer : List Env} {x : Addr} {cls : Value} {env env' : Env} {Q : Unit → Shared → Prop}

theorem set_trace {l : List Env} {v : Value} (he : ExcT H ms base l x cls s.heap) {T : Addr} {oe : Obj} {vs : Array Value} (h1 : s.heap.get? x = some oe) (h2 : oe.data = .fields vs) (h3 : vs[1]? = some (.ref T))
    (hQ : ∀ h', ExcT H ms base l x cls h' → Q () { s with heap := h' }) : wpAny M A (setField (.ref T) 3 v) Q E s := by
  obtain ⟨u, u', a, b, c, oe', vs', d1, d2, d3, d4, T', oT, ts, e1, e2, e2', e3, e4, e5, e6⟩ := he
  rw [h1] at d1; cases d1
  rw [h2] at d3; cases d3
  rw [h3] at e1; cases e1
  refine wpAny_setField e4 e5 e6 (hQ _ ?_)
  have hx' := (Heap.get?_update_other s.heap (Obj.mapFields (·.setIfInBounds 3 v)) e3).trans h1
  have hT' := Heap.get?_update_self (Obj.mapFields (·.setIfInBounds 3 v)) e4 (Obj.isFreed_of_fields (Obj.data_mapFields e5 _))
  refine ⟨upto_upd u e2' _, u', fun b o q => (Heap.get?_update_other _ _ fun z => by subst z; rw [e2] at q; cases q).trans (a b o q), b, c.of_keeps (upd_keep e4 e5 _), oe, vs, hx', d2, h2, d4, T, _, _, h3, e2, e2', e3, hT', Obj.data_mapFields e5 _, by simpa using e6⟩

theorem exc_setFlight {l : List Env} {f : Option Addr} (he : ExcT H ms base l x cls s.heap) (hQ : ∀ h', ExcT H ms base l x cls h' → Q () { s with heap := h' }) : wpAny M A (setFlight (.ref x) f) Q E s := by
  obtain ⟨u, u', a, b, c, oe, vs, d1, d2, d3, d4, T, oT, ts, e1, e2, e2', e3, e4, e5, e6⟩ := id he
  unfold setFlight
  refine wpAny_bind (wpAny_field d1 d3 e1 ?_)
  rw [if_pos (show (Value.ref T != Value.none) = true from by simp)]
  exact set_trace he d1 d3 e1 hQ

theorem exc_entry {l : List Env} {head v : Value} {L : Addr} {b : Bool} {f : Value}
    (he : Exc H ms base l x cls s.heap) (hQ : ∀ h', ExcT H ms base l x cls h' → Q () { s with heap := h' }) :
    wpAny M A (do let pl ← entryPlaceOf L b; let n ← EntryCells.newEntry head f .none v .none pl; setField (.ref x) 1 n) Q E s := by
  obtain ⟨u, u', k1, k2, k3, oe, vs, d1, d2, d3, d4, _⟩ := he
  refine wpAny_bind (wpAny_entryPlaceOf fun pl hpl => ?_)
  unfold EntryCells.newEntry newFields
  refine wpAny_bind (wpAny_newObj_type ?_ (hpl.sizeOk5 _ _ _ _ _))
  generalize hob : ({ cls := .type "traceback", dict := none, data := .fields ([head, f, .none, v, .none] ++ (if pl.isEmpty then List.replicate 6 Value.none else pl)).toArray } : Obj) = ob
  have hobd : ob.data = .fields ([head, f, .none, v, .none] ++ (if pl.isEmpty then List.replicate 6 Value.none else pl)).toArray := by rw [← hob]
  have hobf : ob.isFreed = false := by rw [← hob]; rfl
  have he₂ := Heap.get?_push_of_some (h := s.heap) ob d1
  refine wpAny_setField he₂ d3 d4 (hQ _ ?_)
  have hTe : s.heap.objs.size ≠ x := Nat.ne_of_gt (Heap.lt_size d1)
  have hd₃ := Obj.data_mapFields d3 (·.setIfInBounds 1 (Value.ref s.heap.objs.size))
  have he₃ := Heap.get?_update_self (Obj.mapFields (·.setIfInBounds 1 (Value.ref s.heap.objs.size))) he₂ (Obj.isFreed_of_fields hd₃)
  have hT₃ : ((s.heap.push ob).update x (Obj.mapFields (·.setIfInBounds 1 (Value.ref s.heap.objs.size)))).get? s.heap.objs.size = some ob :=
    (Heap.get?_update_other _ _ (Ne.symm hTe)).trans (Heap.get?_push_size _ hobf)
  have other : ∀ b o, b ≠ x → s.heap.get? b = some o → ((s.heap.push ob).update x (Obj.mapFields (·.setIfInBounds 1 (Value.ref s.heap.objs.size)))).get? b = some o := fun b o n e =>
    (Heap.get?_update_other _ _ (Ne.symm n)).trans (Heap.get?_push_of_some _ e)
  have hHT' : H.get? s.heap.objs.size = none := u.none (by cases q : s.heap.get? s.heap.objs.size with | none => rfl | some o => exact absurd (Heap.lt_size q) (Nat.lt_irrefl _))
  refine ⟨upto_upd (upto_push u ob) u' _, u', fun b o q => other b o (fun z => by subst z; rw [k2] at q; cases q) (k1 b o q), k2, k3.of_keeps fun b o e nf => ⟨o, other b o (fun z => by subst z; rw [d1] at e; cases e; exact nf vs d3) e, rfl⟩,
    _, _, he₃, (Obj.cls_mapFields _ _).trans d2, hd₃, by simpa using d4, s.heap.objs.size, ob, _, by simp [d4], k1.fresh, hHT', hTe, hT₃, hobd, ?_⟩
  simp only [List.size_toArray, List.length_append, List.length_cons, List.length_nil]
  omega

theorem frameOf_same (hf : env'.frame = env.frame) : PySem.frameOf env' = PySem.frameOf env := by unfold PySem.frameOf; rw [hf]

end
section
noncomputable def P_exc_note (M : Model) (A : Around) (E : Value → Shared → Prop) (s : Shared) (H : Heap) (base : Heap) (ms : List Addr) (outer : List Env) (x : Addr) (cls : Value) (env : Env) (env' : Env) (Q : Unit → Shared → Prop) : Prop := ∀ (hfr : A.frames = some (env :: outer)) (hf : env'.frame = env.frame) (he : Exc H ms base (env :: outer) x cls s.heap) (hQ : ∀ h', ExcT H ms base (env :: outer) x cls h' → Q () { s with heap := h' }),
    wpAny M A (noteFrame (.ref x) env') Q E s
noncomputable def c_exc_note := @Classical.epsilon ((Model) × (Around) × (Value → Shared → Prop) × (Shared) × (Heap) × (Heap) × (List Addr) × (List Env) × (Addr) × (Value) × (Env) × (Env) × (Unit → Shared → Prop)) ⟨((model default wDef), callerA, fun _ _ => True, (PySem.start default).1, default, default, [], [], 0, default, default, default, fun _ _ => True)⟩ fun v => ¬ P_exc_note v.1 v.2.1 v.2.2.1 v.2.2.2.1 v.2.2.2.2.1 v.2.2.2.2.2.1 v.2.2.2.2.2.2.1 v.2.2.2.2.2.2.2.1 v.2.2.2.2.2.2.2.2.1 v.2.2.2.2.2.2.2.2.2.1 v.2.2.2.2.2.2.2.2.2.2.1 v.2.2.2.2.2.2.2.2.2.2.2.1 v.2.2.2.2.2.2.2.2.2.2.2.2
namespace K_exc_note
@[irreducible] noncomputable def M : Model := c_exc_note.1
@[irreducible] noncomputable def A : Around := c_exc_note.2.1
@[irreducible] noncomputable def E : Value → Shared → Prop := c_exc_note.2.2.1
@[irreducible] noncomputable def s : Shared := c_exc_note.2.2.2.1
@[irreducible] noncomputable def H : Heap := c_exc_note.2.2.2.2.1
@[irreducible] noncomputable def base : Heap := c_exc_note.2.2.2.2.2.1
@[irreducible] noncomputable def ms : List Addr := c_exc_note.2.2.2.2.2.2.1
@[irreducible] noncomputable def outer : List Env := c_exc_note.2.2.2.2.2.2.2.1
@[irreducible] noncomputable def x : Nat := c_exc_note.2.2.2.2.2.2.2.2.1
@[irreducible] noncomputable def cls : Value := c_exc_note.2.2.2.2.2.2.2.2.2.1
@[irreducible] noncomputable def env : Env := c_exc_note.2.2.2.2.2.2.2.2.2.2.1
@[irreducible] noncomputable def env' : Env := c_exc_note.2.2.2.2.2.2.2.2.2.2.2.1
@[irreducible] noncomputable def Q : Unit → Shared → Prop := c_exc_note.2.2.2.2.2.2.2.2.2.2.2.2
theorem core : P_exc_note M A E s H base ms outer x cls env env' Q := by
  unfold P_exc_note
  intro hfr hf he hQ
  have hfrm : ∃ L, env.frame = some L := by obtain ⟨_, _, _, _, ⟨_, ⟨L, _, hL, _⟩, _⟩, _⟩ := he; exact ⟨L, hL⟩
  obtain ⟨L, hL⟩ := hfrm
  have tail : ∀ {head : Value} {b : Bool} {s₁ : Shared}, Exc H ms base (env :: outer) x cls s₁.heap → (∀ h', ExcT H ms base (env :: outer) x cls h' → Q () { s₁ with heap := h' }) →
      wpAny M A (do let a ← PySem.frameOf env'; let pl ← entryPlaceOf L b; let n ← EntryCells.newEntry head a .none (rawInt L) .none pl; setField (.ref x) 1 n) Q E s₁ := by
    intro head b s₁ he₁ hQ₁
    rw [frameOf_same hf]
    obtain ⟨u, u', k1, k2, k3, oe, vs, d1, d2, d3, d4, d5⟩ := he₁
    refine wpAny_bind (wpAny_frameOf_fun hfr k3 hL fun h' hs' => ?_)
    refine exc_entry (s := { s₁ with heap := h' }) (H := H) (ms := ms) (base := base) (l := env :: outer) (x := x) (cls := cls) ?_ fun h'' e'' => hQ₁ h'' e''
    have out : ∀ b o, s₁.heap.get? b = some o → (∃ vs, o.data = .fields vs) → h'.get? b = some o := fun b o e ⟨ws, hw⟩ =>
      (hs'.2.1 b fun hm => by obtain ⟨_, o', ho', nf⟩ := k3.mem hm; rw [e] at ho'; cases ho'; exact nf ws hw).trans e
    refine ⟨upto_slots u hs', u', fun b o q => (hs'.2.1 b fun hm => by rw [(k3.mem hm).1] at q; cases q).trans (k1 b o q), k2, k3.of_slotsOnly hs', oe, vs, out _ _ d1 ⟨_, d3⟩, d2, d3, d4, ?_⟩
    rcases d5 with d5 | ⟨T, oT, ts, e1, e2, e2', e3, e4, e5, e6⟩
    · exact .inl d5
    · exact .inr ⟨T, oT, ts, e1, e2, e2', e3, out _ _ e4 ⟨_, e5⟩, e5, e6⟩
  unfold noteFrame
  simp only [hf, hL]
  obtain ⟨u, u', k1, k2, k3, oe, vs, d1, d2, d3, d4, d5⟩ := id he
  rcases d5 with d5 | ⟨T, oT, ts, e1, e2, e2', e3, e4, e5, e6⟩
  · refine wpAny_bind (wpAny_field d1 d3 d5 ?_)
    rw [if_neg (by decide)]
    exact tail he hQ
  · refine wpAny_bind (wpAny_field d1 d3 e1 ?_)
    rw [if_pos (show (Value.ref T != Value.none) = true from by simp)]
    obtain ⟨v, hv⟩ : ∃ v, ts[3]? = some v := ⟨ts[3], Array.getElem?_eq_getElem e6⟩
    refine wpAny_bind (wpAny_field e4 e5 hv ?_)
    have heT : ExcT H ms base (env :: outer) x cls s.heap := ⟨u, u', k1, k2, k3, oe, vs, d1, d2, d3, d4, T, oT, ts, e1, e2, e2', e3, e4, e5, e6⟩
    by_cases hq : (v == rawInt L) = true
    · rw [if_pos hq]
      exact wpAny_pure (hQ s.heap heT)
    · rw [if_neg hq]
      refine wpAny_bind (set_trace heT d1 d3 e1 fun h' e' => ?_)
      exact tail e'.exc hQ
end K_exc_note
theorem exc_note {M : Model} {A : Around} {E : Value → Shared → Prop} {s : Shared} {H : Heap} {base : Heap} {ms : List Addr} {outer : List Env} {x : Addr} {cls : Value} {env : Env} {env' : Env} {Q : Unit → Shared → Prop} (hfr : A.frames = some (env :: outer)) (hf : env'.frame = env.frame) (he : Exc H ms base (env :: outer) x cls s.heap) (hQ : ∀ h', ExcT H ms base (env :: outer) x cls h' → Q () { s with heap := h' }) :
    wpAny M A (noteFrame (.ref x) env') Q E s :=
  eps_all (P := fun v => P_exc_note v.1 v.2.1 v.2.2.1 v.2.2.2.1 v.2.2.2.2.1 v.2.2.2.2.2.1 v.2.2.2.2.2.2.1 v.2.2.2.2.2.2.2.1 v.2.2.2.2.2.2.2.2.1 v.2.2.2.2.2.2.2.2.2.1 v.2.2.2.2.2.2.2.2.2.2.1 v.2.2.2.2.2.2.2.2.2.2.2.1 v.2.2.2.2.2.2.2.2.2.2.2.2) (by with_unfolding_all exact K_exc_note.core) (M, A, E, s, H, base, ms, outer, x, cls, env, env', Q) hfr hf he hQ
end
section
variable {M : Model} {A : Around} {E : Value → Shared → Prop} {s : Shared} {H base : Heap} {ms : List Addr} {outer : List Env} {x : Addr} {cls : Value} {env env' : Env} {Q : Unit → Shared → Prop}
theorem exc_leaving (hfr : A.frames = some (env :: outer)) (he : Exc H ms base (env :: outer) x cls s.heap)
    (hQ : ∀ h', ExcT H ms base outer x cls h' → Q () { s with heap := h' }) : wpAny M A (leaving env (.ref x)) Q E s := by
  unfold leaving
  exact wpAny_bind (exc_note hfr rfl he fun h' e' => exc_setFlight e' fun h'' e'' => hQ h'' e''.tail)

theorem exc_back {l : List Env} (he : ExcT H ms base l x cls s.heap) (hQ : ∀ h', ExcT H ms base l x cls h' → E (.ref x) { s with heap := h' }) : cameBackBy M A env' E (.ref x) s := by
  obtain ⟨u, u', a, b, c, oe, vs, d1, d2, d3, d4, T, oT, ts, e1, e2, e2', e3, e4, e5, e6⟩ := id he
  unfold cameBackBy
  refine wpAny_bind (wpAny_field d1 d3 e1 ?_)
  rw [if_neg (show ¬ (Value.ref T == Value.none) = true from by simp)]
  exact exc_setFlight he hQ

theorem exc_passOn {α : Type} {Q : α → Shared → Prop} {l : List Env} {what : String} (he : ExcT H ms base l x cls s.heap) (hQ : ∀ h', ExcT H ms base l x cls h' → E (.ref x) { s with heap := h' }) : wpAny M A (PySem.passOn what (.ref x) env' : Sem α) Q E s := by
  obtain ⟨u, u', a, b, c, oe, vs, d1, d2, d3, d4, T, oT, ts, e1, e2, e2', e3, e4, e5, e6⟩ := id he
  unfold PySem.passOn
  refine wpAny_bind (wpAny_field d1 d3 e1 ?_)
  rw [if_neg (show ¬ (Value.ref T == Value.none) = true from by simp)]
  exact wpAny_bind (exc_setFlight he fun h' e' => wpAny_throw (hQ h' e'))
end
end Mine
end TextB1
section TextB3
open PySem PySem.W PyProof.Rows PySem.Calls
set_option Elab.async false
set_option maxRecDepth 100000
set_option maxHeartbeats 1000000
namespace Mine

/-- where a call stands: the frames, the written part, the top's facts -/
structure Cx (w : World) (p : Program) (loose : List Str) (mean : ExcName → Option Value) (mg mb : Str → Option Value) (A A₀ : Around) (env : Env) (outer : List Env) (base h₀ : Heap) (L : Addr) : Prop where
  B : Below A₀ base outer h₀
  X : (hd0.heap_1 w.params).In h₀
  T : Top p loose mean mg mb h₀
  b0 : h₀.get? (nat_lit 0) = some (bDict w.params)
  hA : A.frames = some (env :: outer)
  hf : env.frame = some L
  hk : env.scope.kind = .function
  hh : A.handled = none
  hG : A.guards = some []

theorem guards_deeper {A : Around} {env : Env} (h : A.guards = some []) : (A.deeper env).guards = some [] := by
  obtain ⟨a, b, c, d, e⟩ := A
  cases h
  rfl
theorem upto_of {h₀ H g h : Heap} {L L' : Addr} {m' : Str → Option Value} {news news' : List (Addr × Obj)} {ms : List Addr} (G : GSub H g (news.map (·.1))) (N : News h₀ L H news) (F' : Fr g L' h m') (N' : News g L' h news')
    (hs : ∀ p ∈ news, (p.1 ∈ ms ∧ ∃ o, (p.1, o) ∈ news') ∨ p ∈ news') : Upto ms H h := fun b o e => by
  by_cases hb : b ∈ news.map (·.1)
  · obtain ⟨p, hp, rfl⟩ := List.mem_map.mp hb
    have h1 := (N p hp).1
    rw [e] at h1; cases h1
    rcases hs p hp with ⟨z, o', ho'⟩ | z
    · exact ⟨o', (N' _ ho').1, fun n => absurd z n⟩
    · exact ⟨p.2, (N' _ z).1, fun _ => ⟨p.2.slots, rfl⟩⟩
  · exact ⟨o, F'.keep b o (G b o e hb), fun _ => ⟨o.slots, rfl⟩⟩

section
variable {w : World} {p : Program} {loose : List Str} {mean : ExcName → Option Value} {mg mb : Str → Option Value} {A A₀ : Around} {env env' : Env} {outer : List Env} {base h₀ : Heap} {L : Addr} {m : Str → Option Value} {news : List (Addr × Obj)} {s : Shared}
  {R : Result → Shared → Prop} {prog : Program} {H : Heap} {ms : List Addr} {cls : Value}

theorem body_exc (hA : A.frames = some (env :: outer)) (hE : ∀ x h' tk', Exc H ms base (env :: outer) x cls h' → R (.error (.ref x)) { s with heap := h', toks := tk' }) {Q₂ : Value → Shared → Prop} (x : Addr) (h' : Heap) (tk' : Nat)
    (e : Exc H ms base (env' :: env :: outer) x cls h') :
    wpAny (model prog w) (A.deeper env') (leaving env' (.ref x)) (fun _ s'' => R (.error (.ref x)) s'') Q₂ { s with heap := h', toks := tk' } :=
  exc_leaving (Around.frames_deeper hA) e fun h'' e' => hE x h'' tk' e'.exc

theorem enter_plain {name qual : Str} {params : Arguments} {body : List Stmt} {scope : Scope} {dV kV doc pm cdv ct oc : Value} {an od : Option Addr} {osl : Array (Option Value)} {f : Addr} {args : Args} {binds : List (Str × Value)}
    (C : Cx w p loose mean mg mb A A₀ env outer base h₀ L) (F : Fr h₀ L s.heap m) (N : News h₀ L s.heap news)
    (ho : (hd0.heap_1 w.params).lookup f = some ⟨oc, od, .func (fnOf name qual params body scope dV kV doc pm an cdv ct), osl⟩) (hcd : codeIn (hd0.heap_1 w.params) cdv qual = true) (hroom : A.depth < recursionLimit)
    (hbind : BindsTo s (fnOf name qual params body scope dV kV doc pm an cdv ct) args binds) (hloc : ∀ y ∈ binds, scope.names.lookup y.1 = some .local)
    (h : ∀ g L' h₁, Cx w p loose mean mg mb (A.deeper (envOf qual scope L' f cdv)) A (envOf qual scope L' f cdv) (env :: outer) base g L' → Fr g L' h₁ (fun y => binds.reverse.lookup y) → News g L' h₁ news → GSub s.heap g (news.map (·.1)) → (∀ p ∈ news, p.1 < L') →
      wpAny (model prog w) (A.deeper (envOf qual scope L' f cdv)) (execs body (envOf qual scope L' f cdv))
        (fun fl s' => LeaveK h₀ L m g R (match fl with | .ret v => v | _ => .none) s')
        (fun e s' => wpAny (model prog w) (A.deeper (envOf qual scope L' f cdv)) (leaving (envOf qual scope L' f cdv) e) (fun _ s'' => R (.error e) s'') (fun e' s'' => R (.error e') s'') s')
        { s with heap := h₁, toks := s.toks + binds.length })
    (hco : scope.isCoroutine = false) (hgen : scope.isGenerator = false) (hk : scope.kind = .function)
    (hcell : ∀ x ∈ scope.names, x.2 ≠ .cell) : codeAny (model prog w) A (.call (.ref f) args) R s := by
  obtain ⟨B, X₀, T, b0, hA, hf, hke, hh, hG⟩ := C
  obtain ⟨FG, BG, st, lv⟩ := groundX (R := R) B F N hA hf hke
  refine codeAny_call_def (fd := fnX name qual params body scope [] dV kV doc pm an cdv ct) (body := body) (binds := binds) hroom ((X₀.keeps F.keep) _ _ ho) rfl (T.nolimit.keeps F.keep) (codeRec_of (X₀.keeps F.keep) hcd) rfl hbind hcell hloc (fun h₁ hns hk₁ => ?_) hco hgen hk
  exact wpAny_mono (h _ s.heap.objs.size h₁ ⟨BG, X₀.keeps st, T.keeps st, st _ _ b0, Around.frames_deeper hA, rfl, hk, hh, guards_deeper hG⟩ ⟨hns, fun b o e => hk₁ b o (of_hideAll _ e), Nat.le_of_eq (hideAll_size _ _)⟩
    (fun p hp => ⟨hk₁ _ _ (N p hp).1, Nat.ne_of_lt (Heap.lt_size (N p hp).1), hideAll_none _ (List.mem_map_of_mem hp)⟩) (fun b o e n => hideAll_get _ e n) (fun p hp => Heap.lt_size (N p hp).1)) (fun fl s' hl => lv _ _ hl) fun _ _ y => y

theorem enter_cells {name qual : Str} {params : Arguments} {body : List Stmt} {scope : Scope} {dV kV doc pm cdv ct oc : Value} {an od : Option Addr} {osl : Array (Option Value)} {f : Addr} {args : Args} {binds : List (Str × Value)}
    (C : Cx w p loose mean mg mb A A₀ env outer base h₀ L) (F : Fr h₀ L s.heap m) (N : News h₀ L s.heap news)
    (ho : (hd0.heap_1 w.params).lookup f = some ⟨oc, od, .func (fnOf name qual params body scope dV kV doc pm an cdv ct), osl⟩) (hcd : codeIn (hd0.heap_1 w.params) cdv qual = true) (hroom : A.depth < recursionLimit)
    (hbind : BindsTo s (fnOf name qual params body scope dV kV doc pm an cdv ct) args binds) (hkind : (binds.all fun y => scope.names.lookup y.1 == some .local || scope.names.lookup y.1 == some .cell) = true)
    (hnd : ((cellsFrom 0 scope.names []).map (·.1)).Nodup)
    (h : ∀ g L' h₁ tk cells, Cx w p loose mean mg mb (A.deeper (envOfC qual scope L' f cdv)) A (envOfC qual scope L' f cdv) (env :: outer) base g L' → Fr g L' h₁ (bindL (envOfC qual scope L' f cdv).kindOf binds fun _ => none) → News g L' h₁ (cells ++ news) →
      CellsAre (bindC (envOfC qual scope L' f cdv).kindOf binds fun _ => none) (cellsFrom (L' + 1) scope.names []) cells → GSub s.heap g (news.map (·.1)) → (∀ p ∈ news, p.1 < L') →
      wpAny (model prog w) (A.deeper (envOfC qual scope L' f cdv)) (execs body (envOfC qual scope L' f cdv))
        (fun fl s' => LeaveK h₀ L m g R (match fl with | .ret v => v | _ => .none) s')
        (fun e s' => wpAny (model prog w) (A.deeper (envOfC qual scope L' f cdv)) (leaving (envOfC qual scope L' f cdv) e) (fun _ s'' => R (.error e) s'') (fun e' s'' => R (.error e') s'') s')
        { s with heap := h₁, toks := tk })
    (hco : scope.isCoroutine = false) (hgen : scope.isGenerator = false) (hk : scope.kind = .function) : codeAny (model prog w) A (.call (.ref f) args) R s := by
  obtain ⟨B, X₀, T, b0, hA, hf, hke, hh, hG⟩ := C
  obtain ⟨FG, BG, st, lv⟩ := groundX (R := R) B F N hA hf hke
  refine codeAny_call_function hroom ((X₀.keeps F.keep) _ _ ho) rfl hco hgen rfl (codeRec_of (X₀.keeps F.keep) hcd) (hbind _ _ _ _ ?_)
  refine wpAny_newFunctionEnv_cells hk (kindsX hkind _) fun env' he s' x => ?_
  subst he
  refine ⟨(T.nolimit.keeps F.keep).keeps x.toInCall.keep, codeAny_func ?_⟩
  obtain ⟨h₁, tk, rfl, _⟩ := x.done
  have hk₁ := x.toInCall.keep
  obtain ⟨cells, NC, Y⟩ := Cl.news (h₀ := s.heap) (Nat.le_refl _) fun n c hm => ⟨x.cell n c (lookup_of_mem_nodup (cellsFrom_names scope.names 0 (s.heap.objs.size + 1) [] [] rfl ▸ hnd) hm), x.above n c hm⟩
  have hN : News (hideAll s.heap (news.map (·.1))) s.heap.objs.size h₁ (cells ++ news) := fun q hq => by
    rcases List.mem_append.mp hq with hq | hq
    · refine ⟨(NC q hq).1, (NC q hq).2.1, ?_⟩
      cases z : (hideAll s.heap (news.map (·.1))).get? q.1 with
      | none => rfl
      | some o => have := of_hideAll _ z; rw [(NC q hq).2.2] at this; cases this
    · exact ⟨hk₁ _ _ (N q hq).1, Nat.ne_of_lt (Heap.lt_size (N q hq).1), hideAll_none _ (List.mem_map_of_mem hq)⟩
  exact wpAny_mono (h _ s.heap.objs.size h₁ tk cells ⟨BG, X₀.keeps st, T.keeps st, st _ _ b0, Around.frames_deeper hA, rfl, hk, hh, guards_deeper hG⟩ ⟨x.toInCall.ns, fun b o e => hk₁ b o (of_hideAll _ e), Nat.le_of_eq (hideAll_size _ _)⟩ hN Y (fun b o e n => hideAll_get _ e n) (fun q hq => Heap.lt_size (N q hq).1)) (fun fl s' hl => lv _ _ hl) fun _ _ y => y
end
end Mine
end TextB3
section TextB4
open PySem PySem.W PyProof.Rows PySem.Calls PySem.Spec
set_option Elab.async false
set_option maxRecDepth 100000
set_option maxHeartbeats 1000000
namespace Mine
open PyProof.Rows.LCg (lst NsObj ns_obj lst_snoc fr_but news_but)

noncomputable def Off (I C D : Addr) (nw : List (Addr × Obj)) : Prop := ∀ p ∈ nw, p.1 ≠ I ∧ p.1 ≠ C ∧ p.1 ≠ D

inductive EltEnd (h₀ : Heap) (L : Addr) (m : Str → Option Value) (s₁ : Shared) (I : Addr) (oI : Obj) (C : Addr) (oC : Obj) (D : Addr) (oD : Obj) (J : Value → List (Addr × Obj) → Prop) (y : Value) (s₂ : Shared) : Prop
  | mk (h' : Heap) (tk : Tok) (nw : List (Addr × Obj)) (e : s₂ = { s₁ with heap := h', toks := tk }) (F : Fr h₀ L h' m) (N : News h₀ L h' ((I, oI) :: (C, oC) :: (D, oD) :: nw)) (off : Off I C D nw) (hJ : J y nw) : EltEnd h₀ L m s₁ I oI C oC D oD J y s₂
/-- what stands at a comprehension's turn -/
inductive CompS (h₀ : Heap) (L : Addr) (m : Str → Option Value) (s₂ : Shared) (I C D : Addr) (n : Nat) (St : Nat → Heap → Prop) (J : Nat → List Value → List (Addr × Obj) → Prop) (k : Nat) (s' : Shared) : Prop
  | mk (h' : Heap) (tk : Tok) (i : Nat) (ys : List Value) (m' : Str → Option Value) (nw : List (Addr × Obj)) (e : s' = { s₂ with heap := h', toks := tk }) (hi : i ≤ n) (hk : k = n + 1 - i) (hyl : ys.length = i) (hst : St i h') (F : Fr h₀ L h' m) (hn : h'.Ns C m')
    (N : News h₀ L h' ((D, lst ys) :: nw)) (off : Off I C D nw) (hJ : J i ys nw) : CompS h₀ L m s₂ I C D n St J k s'

section
variable {prog : Program} {w : World} {A : Around} {E : Value → Shared → Prop} {s : Shared} {h₀ : Heap} {L : Addr} {m : Str → Option Value} {env : Env}

theorem comp_block {elt iter : Expr} {x : Str} {px : Pos} {scope : Scope} {cl : List (Str × Addr)} {pos : Pos} {s₂ : Shared} {I : Addr} {fp : List Addr} {n : Nat} {P : Nat → Value → Prop} {St : Nat → Heap → Prop} {news : List (Addr × Obj)}
    {J : Nat → List Value → List (Addr × Obj) → Prop} {RR : Value → Addr → Result → Shared → Prop}
    (W : Walks prog w A I fp [I] n P St) (hsz : n ≤ sizeLine) (hIo : ∀ i h, St i h → ∃ o, h.get? I = some o)
    (hSt : ∀ i h h' o nw ys k, St i h → h.get? I = some o → h'.get? I = some o → (∀ b o, h₀.get? b = some o → h'.get? b = some o) → News h₀ L h' nw → J k ys nw → St i h')
    (hcell : ∀ y ∈ scope.names, y.2 ≠ .cell) (hkind : scope.kind = .function) (hx : scope.names.lookup x = some .local) (hst : St 0 s₂.heap) (hfp : ∀ b ∈ fp, b < s₂.heap.objs.size)
    (F : Fr h₀ L s₂.heap m) (N : News h₀ L s₂.heap news) (hIL : L ≠ I) (hI₀ : h₀.get? I = none) (off : ∀ p ∈ news, p.1 ≠ I) (hJ : J 0 [] news)
    (step : ∀ i v ys nw oI C oC D m₂ h tk, i < n → ys.length = i → P i v → J i ys nw → NsObj oC m₂ → m₂ x = some v → Fr h₀ L h m → News h₀ L h ((I, oI) :: (C, oC) :: (D, lst ys) :: nw) → Off I C D nw → I ≠ C → I ≠ D → C ≠ D →
      s₂.heap.get? C = none → s₂.heap.get? D = none → C ≠ L → h₀.get? C = none →
      wpAny (model prog w) A (eval elt (compEnvC scope cl C env)) (EltEnd h₀ L m { s₂ with heap := h, toks := tk } I oI C oC D (lst ys) (fun y nw' => J (i + 1) (ys ++ [y]) nw'))
        (notedBy (model prog w) A (compEnvC scope cl C env) fun e s' => RR (.ref D) C (.error e) s') { s₂ with heap := h, toks := tk })
    (hRR : ∀ D C h tk m' ys nw, Fr h₀ L h m → News h₀ L h ((D, lst ys) :: nw) → (∀ p ∈ nw, p.1 ≠ D) → h.Ns C m' → h₀.get? C = none → h₀.get? D = none → C ≠ L → D ≠ L → C ≠ D → (∀ p ∈ nw, p.1 ≠ C) → ys.length = n → J n ys nw → RR (.ref D) C (.ok .next) { s₂ with heap := h, toks := tk }) :
    wpAny (model prog w) A (newList []) (fun acc s₃ => wpAny (model prog w) A (newFunctionEnv scope env.globals cl [] env.qual none .none (some env)) (fun cenv s₄ =>
      codeAny (model prog w) A (.compStart (.ListComp elt [⟨.Name x px, iter, [], 0⟩] scope pos) 0 (.ref I) acc { cenv with scope := relabel scope env }) (RR acc cenv.locals) s₄) E s₃) E s₂ := by
  refine wpAny_newObj_type (wpAny_newFunctionEnv hcell (by intro y hy; simp at hy) (fun h₁ hns₁ hsb₁ => ?_) hkind)
  dsimp only at hns₁ hsb₁ ⊢
  generalize hH2 : s₂.heap.push { cls := .type "list", dict := none, data := .seq ([] : List Value).toArray } = H2 at hns₁ hsb₁ ⊢
  have hC : H2.objs.size = s₂.heap.objs.size + 1 := by rw [← hH2, Heap.size_push]
  have hDC : s₂.heap.objs.size ≠ H2.objs.size := by rw [hC]; exact Nat.ne_of_lt (Nat.lt_succ_self _)
  have below : ∀ b, b < s₂.heap.objs.size → b ≠ H2.objs.size ∧ b ≠ s₂.heap.objs.size := fun b hb => ⟨by rw [hC]; exact Nat.ne_of_lt (Nat.lt_succ_of_lt hb), Nat.ne_of_lt hb⟩
  have hDf : s₂.heap.objs.size ∉ fp := fun hm => Nat.lt_irrefl _ (hfp _ hm)
  have hCf : H2.objs.size ∉ fp := fun hm => by have := hfp _ hm; rw [hC] at this; exact Nat.lt_irrefl _ (Nat.lt_of_succ_lt this)
  have hIf : I ∈ fp := W.sub I (List.mem_singleton.mpr rfl)
  have hIlt : I < s₂.heap.objs.size := hfp I hIf
  have old : ∀ b o, s₂.heap.get? b = some o → h₁.get? b = some o := fun b o e => hsb₁.extBut b o (below b (Heap.lt_size e)).1 (Heap.get?_push_of_some _ (hH2 ▸ Heap.get?_push_of_some _ e))
  have hacc : h₁.get? s₂.heap.objs.size = some (lst []) := hsb₁.extBut _ _ hDC (Heap.get?_push_of_some _ (hH2 ▸ Heap.get?_push_size _ rfl))
  have hst₁ : St 0 h₁ := W.frame _ _ _ hst fun b _ o e => old b o e
  have fresh : ∀ a, s₂.heap.objs.size ≤ a → s₂.heap.get? a = none := fun a ha => by
    cases e : s₂.heap.get? a with
    | none => rfl
    | some o' => exact absurd (Heap.lt_size e) (Nat.not_lt.mpr ha)
  have fresh₀ : ∀ a, s₂.heap.objs.size ≤ a → h₀.get? a = none := fun a ha => by
    cases e : h₀.get? a with
    | none => rfl
    | some o' => have := F.keep a o' e; rw [fresh a ha] at this; cases this
  have hD₀ : h₀.get? s₂.heap.objs.size = none := fresh₀ _ (Nat.le_refl _)
  have hC₀ : h₀.get? H2.objs.size = none := fresh₀ _ (by rw [hC]; exact Nat.le_succ _)
  have hLlt : L < s₂.heap.objs.size := F.ns.lt
  have hDL : s₂.heap.objs.size ≠ L := Ne.symm (below L hLlt).2
  have hCL : H2.objs.size ≠ L := Ne.symm (below L hLlt).1
  have hCI : I ≠ H2.objs.size := (below I hIlt).1
  have hDI : I ≠ s₂.heap.objs.size := (below I hIlt).2
  have off₀ : Off I H2.objs.size s₂.heap.objs.size news := fun p hp => ⟨off p hp, (below _ (Heap.lt_size (N p hp).1)).1, (below _ (Heap.lt_size (N p hp).1)).2⟩
  have loop : ∀ s₃ : Shared, s₃ = { s₂ with heap := h₁, toks := s₂.toks + ([] : List (Str × Value)).length } →
      codeAny (model prog w) A (.compLoop (.ListComp elt [⟨.Name x px, iter, [], 0⟩] scope pos) 0 (.ref I) (.ref s₂.heap.objs.size) (compEnvC scope cl H2.objs.size env))
        (RR (.ref s₂.heap.objs.size) H2.objs.size) s₃ := by
    rintro s₃ rfl
    refine codeAny_compLoop_tests
      (CompS h₀ L m s₂ I H2.objs.size s₂.heap.objs.size n St J) ?_ (n + 1)
      ⟨h₁, _, 0, [], _, news, rfl, Nat.zero_le _, rfl, rfl, hst₁, F.keeps old, hns₁, fun p hp => ?_, off₀, hJ⟩
    · rintro k s' ⟨h', tk, i, ys, m', nw, rfl, hi, rfl, hyl, hst', F', hn', N', off', hJ'⟩
      by_cases hlt : i < n
      · refine W.item i _ _ _ hlt hst' fun v h₂ tk₂ hPv hst₂ hk₂ => ?_
        refine wpAny_assign_Name (wpAny_storeName_local (lookup_relabel_local hx) (hn'.at' fun o e => hk₂ _ o (by simpa using Ne.symm hCI) e) (fun h₃ hn₃ hs₃ => ?_) (by simp [compEnvC, relabel, hkind]))
        refine wpAny_tests_nil ?_
        simp only [if_true]
        have hst₃ : St (i + 1) h₃ := W.frame _ _ _ hst₂ fun b hb o e => hs₃.extBut b o (fun q => hCf (by have q' : b = H2.objs.size := q; rw [← q']; exact hb)) e
        obtain ⟨oI, heI⟩ := hIo _ _ hst₃
        obtain ⟨oC, heC, hoC⟩ := ns_obj hn₃
        have F₃ : Fr h₀ L h₃ m := (fr_but F' hk₂ hIL hI₀).change hs₃ hCL hC₀
        have N₂ : News h₀ L h₂ ((s₂.heap.objs.size, lst ys) :: nw) := news_but N' hk₂ fun p hp => by
          rcases List.mem_cons.mp hp with rfl | hp
          · exact Ne.symm hDI
          · exact (off' p hp).1
        have N₃ : News h₀ L h₃ ((I, oI) :: (H2.objs.size, oC) :: (s₂.heap.objs.size, lst ys) :: nw) := fun p hp => by
          rcases List.mem_cons.mp hp with rfl | hp
          · exact ⟨heI, Ne.symm hIL, hI₀⟩
          · rcases List.mem_cons.mp hp with rfl | hp
            · exact ⟨heC, hCL, hC₀⟩
            · have z := N₂ p hp
              refine ⟨hs₃.extBut _ _ ?_ z.1, z.2⟩
              rcases List.mem_cons.mp hp with rfl | hp
              · exact hDC
              · exact (off' p hp).2.1
        refine wpAny_mono (step i v ys nw oI H2.objs.size oC s₂.heap.objs.size _ h₃ _ hlt hyl hPv hJ' hoC (by simp) F₃ N₃ off' hCI hDI (Ne.symm hDC) (fresh _ (by rw [hC]; exact Nat.le_succ _)) (fresh _ (Nat.le_refl _)) hCL hC₀) (fun y s₄ h₄ => ?_) fun _ _ e => e
        obtain ⟨h₄, tk₄, nw₄, rfl, F₄, N₄, off₄, hJ₄⟩ := h₄
        have zI := (N₄ (I, oI) List.mem_cons_self).1
        have zC := (N₄ (H2.objs.size, oC) (List.mem_cons_of_mem _ List.mem_cons_self)).1
        have zD := (N₄ (s₂.heap.objs.size, lst ys) (List.mem_cons_of_mem _ (List.mem_cons_of_mem _ List.mem_cons_self))).1
        have N₄' : News h₀ L h₄ nw₄ := fun p hp => N₄ p (List.mem_cons_of_mem _ (List.mem_cons_of_mem _ (List.mem_cons_of_mem _ hp)))
        have hst₄ : St (i + 1) h₄ := hSt _ _ _ _ _ _ _ hst₃ heI zI F₄.keep N₄' hJ₄
        refine append_at (hsz := by show ys.toArray.size ≤ sizeLine; rw [List.size_toArray, hyl]; exact Nat.le_trans hi hsz) zD fun h₅ hs₅ hD₅ => ?_
        refine ⟨n + 1 - (i + 1), ar_step hlt, h₅, tk₄, i + 1, ys ++ [y], _, nw₄, rfl, hlt, rfl, by rw [List.length_append, List.length_singleton, hyl], W.frame _ _ _ hst₄ fun b hb o e => hs₅.extBut b o (fun q => hDf (q ▸ hb)) e, F₄.change hs₅ hDL hD₀,
          (hoC.ns zC).sameBut hs₅ (Ne.symm hDC), fun p hp => ?_, off₄, hJ₄⟩
        rcases List.mem_cons.mp hp with rfl | hp
        · exact ⟨hD₅.trans (congrArg some (lst_snoc ys y)), hDL, hD₀⟩
        · exact ⟨hs₅.extBut _ _ (off₄ p hp).2.2 (N₄' p hp).1, (N₄' p hp).2⟩
      · obtain rfl : i = n := Nat.le_antisymm hi (Nat.not_lt.mp hlt)
        refine W.done _ _ _ hst' fun h₂ tk₂ hk₂ => ?_
        exact hRR _ _ h₂ tk₂ _ ys nw (fr_but F' hk₂ hIL hI₀) (news_but N' hk₂ fun p hp => by
          rcases List.mem_cons.mp hp with rfl | hp
          · exact Ne.symm hDI
          · exact (off' p hp).1) (fun p hp => (off' p hp).2.2) (hn'.at' fun o e => hk₂ _ o (by simpa using Ne.symm hCI) e) hC₀ hD₀ hCL hDL (Ne.symm hDC) (fun p hp => (off' p hp).2.1) hyl hJ'
    · rcases List.mem_cons.mp hp with rfl | hp
      · exact ⟨hacc, hDL, hD₀⟩
      · exact ⟨old _ _ (N p hp).1, (N p hp).2⟩
  exact codeAny_compStart_list (loop _ rfl) (W.self 0 _ _ _ hst₁ (loop _ rfl))
end
end Mine
end TextB4
section TextB5
open PySem PySem.W PyProof.Rows PySem.Calls PySem.Spec
set_option Elab.async false
set_option maxRecDepth 100000
set_option maxHeartbeats 1000000
namespace Mine
open PyProof.Rows.LCg (lst NsObj ns_obj SrcAt list_st)

theorem ExcT.sameBut {H base h h' : Heap} {ms : List Addr} {l : List Env} {x C : Addr} {cls : Value} {m : Str → Option Value} (e : ExcT H ms base l x cls h) (hs : Heap.SameBut C h h') (hn : h.Ns C m)
    (hH : H.get? C = none) (hb : base.get? C = none) (hl : ∀ q ∈ l, q.frame ≠ some C) : ExcT H ms base l x cls h' := by
  obtain ⟨a, a', b, b', c, oe, vs, d1, d2, d3, d4, T, oT, ts, e1, e2, e2', e3, e4, e5, e6⟩ := e
  obtain ⟨oC, es, ep, hC, hCd, _⟩ := hn
  have ne : ∀ y o ws, h.get? y = some o → o.data = .fields ws → y ≠ C := fun y o ws q w z => by subst z; rw [hC] at q; cases q; rw [hCd] at w; cases w
  refine ⟨fun y o q => ?_, a', fun y o q => ?_, b', ?_, oe, vs, (hs.2 x (ne _ _ _ d1 d3)).trans d1, d2, d3, d4, T, oT, ts, e1, e2, e2', e3, (hs.2 T (ne _ _ _ e4 e5)).trans e4, e5, e6⟩
  · obtain ⟨o', q', f⟩ := a y o q
    exact ⟨o', (hs.2 y fun z => by subst z; rw [hH] at q; cases q).trans q', f⟩
  · exact (hs.2 y fun z => by subst z; rw [hb] at q; cases q).trans (b y o q)
  · clear e1 e2 e2' e3 e4 e5 e6 d1 d2 d3 d4 a a' b b'
    induction l with
    | nil => trivial
    | cons env r ih =>
      obtain ⟨hk, ⟨L, o, hf, hn, ho, hd⟩, hr⟩ := c
      exact ⟨hk, ⟨L, o, hf, hn, (hs.2 L fun z => by subst z; exact hl env (.head _) hf).trans ho, hd⟩, ih (fun q hq => hl q (.tail _ hq)) hr⟩

/-- and where something may be -/
noncomputable abbrev TurnE (Bad : Prop) (prog : Program) (w : World) (A : Around) (h₀ : Heap) (L : Addr) (m : Str → Option Value) (env : Env) (outer : List Env) (base : Heap) (cls : Value) (elt : Expr) (x : Str) (scope : Scope) (cl : List (Str × Addr)) (n : Nat) (P : Nat → Value → Prop) (J : Nat → List Value → List (Addr × Obj) → Prop) (s₂ : Shared) : Prop :=
  ∀ i v ys nw I oI C oC D m₂ h tk (E' : Value → Shared → Prop), (Bad → ∀ x h' tk', Exc h [] base (env :: outer) x cls h' → E' (.ref x) { s₂ with heap := h', toks := tk' }) →
    i < n → ys.length = i → P i v → J i ys nw → NsObj oC m₂ → m₂ x = some v → Fr h₀ L h m → News h₀ L h ((I, oI) :: (C, oC) :: (D, lst ys) :: nw) → Off I C D nw → I ≠ C → I ≠ D → C ≠ D →
    wpAny (model prog w) A (eval elt (compEnvC scope cl C env)) (EltEnd h₀ L m { s₂ with heap := h, toks := tk } I oI C oC D (lst ys) (fun y nw' => J (i + 1) (ys ++ [y]) nw')) E' { s₂ with heap := h, toks := tk }
noncomputable abbrev CompFin (h₀ : Heap) (L : Addr) (m : Str → Option Value) (n : Nat) (J : Nat → List Value → List (Addr × Obj) → Prop) (Q : Value → Shared → Prop) (s₂ : Shared) : Prop :=
  ∀ D h tk ys nw, Fr h₀ L h m → News h₀ L h ((D, lst ys) :: nw) → (∀ p ∈ nw, p.1 ≠ D) → ys.length = n → J n ys nw → Q (.ref D) { s₂ with heap := h, toks := tk }
/-- what a comprehension asks of its iterator, T: of its turns -/
inductive CompW (T : Nat → (Nat → Value → Prop) → (Nat → List Value → List (Addr × Obj) → Prop) → Shared → Prop) (prog : Program) (w : World) (A : Around) (h₀ : Heap) (L : Addr) (m : Str → Option Value) (Q : Value → Shared → Prop) (it : Value) (s₂ : Shared) : Prop
  | mk (I : Addr) (fp : List Addr) (n : Nat) (P : Nat → Value → Prop) (St : Nat → Heap → Prop) (news : List (Addr × Obj)) (J : Nat → List Value → List (Addr × Obj) → Prop)
    (e : it = .ref I) (W : Walks prog w A I fp [I] n P St) (hsz : n ≤ sizeLine) (hIo : ∀ i h, St i h → ∃ o, h.get? I = some o)
    (hSt : ∀ i h h' o nw ys k, St i h → h.get? I = some o → h'.get? I = some o → (∀ b o, h₀.get? b = some o → h'.get? b = some o) → News h₀ L h' nw → J k ys nw → St i h')
    (hst : St 0 s₂.heap) (hfp : ∀ b ∈ fp, b < s₂.heap.objs.size) (F : Fr h₀ L s₂.heap m) (N : News h₀ L s₂.heap news) (hIL : L ≠ I) (hI₀ : h₀.get? I = none) (off : ∀ p ∈ news, p.1 ≠ I) (hJ : J 0 [] news)
    (step : T n P J s₂) (fin : CompFin h₀ L m n J Q s₂) : CompW T prog w A h₀ L m Q it s₂
noncomputable abbrev TurnU (Bad : Prop) (ms : List Addr) (H : Heap) (base : Heap) (env : Env) (outer : List Env) (cls : Value) (E : Value → Shared → Prop) (h₀ : Heap) (L : Addr) (m : Str → Option Value) (X : Nat → (Nat → Value → Prop) → (Nat → List Value → List (Addr × Obj) → Prop) → Shared → Prop)
    (n : Nat) (P : Nat → Value → Prop) (J : Nat → List Value → List (Addr × Obj) → Prop) (s₂ : Shared) : Prop :=
  Upto ms H s₂.heap ∧ (Bad → ∀ x h' tk', Exc H ms base (env :: outer) x cls h' → E (.ref x) { s₂ with heap := h', toks := tk' }) ∧ (∀ h nw ys i, Fr h₀ L h m → News h₀ L h nw → J i ys nw → Upto ms H h) ∧ X n P J s₂
section
variable {w : World} {p : Program} {loose : List Str} {mean : ExcName → Option Value} {mg mb : Str → Option Value} {A A₀ : Around} {env env' : Env} {outer : List Env} {base h₀ : Heap} {L : Addr} {m : Str → Option Value} {news : List (Addr × Obj)} {s : Shared}
  {prog : Program} {E : Value → Shared → Prop}

theorem frames_off {C : Addr} (B : Below A₀ base outer h₀) (hf : env.frame = some L) (hL : C ≠ L) (hC : h₀.get? C = none) : ∀ q ∈ env :: outer, q.frame ≠ some C := fun q hq e => by
  rcases List.mem_cons.mp hq with rfl | hq
  · rw [hf] at e; exact hL (Option.some.inj e).symm
  · obtain ⟨_, o, ho, _⟩ := B.frames.mem (List.mem_filterMap.mpr ⟨q, hq, e⟩)
    rw [hC] at ho; cases ho

/-- what an element's turn is asked, where an exception may fly -/
theorem comp_any {elt iter : Expr} {x : Str} {px : Pos} {scope : Scope} {cl : List (Str × Addr)} {pos : Pos} {Q : Value → Shared → Prop} {cls : Value} {H : Heap} {ms : List Addr} (Bad : Prop)
    (B : Below A₀ base outer h₀) (hA : A.frames = some (env :: outer)) (hf : env.frame = some L)
    (hclos : closureFor scope env = pure cl) (hcell : ∀ y ∈ scope.names, y.2 ≠ .cell) (hkind : scope.kind = .function)
    (hnames : ∀ y ∈ scope.names, y.2 = .local → scope.names.lookup y.1 = some .local) (hx : scope.names.lookup x = some .local)
    (h : wpAny (model prog w) A (eval iter env) (fun xv s₁ => wpAny (model prog w) A (pyIter xv) (fun it s₂ =>
      CompW (TurnU Bad ms H base env outer cls E h₀ L m (TurnE Bad prog w A h₀ L m env outer base cls elt x scope cl)) prog w A h₀ L m Q it s₂) E s₁) E s)
    (hs : ∀ x, foldedSetIterable iter env x = pure x := by intro _; rfl) :
    wpAny (model prog w) A (eval (.ListComp elt [⟨.Name x px, iter, [], 0⟩] scope pos) env) Q E s := by
  rw [eval_ListComp]
  refine wpAny_comprehension_free (use := none) rfl hs hclos hkind hnames (wpAny_mono h (fun xv s₁ h₁ => wpAny_mono h₁ (fun it s₂ h₂ => ?_) fun _ _ e => e) fun _ _ e => e)
  obtain ⟨I, fp, n, P, St, news, J, rfl, W, hsz, hIo, hSt, hst, hfp, F, N, hIL, hI₀, off, hJ, ⟨hU, hE, hup, step⟩, fin⟩ := h₂
  refine comp_block (RR := fun acc C => compPost (model prog w) A E none Q acc C) (J := J) W hsz hIo hSt hcell hkind hx hst hfp F N hIL hI₀ off hJ ?_ ?_
  · intro i v ys nw oI C oC D m₂ h tk hi hy hP hJ' hoC hv F₁ N₁ off₁ hIC hID hCD hC₂ hD₂ hCL hC₀
    refine step i v ys nw I oI C oC D m₂ h tk _ (fun bad x h' tk' he => ?_) hi hy hP hJ' hoC hv F₁ N₁ off₁ hIC hID hCD
    have Nn : News h₀ L h nw := fun q hq => N₁ q (.tail _ (.tail _ (.tail _ hq)))
    have hnC : h.Ns C m₂ := hoC.ns (N₁ (C, oC) (.tail _ (.head _))).1
    show wpAny (model prog w) A (noteFrame (.ref x) (compEnvC scope cl C env)) _ _ _
    refine exc_note hA rfl he fun h'' e'' => ?_
    have hnC' := e''.1.ns hnC (by simp)
    have eH : ExcT H ms base (env :: outer) x cls h'' := by
      have uH := hup h nw ys i F₁ Nn hJ'
      obtain ⟨a, a', b, b', c, oe, vs, d1, d2, d3, d4, T, oT, ts, e1, e2, e2', e3⟩ := e''
      have z := Exc.weaken (H' := H) (ms' := ms) (⟨a, a', b, b', c, oe, vs, d1, d2, d3, d4, .inr ⟨T, oT, ts, e1, e2, e2', e3⟩⟩ : Exc h [] base (env :: outer) x cls h'') uH (fun _ hb => nomatch hb)
      exact ⟨z.1, z.2.1, b, b', c, oe, vs, d1, d2, d3, d4, T, oT, ts, e1, e2, uH.none e2', e3⟩
    refine ⟨m₂, hnC', fun h₃ hsb cenv' _ => ?_⟩
    have hbC : base.get? C = none := by
      cases q : base.get? C with
      | none => rfl
      | some o => have := B.stays C o q; rw [hC₀] at this; cases this
    exact exc_passOn (eH.sameBut hsb hnC' (hU.none hC₂) hbC (frames_off B hf hCL hC₀)) fun h₄ e₄ => hE bad x h₄ _ e₄.exc
  · intro D C h tk m' ys nw F' N' o1 hn hC₀ hD₀ hCL hDL hCD offC hy hJ'
    refine ⟨m', hn, fun h'' hs'' => fin D h'' tk ys nw (F'.change hs'' hCL hC₀) (fun p hp => ?_) o1 hy hJ'⟩
    refine ⟨hs''.extBut _ _ ?_ (N' p hp).1, (N' p hp).2⟩
    rcases List.mem_cons.mp hp with rfl | hp
    · exact Ne.symm hCD
    · exact offC p hp
end
end Mine
end TextB5
section TextB6
open PySem PySem.W PyProof.Rows PySem.Calls PySem.Spec
set_option Elab.async false
set_option maxRecDepth 100000
set_option maxHeartbeats 1000000
namespace Mine
open PyProof.Rows.LCg (lst NsObj ns_obj SrcAt list_st)

/-- what a comprehension over a list of the ledger asks -/
inductive CompL (T : Nat → (Nat → Value → Prop) → (Nat → List Value → List (Addr × Obj) → Prop) → Shared → Prop) (h₀ : Heap) (L : Addr) (m : Str → Option Value) (Q : Value → Shared → Prop) (xv : Value) (s₁ : Shared) : Prop
  | mk (ax : Addr) (its : Array Value) (news : List (Addr × Obj)) (J : Nat → List Value → List (Addr × Obj) → Prop) (e : xv = .ref ax) (F : Fr h₀ L s₁.heap m) (N : News h₀ L s₁.heap news) (hsz : its.size ≤ sizeLine) (hJ : J 0 [] news) (hS : ∀ k ys nw, J k ys nw → SrcAt h₀ ax its nw)
    (k : ∀ s₂ : Shared, (∃ g, s₂ = { s₁ with heap := g }) → (∀ b o, s₁.heap.get? b = some o → s₂.heap.get? b = some o) → T its.size (fun i v => its[i]? = some v) J s₂ ∧ CompFin h₀ L m its.size J Q s₂) : CompL T h₀ L m Q xv s₁
/-- and where something may be raised -/
inductive CompLE (X : Nat → (Nat → Value → Prop) → (Nat → List Value → List (Addr × Obj) → Prop) → Shared → Prop) (Bad : Prop) (ms : List Addr) (H : Heap) (base : Heap) (env : Env) (outer : List Env) (cls : Value) (E : Value → Shared → Prop) (h₀ : Heap) (L : Addr) (m : Str → Option Value) (Q : Value → Shared → Prop) (xv : Value) (s₁ : Shared) : Prop
  | mk (ax : Addr) (its : Array Value) (news : List (Addr × Obj)) (J : Nat → List Value → List (Addr × Obj) → Prop) (e : xv = .ref ax) (F : Fr h₀ L s₁.heap m) (N : News h₀ L s₁.heap news) (hsz : its.size ≤ sizeLine) (hJ : J 0 [] news) (hS : ∀ k ys nw, J k ys nw → SrcAt h₀ ax its nw)
    (hU : Upto ms H s₁.heap) (hE : Bad → ∀ x h' tk', Exc H ms base (env :: outer) x cls h' → E (.ref x) { s₁ with heap := h', toks := tk' }) (hup : ∀ h nw ys i, Fr h₀ L h m → News h₀ L h nw → J i ys nw → Upto ms H h)
    (k : ∀ s₂ : Shared, (∃ g, s₂ = { s₁ with heap := g }) → (∀ b o, s₁.heap.get? b = some o → s₂.heap.get? b = some o) → X its.size (fun i v => its[i]? = some v) J s₂ ∧ CompFin h₀ L m its.size J Q s₂) : CompLE X Bad ms H base env outer cls E h₀ L m Q xv s₁
/-- what a comprehension over a range asks -/
inductive CompR (T : Nat → (Nat → Value → Prop) → (Nat → List Value → List (Addr × Obj) → Prop) → Shared → Prop) (h₀ : Heap) (L : Addr) (m : Str → Option Value) (Q : Value → Shared → Prop) (xv : Value) (s₁ : Shared) : Prop
  | mk (r : Addr) (a b c : Int) (t u v : Tok) (n : Nat) (news : List (Addr × Obj)) (J : Nat → List Value → List (Addr × Obj) → Prop)
    (e : xv = .ref r) (hr : IsRange s₁.heap r a b c t u v) (hsm : Builtin.Range.small a b c = true) (hn : Builtin.Range.rangeSize a b c = ((n : Nat) : Int)) (hsz : n ≤ sizeLine) (F : Fr h₀ L s₁.heap m) (N : News h₀ L s₁.heap news) (hJ : J 0 [] news)
    (k : ∀ s₂ : Shared, (∃ g, s₂ = { s₁ with heap := g }) → (∀ b o, s₁.heap.get? b = some o → s₂.heap.get? b = some o) → T n (fun i v => ∃ t, v = .int (a + i * c) t) J s₂ ∧ CompFin h₀ L m n J Q s₂) : CompR T h₀ L m Q xv s₁
theorem CompLE.toL {X : Nat → (Nat → Value → Prop) → (Nat → List Value → List (Addr × Obj) → Prop) → Shared → Prop} {Bad : Prop} {ms : List Addr} {H : Heap} {base : Heap} {env : Env} {outer : List Env} {cls : Value} {E : Value → Shared → Prop} {h₀ : Heap} {L : Addr} {m : Str → Option Value} {Q : Value → Shared → Prop} {xv : Value} {s₁ : Shared}
    (h₁ : CompLE X Bad ms H base env outer cls E h₀ L m Q xv s₁) : CompL (TurnU Bad ms H base env outer cls E h₀ L m X) h₀ L m Q xv s₁ := by
  obtain ⟨ax, its, news, J, e, F, N, hsz, hJ, hS, hU, hE, hup, k⟩ := h₁
  refine ⟨ax, its, news, J, e, F, N, hsz, hJ, hS, fun s₂ hs up => ⟨⟨fun b o q => ?_, ?_, hup, (k s₂ hs up).1⟩, (k s₂ hs up).2⟩⟩
  · obtain ⟨o', q', r⟩ := hU b o q
    exact ⟨o', up _ _ q', r⟩
  · obtain ⟨g, rfl⟩ := hs
    exact hE
section
variable {w : World} {p : Program} {loose : List Str} {mean : ExcName → Option Value} {mg mb : Str → Option Value} {A A₀ : Around} {env env' : Env} {outer : List Env} {base h₀ : Heap} {L : Addr} {m : Str → Option Value} {news : List (Addr × Obj)} {s : Shared}
  {prog : Program} {E : Value → Shared → Prop}

/-- an element's turn where nothing is raised -/
noncomputable abbrev Turn (prog : Program) (w : World) (A : Around) (h₀ : Heap) (L : Addr) (m : Str → Option Value) (env : Env) (elt : Expr) (x : Str) (scope : Scope) (cl : List (Str × Addr)) (n : Nat) (P : Nat → Value → Prop) (J : Nat → List Value → List (Addr × Obj) → Prop) (s₂ : Shared) : Prop :=
  ∀ i v ys nw I oI C oC D m₂ h tk (E' : Value → Shared → Prop), i < n → ys.length = i → P i v → J i ys nw → NsObj oC m₂ → m₂ x = some v → Fr h₀ L h m → News h₀ L h ((I, oI) :: (C, oC) :: (D, lst ys) :: nw) → Off I C D nw → I ≠ C → I ≠ D → C ≠ D →
    wpAny (model prog w) A (eval elt (compEnvC scope cl C env)) (EltEnd h₀ L m { s₂ with heap := h, toks := tk } I oI C oC D (lst ys) (fun y nw' => J (i + 1) (ys ++ [y]) nw')) E' { s₂ with heap := h, toks := tk }

theorem comp_quiet {elt iter : Expr} {x : Str} {px : Pos} {scope : Scope} {cl : List (Str × Addr)} {pos : Pos} {Q : Value → Shared → Prop}
    (hclos : closureFor scope env = pure cl) (hcell : ∀ y ∈ scope.names, y.2 ≠ .cell) (hkind : scope.kind = .function)
    (hnames : ∀ y ∈ scope.names, y.2 = .local → scope.names.lookup y.1 = some .local) (hx : scope.names.lookup x = some .local)
    (h : wpAny (model prog w) A (eval iter env) (fun xv s₁ => wpAny (model prog w) A (pyIter xv) (fun it s₂ =>
      CompW (Turn prog w A h₀ L m env elt x scope cl) prog w A h₀ L m Q it s₂) E s₁) E s)
    (hs : ∀ x, foldedSetIterable iter env x = pure x := by intro _; rfl) :
    wpAny (model prog w) A (eval (.ListComp elt [⟨.Name x px, iter, [], 0⟩] scope pos) env) Q E s := by
  rw [eval_ListComp]
  refine wpAny_comprehension_free (use := none) rfl hs hclos hkind hnames (wpAny_mono h (fun xv s₁ h₁ => wpAny_mono h₁ (fun it s₂ h₂ => ?_) fun _ _ e => e) fun _ _ e => e)
  obtain ⟨I, fp, n, P, St, news, J, rfl, W, hsz, hIo, hSt, hst, hfp, F, N, hIL, hI₀, off, hJ, step, fin⟩ := h₂
  refine comp_block (RR := fun acc C => compPost (model prog w) A E none Q acc C) (J := J) W hsz hIo hSt hcell hkind hx hst hfp F N hIL hI₀ off hJ ?_ ?_
  · intro i v ys nw oI C oC D m₂ h tk hi hy hP hJ' hoC hv F₁ N₁ off₁ hIC hID hCD hC₂ hD₂ hCL hC₀
    exact step i v ys nw I oI C oC D m₂ h tk _ hi hy hP hJ' hoC hv F₁ N₁ off₁ hIC hID hCD
  · intro D C h tk m' ys nw F' N' o1 hn hC₀ hD₀ hCL hDL hCD offC hy hJ'
    refine ⟨m', hn, fun h'' hs'' => fin D h'' tk ys nw (F'.change hs'' hCL hC₀) (fun p hp => ?_) o1 hy hJ'⟩
    refine ⟨hs''.extBut _ _ ?_ (N' p hp).1, (N' p hp).2⟩
    revert p; refine fa_cons ?_ fun p hp => ?_
    · exact Ne.symm hCD
    · exact offC p hp

theorem list_lt {h : Heap} {ax : Addr} {its : Array Value} (hl : h.IsList ax its) : ax < h.objs.size := by obtain ⟨_, e, _⟩ := hl; exact Heap.lt_size e

theorem compW_list {T : Nat → (Nat → Value → Prop) → (Nat → List Value → List (Addr × Obj) → Prop) → Shared → Prop} {Q : Value → Shared → Prop} {xv : Value} {s₁ : Shared} (hh : A.handled = none) (h₁ : CompL T h₀ L m Q xv s₁) : wpAny (model prog w) A (pyIter xv) (fun it s₂ => CompW T prog w A h₀ L m Q it s₂) E s₁ := by
  obtain ⟨ax, its, news, J, rfl, F, N, hsz, hJ, hS, k⟩ := h₁
  have hl := (hS _ _ _ hJ).list F.keep N
  refine wpAny_pyIter_list hl ?_
  have up : ∀ b o, s₁.heap.get? b = some o → (s₁.heap.push { cls := .type "list_iterator", data := .fields #[.ref ax, .int 0 0] }).get? b = some o := fun b o e => Heap.get?_push_of_some _ e
  obtain ⟨step, fin⟩ := k { s₁ with heap := s₁.heap.push { cls := .type "list_iterator", data := .fields #[.ref ax, .int 0 0] } } ⟨_, rfl⟩ up
  refine ⟨s₁.heap.objs.size, [s₁.heap.objs.size, ax], its.size, _, _, news, J, rfl, Walks.list hh s₁.heap.objs.size ax (Nat.ne_of_lt (list_lt hl)) its, hsz, (fun i h st => by obtain ⟨o, e, _⟩ := st.1; exact ⟨o, e⟩),
    (fun i h h' o nw ys k st e e' kk NN jj => list_st i h h' o nw st e e' kk NN (hS _ _ _ jj)), ⟨⟨_, Heap.get?_push_size _ rfl, rfl, rfl⟩, hl.push _⟩, (fun b hb => ?_), F.keeps up, N.grown up, Nat.ne_of_lt F.ns.lt, next_is_new F, (fun p hp => Nat.ne_of_lt (Heap.lt_size (N p hp).1)), hJ, step, fin⟩
  show b < (s₁.heap.push _).objs.size
  rw [Heap.size_push]
  rcases List.mem_cons.mp hb with rfl | hb
  · exact Nat.lt_succ_self _
  · rw [List.mem_singleton.mp hb]; exact Nat.lt_succ_of_lt (list_lt hl)

/-- a comprehension over a list -/
theorem comp_list {elt iter : Expr} {x : Str} {px : Pos} {scope : Scope} {cl : List (Str × Addr)} {pos : Pos} {Q : Value → Shared → Prop} (F₀ : Fr h₀ L s.heap m) (hh : A.handled = none)
    (hclos : closureFor scope env = pure cl) (hcell : ∀ y ∈ scope.names, y.2 ≠ .cell) (hkind : scope.kind = .function)
    (hnames : ∀ y ∈ scope.names, y.2 = .local → scope.names.lookup y.1 = some .local) (hx : scope.names.lookup x = some .local)
    (h : wpAny (model prog w) A (eval iter env) (fun xv s₁ => Hold (CompL (Turn prog w A h₀ L m env elt x scope cl) h₀ L m Q xv s₁)) E s)
    (hs : ∀ x, foldedSetIterable iter env x = pure x := by intro _; rfl) :
    wpAny (model prog w) A (eval (.ListComp elt [⟨.Name x px, iter, [], 0⟩] scope pos) env) Q E s :=
  comp_quiet (h₀ := h₀) (L := L) (m := m) hclos hcell hkind hnames hx (wpAny_mono h (fun _ _ h₁ => compW_list hh h₁) fun _ _ e => e) hs

/-- a comprehension over a list whose element may raise -/
theorem comp_listE {elt iter : Expr} {x : Str} {px : Pos} {scope : Scope} {cl : List (Str × Addr)} {pos : Pos} {Q : Value → Shared → Prop} {cls : Value} {H : Heap} {ms : List Addr} (Bad : Prop) (F₀ : Fr h₀ L s.heap m) (hh : A.handled = none)
    (B : Below A₀ base outer h₀) (hA : A.frames = some (env :: outer)) (hf : env.frame = some L)
    (hclos : closureFor scope env = pure cl) (hcell : ∀ y ∈ scope.names, y.2 ≠ .cell) (hkind : scope.kind = .function)
    (hnames : ∀ y ∈ scope.names, y.2 = .local → scope.names.lookup y.1 = some .local) (hx : scope.names.lookup x = some .local)
    (h : wpAny (model prog w) A (eval iter env) (fun xv s₁ => Hold (CompLE (TurnE Bad prog w A h₀ L m env outer base cls elt x scope cl) Bad ms H base env outer cls E h₀ L m Q xv s₁)) E s)
    (hs : ∀ x, foldedSetIterable iter env x = pure x := by intro _; rfl) :
    wpAny (model prog w) A (eval (.ListComp elt [⟨.Name x px, iter, [], 0⟩] scope pos) env) Q E s :=
  comp_any Bad (m := m) (cls := cls) (H := H) (ms := ms) B hA hf hclos hcell hkind hnames hx (wpAny_mono h (fun _ _ h₁ => compW_list hh (CompLE.toL h₁)) fun _ _ e => e) hs

/-- a comprehension over a range -/
theorem comp_range {elt iter : Expr} {x : Str} {px : Pos} {scope : Scope} {cl : List (Str × Addr)} {pos : Pos} {Q : Value → Shared → Prop} (F₀ : Fr h₀ L s.heap m) (hh : A.handled = none)
    (hclos : closureFor scope env = pure cl) (hcell : ∀ y ∈ scope.names, y.2 ≠ .cell) (hkind : scope.kind = .function)
    (hnames : ∀ y ∈ scope.names, y.2 = .local → scope.names.lookup y.1 = some .local) (hx : scope.names.lookup x = some .local)
    (h : wpAny (model prog w) A (eval iter env) (fun xv s₁ => Hold (CompR (Turn prog w A h₀ L m env elt x scope cl) h₀ L m Q xv s₁)) E s)
    (hs : ∀ x, foldedSetIterable iter env x = pure x := by intro _; rfl) :
    wpAny (model prog w) A (eval (.ListComp elt [⟨.Name x px, iter, [], 0⟩] scope pos) env) Q E s := by
  refine comp_quiet (h₀ := h₀) (L := L) (m := m) hclos hcell hkind hnames hx (wpAny_mono h (fun xv s₁ h₁ => ?_) fun _ _ e => e) hs
  obtain ⟨r, a, b, c, t, u, v, n, news, J, rfl, hr, hsm, hn, hsz, F, N, hJ, k⟩ := h₁
  refine wpAny_pyIter_range hr hsm ?_
  have up : ∀ y o, s₁.heap.get? y = some o → (s₁.heap.push { cls := .type "range_iterator", data := .fields #[rawInt a, rawInt (Builtin.Range.rangeSize a b c), rawInt c] }).get? y = some o := fun b o e => Heap.get?_push_of_some _ e
  obtain ⟨step, fin⟩ := k { s₁ with heap := s₁.heap.push { cls := .type "range_iterator", data := .fields #[rawInt a, rawInt (Builtin.Range.rangeSize a b c), rawInt c] } } ⟨_, rfl⟩ up
  refine ⟨s₁.heap.objs.size, [s₁.heap.objs.size], n, _, _, news, J, rfl, Walks.range hh s₁.heap.objs.size a c n, hsz, (fun i h st => ⟨_, st⟩),
    (fun i h h' o nw ys k st e e' _ _ _ => ?_), (by show IsRangeIter _ _ _ _ _; rw [hn]; simpa using Heap.get?_push_size _ rfl), (fun b hb => ?_), F.keeps up, N.grown up, Nat.ne_of_lt F.ns.lt, next_is_new F, (fun p hp => Nat.ne_of_lt (Heap.lt_size (N p hp).1)), hJ, step, fin⟩
  · have st' : h.get? s₁.heap.objs.size = some _ := st
    show h'.get? s₁.heap.objs.size = some _
    rw [e', ← e]; exact st'
  · show b < (s₁.heap.push _).objs.size
    rw [Heap.size_push, List.mem_singleton.mp hb]
    exact Nat.lt_succ_self _
end
end Mine
end TextB6
section TextB7
open PySem PySem.W PyProof.Rows PySem.Calls PySem.Spec
set_option Elab.async false
set_option maxRecDepth 100000
set_option maxHeartbeats 1000000
namespace Mine
/-- the part that the tactics know, kept from this text on -/
theorem fillK {w : World} {A : Around} {Q : Value → Shared → Prop} {E : Value → Shared → Prop} {s : Shared} (h : (hd0.heap_1 w.params).In s.heap → wpAny (model PySem.Challenge.rw_pb0182_01.row.prog w) A (call .none []) Q E s) :
    (hd0.heap_1 w.params).In s.heap → wpAny (model PySem.Challenge.rw_pb0182_01.row.prog w) A (call .none []) Q E s := by
  k_fill
  w_top off
  intro hX
  try walk1
  exact h hX
noncomputable abbrev PG : Program := PySem.Challenge.rw_pb0182_01.row.prog
theorem unhide {P : Prop} (h : P) : P := h
section
variable {α : Type} {a b : α} {G l l' : List α}
theorem sub_rf : ∀ q ∈ l, q ∈ l := fun _ h => h
theorem sub_cons (h1 : a ∈ l) (h2 : ∀ q ∈ l', q ∈ l) : ∀ q ∈ a :: l', q ∈ l := List.forall_mem_cons.mpr ⟨h1, h2⟩
theorem sub_tl (h : ∀ q ∈ l', q ∈ l) : ∀ q ∈ l', q ∈ b :: l := fun q hq => .tail _ (h q hq)
theorem sub_app (h1 : ∀ q ∈ G, q ∈ l) (h2 : ∀ q ∈ l', q ∈ l) : ∀ q ∈ G ++ l', q ∈ l := fun q hq => (List.mem_append.mp hq).elim (h1 q) (h2 q)
theorem sub_apl : ∀ q ∈ G, q ∈ G ++ l := fun _ h => List.mem_append_left _ h
theorem sub_apr (h : ∀ q ∈ l', q ∈ l) : ∀ q ∈ l', q ∈ G ++ l := fun q hq => List.mem_append_right _ (h q hq)
end
end Mine
end TextB7
open PySem PySem.W PyProof.Rows PySem.Calls PySem.Spec
set_option Elab.async false
set_option maxRecDepth 100000
set_option maxHeartbeats 1000000
namespace Mine
/-- a mark in the context: the walker stops at this key, or takes this way -/
inductive Stop (k : String) : Prop | mk
theorem hold_at {k : String} {P : Prop} (_ : Stop k) (h : Hold P) : P := h
theorem by_nl {P : Prop} (_ : Stop "name local") (h : P) : P := h
theorem by_nd {P : Prop} (_ : Stop "name ld") (h : P) : P := h
theorem by_m1 {P : Prop} (_ : Stop "mem 1") (h : P) : P := h
theorem by_m2 {P : Prop} (_ : Stop "mem 2") (h : P) : P := h
theorem by_a1 {P : Prop} (_ : Stop "all 1") (h : P) : P := h
theorem by_a2 {P : Prop} (_ : Stop "all 2") (h : P) : P := h
theorem by_j {P : Prop} (_ : Stop "join") (h : P) : P := h
theorem all_cons {α : Type} {p : α → Prop} {a : α} {l : List α} (h : p a) (t : ∀ x ∈ l, p x) : ∀ x ∈ a :: l, p x := List.forall_mem_cons.mpr ⟨h, t⟩
end Mine
section Walks
open Mine
local macro_rules | `(tactic| walk_at $k:str) => `(tactic| (refine' hold_at (k := $k) ?_ ?_; assumption))
local macro_rules | `(tactic| walk_at "eval Name") => `(tactic| first | (refine' by_nd ?_ ?_; (assumption); k_here; k_dflt (refine' ld ?k1 ?k2 ?_; (case k1 => k_asm); (case k2 => assumption); k_whole)) | (refine' by_nl ?_ ?_; (assumption); k_here; name_kind "local"; k_dflt (refine' nameX_L ?k1 ?k2 ?_ ?a ?b; (case a => rfl); (case b => rfl); (case k1 => k_asm); (case k2 => assumption); k_whole)))
local macro_rules | `(tactic| k_mem) => `(tactic| first | (refine' by_m1 ?_ ?_; assumption; assumption) | (refine' by_m2 ?_ ?_; assumption; first | assumption | exact .head _ | (refine' .tail _ ?_; k_mem)))
local macro_rules | `(tactic| k_ne) => `(tactic| (refine' by_a1 ?_ ?_; assumption; assumption))
local macro_rules | `(tactic| k_all) => `(tactic| first | (refine' by_a1 ?_ ?_; assumption; assumption) | (refine' by_a2 ?_ ?_; assumption; first | assumption | (refine' all_cons ?_ ?_; k_ne; k_all)))

section TextC2
open PySem PySem.W PyProof.Rows PySem.Calls PySem.Spec
open PySem.Sem (wp)
set_option Elab.async false
set_option maxRecDepth 100000
set_option maxHeartbeats 1000000
namespace Mine
section
variable {M : Model} {A : Around} {E : Value → Shared → Prop} {s : Shared} {env : Env}
theorem execsC_nil {Q : Flow → Shared → Prop} (h : Q .next s) : wpC M A (execs [] env) Q E s := wpC_any (wpAny_execs_nil h)
theorem execsC_cons {st rest} {Q : Flow → Shared → Prop} (h : wpC M A (exec st env) (fun f s' => match f with | .next => wpC M A (execs rest env) Q E s' | f => Q f s') E s) : wpC M A (execs (st :: rest) env) Q E s := by
  rw [arm_execs_cons]
  refine wpC_bind (wpC_mono h (fun f s' h' => ?_) fun _ _ x => x)
  cases f <;> first | exact h' | exact wpC_pure h'
/-- a statement that needs no clean stack, then the rest -/
theorem execsC_any {st rest} {Q : Flow → Shared → Prop} (h : wpAny M A (exec st env) (fun f s' => match f with | .next => Hold (wpC M A (execs rest env) Q E s') | f => Q f s') E s) : wpC M A (execs (st :: rest) env) Q E s :=
  execsC_cons (wpC_any (wpAny_mono h (fun f s' h' => by cases f <;> exact h') fun _ _ x => x))
theorem exprC {e pos} {Q : Flow → Shared → Prop} (h : wpC M A (eval e env) (fun v s' => match v with | .ref _ => False | _ => Q .next s') E s)
    (hi : interactive env = false := by rfl) (hs : swapsWith e none pos.line env = pure false := by rfl) : wpC M A (exec (.Expr e pos) env) Q E s := by
  rw [exec_Expr env e pos hi hs]
  refine wpC_standAt (wpC_bind (wpC_mono h (fun v s' h' => ?_) fun _ _ x => x))
  have hv : ∀ a, v ≠ .ref a := fun a hva => by subst hva; exact h'
  rw [dropValue_plain hv]
  refine wpC_pure ?_
  cases v <;> first | exact h' | exact (hv _ rfl).elim
theorem assignC {t value pos} {Q : Flow → Shared → Prop} (h : wpC M A (eval value env) (fun v s₁ => wpAny M A (assign t env v) (fun _ => Q .next) E s₁) E s)
    (hs : swapsWithSole [t] value pos.line env = pure false := by rfl) (hw : swappedStores [t] value env = pure none := by rfl) (he : (assignEach [t] env).map (·.2) = [assign t env] := by rfl) :
    wpC M A (exec (.Assign [t] value pos) env) Q E s := by
  rw [arm_exec_Assign]
  refine wpC_standAt ?_
  rw [hs]
  refine wpC_bind (wpC_pure ?_)
  rw [if_neg (by decide)]
  refine wpC_bind (wpC_mono h (fun v s₁ h₁ => ?_) fun _ _ x => x)
  rw [hw]
  refine wpC_bind (wpC_pure ?_)
  rw [he]
  show wpC M A (do assignAll v [assign t env]; pure .next) Q E s₁
  refine wpC_bindA ?_
  show wpAny M A (assignAll v [assign t env]) _ E s₁
  exact wpAny_mono h₁ (fun _ _ z => wpC_pure z) fun _ _ x => x
theorem ifC {test body orelse pos} {Q : Flow → Shared → Prop} (h : wpC M A (isTrue test env (eval test env)) (fun b s₂ => if b then wpC M A (execs body env) Q E s₂ else wpC M A (execs orelse env) Q E s₂) E s) :
    wpC M A (exec (.If test body orelse pos) env) Q E s := by
  rw [arm_exec_If]
  refine wpC_standAt (wpC_bind (wpC_mono h (fun b s₂ h₂ => ?_) fun _ _ x => x))
  cases b <;> exact h₂
theorem returnC {e pos} {Q : Flow → Shared → Prop} (h : wpC M A (eval e env) (fun v => Q (.ret v)) E s) : wpC M A (exec (.Return (some e) pos) env) Q E s := by
  rw [arm_exec_Return]
  exact wpC_standAt (wpC_bind (wpC_mono h (fun v s' h' => wpC_pure h') fun _ _ x => x))
theorem splicedC_nil {Q : List Value → Shared → Prop} (h : Q [] s) : wpC M A (spliced []) Q E s := wpC_any (spliced_nil h)
theorem splicedC_cons {x : Sem Value} {rest : List (Bool × Sem Value)} {Q : List Value → Shared → Prop} (h : wpC M A x (fun v s₁ => wpC M A (spliced rest) (fun vs s₂ => Q (v :: vs) s₂) E s₁) E s) : wpC M A (spliced ((false, x) :: rest)) Q E s := by
  rw [spliced]
  refine wpC_bind (wpC_mono h (fun v s₁ h₁ => ?_) fun _ _ x => x)
  simp only [Bool.false_eq_true, if_false]
  exact wpC_bind (wpC_pure (wpC_bind (wpC_holding (wpC_mono h₁ (fun vs s₂ h₂ => wpC_pure h₂) fun _ _ x => x))))
theorem evalArgsC {f : Value} {args : List (Bool × Sem Value)} {Q : Args → Shared → Prop} (hplain : args.any (·.1) = false) (h : wpC M A (spliced args) (fun vs s' => Q ⟨vs, []⟩ s') E s) : wpC M A (evalArgs f true args []) Q E s := by
  unfold evalArgs
  match args, hplain with
  | [], _ =>
    show wpC M A (spliced [] >>= _) Q E s
    exact wpC_bind (wpC_mono h (fun vs s' h' => wpC_bind (wpC_pure (wpC_holding (wpC_bind (wpC_pure (wpC_bind (wpC_pure (wpC_pure h')))))))) fun _ _ x => x)
  | [(false, x)], _ =>
    show wpC M A (spliced [(false, x)] >>= _) Q E s
    exact wpC_bind (wpC_mono h (fun vs s' h' => wpC_holding (wpC_bind (wpC_pure (wpC_bind (wpC_pure (wpC_pure h')))))) fun _ _ x => x)
  | (true, x) :: r, hp => exact absurd hp (by simp)
  | (false, x) :: b :: r, _ =>
    show wpC M A (spliced ((false, x) :: b :: r) >>= _) Q E s
    exact wpC_bind (wpC_mono h (fun vs s' h' => wpC_holding (wpC_bind (wpC_pure (wpC_bind (wpC_pure (wpC_pure h')))))) fun _ _ x => x)
theorem callWithC {P : Heap → Prop} {pos : Pos} {f : Value} {first : List Value} {Q : Value → Shared → Prop} {args : List (Bool × Sem Value)} (hplain : args.any (·.1) = false)
    (hk : ∀ h, P h → ∃ k, (k = Keeper.frame ∨ k = Keeper.machine ∨ k = Keeper.boundFrame) ∧ Looks M h (keeperOf f) k)
    (h : wpC M A (spliced args) (fun vs s₁ => P s₁.heap ∧ wpC M A (call f (first ++ vs)) Q E s₁) E s) : wpC M A (callWith pos f first args []) Q E s := by
  unfold callWith
  refine wpC_bind (wpC_holding (evalArgsC hplain (wpC_mono h (fun vs s₁ h₁ => wpC_standAt ?_) fun _ _ x => x)))
  obtain ⟨k, hk', L⟩ := hk _ h₁.1
  simp only [hplain, List.any_nil, Bool.or_false]
  refine wpC_bindA (L.here ?_)
  have tail : ∀ {t : Sem Value}, wpC M A t Q E s₁ → wpC M A (t >>= fun r => holding [r] point >>= fun _ => pure r) Q E s₁ :=
    fun ht => wpC_bind (wpC_mono ht (fun r s₂ hr => wpC_any (wpAny_bind (wpAny_holding (wpAny_point (wpAny_pure hr))))) fun _ _ x => x)
  have marked (mk : Value) : wpC M A (callMarked mk f (first ++ vs) []) Q E s₁ := by unfold callMarked; exact wpC_keep h₁.2
  rcases hk' with rfl | rfl | rfl <;> dsimp only <;> first | exact tail h₁.2 | (split <;> first | exact tail h₁.2 | exact tail (marked _))
theorem callNameC {x : Str} {np pos : Pos} {args : List Expr} {Q : Value → Shared → Prop}
    (h : wpAny M A (eval (.Name x np) env) (fun f s₁ => wpC M A (callWith pos f [] (backTo pos (starEach args env)) []) Q E s₁) E s) : wpC M A (eval (.Call (.Name x np) args [] pos) env) Q E s := by
  show wpC M A (do callWith pos (← eval (.Name x np) env) [] (backTo pos (starEach args env)) (backToKw pos (keywordEach [] env))) Q E s
  exact wpC_bindA h
theorem methodC {o : Expr} {name : Str} {apos pos : Pos} {args : List Expr} {pl : Sem Bool} {Q : Value → Shared → Prop}
    (h : wpAny M A (eval o env) (fun ov s₁ => wpAny M A (getMethod ov name pl) (fun fx s₂ => wpC M A (callWith pos fx.1 fx.2 (backTo pos (starEach args env)) []) Q E s₂) E s₁) E s)
    (he : eval (.Call (.Attribute o name apos) args [] pos) env = (do
      let ov ← eval o env
      standAt apos.atName
      let (f, first) ← holding [ov] (getMethod ov name pl)
      callWith pos f first (backTo pos (starEach args env)) []) := by rfl) :
    wpC M A (eval (.Call (.Attribute o name apos) args [] pos) env) Q E s := by
  rw [he]
  exact wpC_bindA (wpAny_mono h (fun ov s₁ h₁ => wpC_standAt (wpC_bindA (wpAny_holding h₁))) fun _ _ x => x)
end

section
variable {prog : Program} {w : World} {A : Around} {E : Value → Shared → Prop} {R : Result → Shared → Prop} {s : Shared}
theorem codeC_func {body env}
    (h : wpC (model prog w) (A.deeper env) (execs body env) (fun f s' => R (.ok (.ret (match f with | .ret v => v | _ => .none))) s')
      (fun e s' => wpAny (model prog w) (A.deeper env) (leaving env e) (fun _ s'' => R (.error e) s'') (fun e' s'' => R (.error e') s'') s') s) : codeC (model prog w) A (.func body env) R s := by
  refine codeC_of_tree rfl ?_
  show wpC _ (A.deeper env) (do point; match ← (execs body env).onRaise (leaving env) with | .ret v => ret v | _ => ret .none) _ _ s
  refine wpC_bindA (wpAny_point (wpC_bind (wpC_onRaise (wpC_mono h (fun f s' h' => ?_) fun _ _ h' => h'))))
  cases f <;> exact wpC_pure h'
end
section
noncomputable def P_codeC_call_function (prog : Program) (w : World) (A : Around) (R : Result → Shared → Prop) (s : Shared) (a : Addr) (args : Args) (o : Obj) (fd : FuncData) (body : List Stmt) : Prop := ∀ (hroom : A.depth < recursionLimit) (ho : s.heap.get? a = some o) (hd' : o.data = .func fd) (hco : fd.scope.isCoroutine = false) (hgen : fd.scope.isGenerator = false) (hbody : fd.body = .stmts body) (hcd : s.heap.CodeRec fd.code fd.qualname) (h : wpAny (model prog w) A.in1 (bindArgs fd args) (fun binds s₁ =>
      wpAny (model prog w) A.in1 (newFunctionEnv fd.scope fd.globals fd.closure binds (fd.qualname ++ ".<locals>.") (some a) fd.code none fd.builtins)
        (fun env s₂ => s₂.heap.NoLimit ∧ codeC (model prog w) A (.func body env) R s₂) (fun e s' => R (.error e) s') s₁) (fun e s' => R (.error e) s') s),
    codeC (model prog w) A (.call (.ref a) args) R s
noncomputable def c_codeC_call_function := @Classical.epsilon ((Program) × (World) × (Around) × (Result → Shared → Prop) × (Shared) × (Addr) × (Args) × (Obj) × (FuncData) × (List Stmt)) ⟨(default, wDef, callerA, fun _ _ => True, (PySem.start default).1, 0, default, default, default, [])⟩ fun v => ¬ P_codeC_call_function v.1 v.2.1 v.2.2.1 v.2.2.2.1 v.2.2.2.2.1 v.2.2.2.2.2.1 v.2.2.2.2.2.2.1 v.2.2.2.2.2.2.2.1 v.2.2.2.2.2.2.2.2.1 v.2.2.2.2.2.2.2.2.2
namespace K_codeC_call_function
@[irreducible] noncomputable def prog : Program := c_codeC_call_function.1
@[irreducible] noncomputable def w : World := c_codeC_call_function.2.1
@[irreducible] noncomputable def A : Around := c_codeC_call_function.2.2.1
@[irreducible] noncomputable def R : Result → Shared → Prop := c_codeC_call_function.2.2.2.1
@[irreducible] noncomputable def s : Shared := c_codeC_call_function.2.2.2.2.1
@[irreducible] noncomputable def a : Nat := c_codeC_call_function.2.2.2.2.2.1
@[irreducible] noncomputable def args : Args := c_codeC_call_function.2.2.2.2.2.2.1
@[irreducible] noncomputable def o : Obj := c_codeC_call_function.2.2.2.2.2.2.2.1
@[irreducible] noncomputable def fd : FuncData := c_codeC_call_function.2.2.2.2.2.2.2.2.1
@[irreducible] noncomputable def body : List Stmt := c_codeC_call_function.2.2.2.2.2.2.2.2.2
theorem core : P_codeC_call_function prog w A R s a args o fd body := by
  unfold P_codeC_call_function
  intro hroom ho hd' hco hgen hbody hcd h
  refine codeC_of_tree rfl (wpC_any ?_)
  show wpAny _ A.in1 (callAny (.ref a) args) _ _ s
  simp only [callAny]
  refine wpAny_bind (wpAny_load ho ?_)
  obtain ⟨c, oc, vs, tq, hc, hoc, hdc, hq⟩ := hcd
  simp only [hd', callFunction, hco, hgen, hbody, hc]
  rw [hc] at h
  refine wpAny_bind (m := field (.ref c) 1) (wpAny_field hoc hdc hq (wpAny_bind (wpAny_pure ?_)))
  exact wpAny_bind (wpAny_mono h (fun binds s₁ h₁ => wpAny_bind (wpAny_mono h₁ (fun env s₂ h₂ => wpAny_bind (wpAny_enterFrame h₂.1 hroom (wpAny_pure (And.intro rfl h₂.2)))) fun _ _ h' => h')) fun _ _ h' => h')
end K_codeC_call_function
theorem codeC_call_function {prog : Program} {w : World} {A : Around} {R : Result → Shared → Prop} {s : Shared} {a : Addr} {args : Args} {o : Obj} {fd : FuncData} {body : List Stmt} (hroom : A.depth < recursionLimit) (ho : s.heap.get? a = some o) (hd' : o.data = .func fd) (hco : fd.scope.isCoroutine = false) (hgen : fd.scope.isGenerator = false) (hbody : fd.body = .stmts body) (hcd : s.heap.CodeRec fd.code fd.qualname) (h : wpAny (model prog w) A.in1 (bindArgs fd args) (fun binds s₁ =>
      wpAny (model prog w) A.in1 (newFunctionEnv fd.scope fd.globals fd.closure binds (fd.qualname ++ ".<locals>.") (some a) fd.code none fd.builtins)
        (fun env s₂ => s₂.heap.NoLimit ∧ codeC (model prog w) A (.func body env) R s₂) (fun e s' => R (.error e) s') s₁) (fun e s' => R (.error e) s') s) :
    codeC (model prog w) A (.call (.ref a) args) R s :=
  eps_all (P := fun v => P_codeC_call_function v.1 v.2.1 v.2.2.1 v.2.2.2.1 v.2.2.2.2.1 v.2.2.2.2.2.1 v.2.2.2.2.2.2.1 v.2.2.2.2.2.2.2.1 v.2.2.2.2.2.2.2.2.1 v.2.2.2.2.2.2.2.2.2) (by with_unfolding_all exact K_codeC_call_function.core) (prog, w, A, R, s, a, args, o, fd, body) hroom ho hd' hco hgen hbody hcd h
end
/-- the continuations get names -/
theorem foldC {α : Type} {M : Model} {A : Around} {t : Sem α} {Q : α → Shared → Prop} {E : Value → Shared → Prop} {s : Shared} (h : let q := Q; let e := E; wpC M A t q e s) : wpC M A t Q E s := h
theorem foldA {α : Type} {M : Model} {A : Around} {t : Sem α} {Q : α → Shared → Prop} {E : Value → Shared → Prop} {s : Shared} (h : let q := Q; let e := E; wpAny M A t q e s) : wpAny M A t Q E s := h
end Mine
end TextC2
section TextC3
open PySem PySem.W PyProof.Rows PySem.Calls PySem.Spec
open PySem.Sem (wp)
set_option Elab.async false
set_option maxRecDepth 100000
set_option maxHeartbeats 1000000
namespace Mine
section
variable {w : World} {p : Program} {loose : List Str} {mean : ExcName → Option Value} {mg mb : Str → Option Value} {A A₀ : Around} {env env' : Env} {outer : List Env} {base h₀ : Heap} {L : Addr} {m : Str → Option Value} {news : List (Addr × Obj)} {s : Shared}
  {R : Result → Shared → Prop} {prog : Program} {H : Heap} {ms : List Addr} {cls : Value}

theorem enterC_plain {name qual : Str} {params : Arguments} {body : List Stmt} {scope : Scope} {dV kV doc pm cdv ct oc : Value} {an od : Option Addr} {osl : Array (Option Value)} {f : Addr} {args : Args} {binds : List (Str × Value)}
    (C : Cx w p loose mean mg mb A A₀ env outer base h₀ L) (F : Fr h₀ L s.heap m) (N : News h₀ L s.heap news)
    (ho : (hd0.heap_1 w.params).lookup f = some ⟨oc, od, .func (fnOf name qual params body scope dV kV doc pm an cdv ct), osl⟩) (hcd : codeIn (hd0.heap_1 w.params) cdv qual = true) (hroom : A.depth < recursionLimit)
    (hbind : BindsTo s (fnOf name qual params body scope dV kV doc pm an cdv ct) args binds) (hloc : ∀ y ∈ binds, scope.names.lookup y.1 = some .local)
    (h : ∀ g L' h₁, Cx w p loose mean mg mb (A.deeper (envOf qual scope L' f cdv)) A (envOf qual scope L' f cdv) (env :: outer) base g L' → Fr g L' h₁ (fun y => binds.reverse.lookup y) → News g L' h₁ news → GSub s.heap g (news.map (·.1)) → (∀ p ∈ news, p.1 < L') →
      wpC (model prog w) (A.deeper (envOf qual scope L' f cdv)) (execs body (envOf qual scope L' f cdv))
        (fun fl s' => LeaveK h₀ L m g R (match fl with | .ret v => v | _ => .none) s')
        (fun e s' => wpAny (model prog w) (A.deeper (envOf qual scope L' f cdv)) (leaving (envOf qual scope L' f cdv) e) (fun _ s'' => R (.error e) s'') (fun e' s'' => R (.error e') s'') s')
        { s with heap := h₁, toks := s.toks + binds.length })
    (hco : scope.isCoroutine = false) (hgen : scope.isGenerator = false) (hk : scope.kind = .function)
    (hcell : ∀ x ∈ scope.names, x.2 ≠ .cell) : codeC (model prog w) A (.call (.ref f) args) R s := by
  obtain ⟨B, X₀, T, b0, hA, hf, hke, hh, hG⟩ := C
  obtain ⟨FG, BG, st, lv⟩ := groundX (R := R) B F N hA hf hke
  refine codeC_call_function hroom ((X₀.keeps F.keep) _ _ ho) rfl hco hgen rfl (codeRec_of (X₀.keeps F.keep) hcd) (hbind _ _ _ _ ?_)
  refine wpAny_newFunctionEnv hcell hloc (fun h₁ hns hsb => ⟨(T.nolimit.keeps F.keep).fresh _ hsb, codeC_func ?_⟩) hk
  have hk₁ : ∀ b o, s.heap.get? b = some o → h₁.get? b = some o := fun b o e => hsb.extBut b o (Nat.ne_of_lt (Heap.lt_size e)) (Heap.get?_push_of_some _ e)
  exact wpC_mono (h _ s.heap.objs.size h₁ ⟨BG, X₀.keeps st, T.keeps st, st _ _ b0, Around.frames_deeper hA, rfl, hk, hh, guards_deeper hG⟩ ⟨hns, fun b o e => hk₁ b o (of_hideAll _ e), Nat.le_of_eq (hideAll_size _ _)⟩
    (fun p hp => ⟨hk₁ _ _ (N p hp).1, Nat.ne_of_lt (Heap.lt_size (N p hp).1), hideAll_none _ (List.mem_map_of_mem hp)⟩) (fun b o e n => hideAll_get _ e n) (fun p hp => Heap.lt_size (N p hp).1)) (fun fl s' hl => lv _ _ hl) fun _ _ y => y

theorem enterC_cells {name qual : Str} {params : Arguments} {body : List Stmt} {scope : Scope} {dV kV doc pm cdv ct oc : Value} {an od : Option Addr} {osl : Array (Option Value)} {f : Addr} {args : Args} {binds : List (Str × Value)}
    (C : Cx w p loose mean mg mb A A₀ env outer base h₀ L) (F : Fr h₀ L s.heap m) (N : News h₀ L s.heap news)
    (ho : (hd0.heap_1 w.params).lookup f = some ⟨oc, od, .func (fnOf name qual params body scope dV kV doc pm an cdv ct), osl⟩) (hcd : codeIn (hd0.heap_1 w.params) cdv qual = true) (hroom : A.depth < recursionLimit)
    (hbind : BindsTo s (fnOf name qual params body scope dV kV doc pm an cdv ct) args binds) (hkind : (binds.all fun y => scope.names.lookup y.1 == some .local || scope.names.lookup y.1 == some .cell) = true)
    (hnd : ((cellsFrom 0 scope.names []).map (·.1)).Nodup)
    (h : ∀ g L' h₁ tk cells, Cx w p loose mean mg mb (A.deeper (envOfC qual scope L' f cdv)) A (envOfC qual scope L' f cdv) (env :: outer) base g L' → Fr g L' h₁ (bindL (envOfC qual scope L' f cdv).kindOf binds fun _ => none) → News g L' h₁ (cells ++ news) →
      CellsAre (bindC (envOfC qual scope L' f cdv).kindOf binds fun _ => none) (cellsFrom (L' + 1) scope.names []) cells → GSub s.heap g (news.map (·.1)) → (∀ p ∈ news, p.1 < L') →
      wpC (model prog w) (A.deeper (envOfC qual scope L' f cdv)) (execs body (envOfC qual scope L' f cdv))
        (fun fl s' => LeaveK h₀ L m g R (match fl with | .ret v => v | _ => .none) s')
        (fun e s' => wpAny (model prog w) (A.deeper (envOfC qual scope L' f cdv)) (leaving (envOfC qual scope L' f cdv) e) (fun _ s'' => R (.error e) s'') (fun e' s'' => R (.error e') s'') s')
        { s with heap := h₁, toks := tk })
    (hco : scope.isCoroutine = false) (hgen : scope.isGenerator = false) (hk : scope.kind = .function) : codeC (model prog w) A (.call (.ref f) args) R s := by
  obtain ⟨B, X₀, T, b0, hA, hf, hke, hh, hG⟩ := C
  obtain ⟨FG, BG, st, lv⟩ := groundX (R := R) B F N hA hf hke
  refine codeC_call_function hroom ((X₀.keeps F.keep) _ _ ho) rfl hco hgen rfl (codeRec_of (X₀.keeps F.keep) hcd) (hbind _ _ _ _ ?_)
  refine wpAny_newFunctionEnv_cells hk (kindsX hkind _) fun env' he s' x => ?_
  subst he
  refine ⟨(T.nolimit.keeps F.keep).keeps x.toInCall.keep, codeC_func ?_⟩
  obtain ⟨h₁, tk, rfl, _⟩ := x.done
  have hk₁ := x.toInCall.keep
  obtain ⟨cells, NC, Y⟩ := Cl.news (h₀ := s.heap) (Nat.le_refl _) fun n c hm => ⟨x.cell n c (lookup_of_mem_nodup (cellsFrom_names scope.names 0 (s.heap.objs.size + 1) [] [] rfl ▸ hnd) hm), x.above n c hm⟩
  have hN : News (hideAll s.heap (news.map (·.1))) s.heap.objs.size h₁ (cells ++ news) := fun q hq => by
    rcases List.mem_append.mp hq with hq | hq
    · refine ⟨(NC q hq).1, (NC q hq).2.1, ?_⟩
      cases z : (hideAll s.heap (news.map (·.1))).get? q.1 with
      | none => rfl
      | some o => have := of_hideAll _ z; rw [(NC q hq).2.2] at this; cases this
    · exact ⟨hk₁ _ _ (N q hq).1, Nat.ne_of_lt (Heap.lt_size (N q hq).1), hideAll_none _ (List.mem_map_of_mem hq)⟩
  exact wpC_mono (h _ s.heap.objs.size h₁ tk cells ⟨BG, X₀.keeps st, T.keeps st, st _ _ b0, Around.frames_deeper hA, rfl, hk, hh, guards_deeper hG⟩ ⟨x.toInCall.ns, fun b o e => hk₁ b o (of_hideAll _ e), Nat.le_of_eq (hideAll_size _ _)⟩ hN Y (fun b o e n => hideAll_get _ e n) (fun q hq => Heap.lt_size (N q hq).1)) (fun fl s' hl => lv _ _ hl) fun _ _ y => y
end
section
variable {prog : Program} {w : World} {A : Around} {K : Frag} {C : Addr} {R : Result → Shared → Prop} {h : Heap} {g : Array GenState} {d : Drawn} {t : Nat} {os : OsState}
theorem codeC_call_builtin_at {id : String} {args : Args} {b : Builtin} {s : Shared} (hcl : cleanCode (.builtin id args) = true) (hq : (Code.builtin id args).quiet = true) (hb : entryFor table id = some b)
    (h : wpAny (model prog w) A.in1 (checkBuiltinCall id args) (fun _ s₁ => wpC (model prog w) (A.under (.builtin id args)) (b args)
      (fun fin s' => match fin with | .done f => R (.ok f) s' | .again c' => c'.quiet = true ∧ codeC (model prog w) A c' R s') (fun e s' => R (.error e) s') s₁)
      (fun e s' => R (.error e) s') s) : codeC (model prog w) A (.call (.builtin id) args) R s := by
  refine codeC_of_tree rfl (wpC_any ?_)
  show wpAny _ A.in1 (do checkBuiltinCall id args; again (.builtin id args)) _ _ s
  refine wpAny_bind (wpAny_mono h (fun _ s₁ h₁ => wpAny_pure (And.intro hq (codeC_of_tree hcl ?_))) fun _ _ h' => h')
  show wpC _ _ (match entryFor table id with | some b => b args | none => unsupported ((withoutEnding? id "#data").getD id)) _ _ s₁
  rw [hb]; exact h₁
theorem codeC_builtin {id : String} {args : Args} {b : Builtin} {s : Shared} (hcl : cleanCode (.builtin id args) = true) (hb : entryFor table id = some b)
    (h : wpC (model prog w) (A.under (.builtin id args)) (b args)
      (fun fin s' => match fin with | .done f => R (.ok f) s' | .again c' => c'.quiet = true ∧ codeC (model prog w) A c' R s') (fun e s' => R (.error e) s') s) : codeC (model prog w) A (.builtin id args) R s := by
  refine codeC_of_tree hcl ?_
  show wpC _ _ (match entryFor table id with | some b => b args | none => unsupported ((withoutEnding? id "#data").getD id)) _ _ s
  rw [hb]; exact h
end
section
noncomputable def P_makeC_core (prog : Program) (w : World) (A : Around) (C : Addr) (R : Result → Shared → Prop) (h : Heap) (g : Array GenState) (d : Drawn) (t : Nat) (os : OsState) (rest : List Value) (kw : List (Str × Value)) (init : Value) : Prop := ∀ (Y : Makes (model prog w) h C) (hi : Looks (model prog w) h (typeLookup (.ref C) "__init__") (some init)) (hb : ∀ self, Looks (model prog w) h (bindSpecial init self) (init, [self])) (hne : (some init != some (Value.builtin "object.__init__")) = true ∨ (rest = [] ∧ kw = [])) (hq : codeC (model prog w) (A.under (.builtin "type.__call__" ⟨.ref C :: rest, kw⟩)) (.call init ⟨.ref (h.objs.size + 1) :: rest, kw⟩) (InitBack (h.objs.size + 1) R) ⟨(h.push emptyDict).push (instObj C h.objs.size), g, d, t, os⟩),
    codeC (model prog w) A (.call (.ref C) ⟨rest, kw⟩) R ⟨h, g, d, t, os⟩
noncomputable def c_makeC_core := @Classical.epsilon ((Program) × (World) × (Around) × (Addr) × (Result → Shared → Prop) × (Heap) × (Array GenState) × (Drawn) × (Nat) × (OsState) × (List Value) × (List (Str × Value)) × (Value)) ⟨(default, wDef, callerA, 0, fun _ _ => True, default, default, (PySem.start default).1.drawn, 0, default, [], [], default)⟩ fun v => ¬ P_makeC_core v.1 v.2.1 v.2.2.1 v.2.2.2.1 v.2.2.2.2.1 v.2.2.2.2.2.1 v.2.2.2.2.2.2.1 v.2.2.2.2.2.2.2.1 v.2.2.2.2.2.2.2.2.1 v.2.2.2.2.2.2.2.2.2.1 v.2.2.2.2.2.2.2.2.2.2.1 v.2.2.2.2.2.2.2.2.2.2.2.1 v.2.2.2.2.2.2.2.2.2.2.2.2
namespace K_makeC_core
@[irreducible] noncomputable def prog : Program := c_makeC_core.1
@[irreducible] noncomputable def w : World := c_makeC_core.2.1
@[irreducible] noncomputable def A : Around := c_makeC_core.2.2.1
@[irreducible] noncomputable def C : Nat := c_makeC_core.2.2.2.1
@[irreducible] noncomputable def R : Result → Shared → Prop := c_makeC_core.2.2.2.2.1
@[irreducible] noncomputable def h : Heap := c_makeC_core.2.2.2.2.2.1
@[irreducible] noncomputable def g : Array GenState := c_makeC_core.2.2.2.2.2.2.1
@[irreducible] noncomputable def d : Drawn := c_makeC_core.2.2.2.2.2.2.2.1
@[irreducible] noncomputable def t : Nat := c_makeC_core.2.2.2.2.2.2.2.2.1
@[irreducible] noncomputable def os : OsState := c_makeC_core.2.2.2.2.2.2.2.2.2.1
@[irreducible] noncomputable def rest : List Value := c_makeC_core.2.2.2.2.2.2.2.2.2.2.1
@[irreducible] noncomputable def kw : List (Str × Value) := c_makeC_core.2.2.2.2.2.2.2.2.2.2.2.1
@[irreducible] noncomputable def init : Value := c_makeC_core.2.2.2.2.2.2.2.2.2.2.2.2
theorem core : P_makeC_core prog w A C R h g d t os rest kw init := by
  unfold P_makeC_core
  intro Y hi hb hne hq
  have Y' := Y
  obtain ⟨⟨oc, od, cd, sl, hC, e1, e2, e4⟩, made, base, self, top, call, typ⟩ := Y
  refine codeC_of_tree rfl (wpC_any ?_)
  show wpAny _ _ (callAny (.ref C) _) _ _ _
  refine nd_load hC ?_
  show wpAny _ _ (callAny.viaDunder (.ref C) _) _ _ _
  unfold callAny.viaDunder
  refine wpAny_bind (call.at ?_)
  dsimp only
  rw [tc_bind]
  refine wpAny_bind (wpAny_pure (wpAny_bind (wpAny_pure ?_)))
  refine wpAny_pure (a := Fin.again (.call (.builtin "type.__call__") ⟨.ref C :: rest, kw⟩)) (And.intro rfl ?_)
  refine codeC_call_builtin_at rfl (Code.quiet_builtin _ (by decide +kernel)) entry_typeCall (check_slot tc_kind tc_split typ (tc_args _ _ _) ?_)
  unfold Builtin.«type.__call__»
  have hm : Looks (model prog w) h (mroOf (.ref C)) cd.mro := ((Looks.ld (part := none) hC).andThen .now).andThen .now
  show wpC _ _ (mroOf (.ref C) >>= _) _ _ _
  refine wpC_bindA (hm.at ?_)
  rw [e4]
  show wpC _ _ (Bind.madeBy (.ref C) >>= _) _ _ _
  refine wpC_bindA (made.at ?_)
  show wpC _ _ (holding [Value.builtin "object.__new__"] (PySem.call (Value.builtin "object.__new__") (.ref C :: rest) kw) >>= _) _ _ _
  refine wpC_bindA (wpAny_holding (wpAny_call (new_K Y' hi hne ?_)))
  have k : ∀ b o, h.get? b = some o → ((h.push emptyDict).push (instObj C h.objs.size)).get? b = some o := fun b o e => Heap.get?_push_of_some _ (Heap.get?_push_of_some _ e)
  have hx : ((h.push emptyDict).push (instObj C h.objs.size)).get? (h.objs.size + 1) = some (instObj C h.objs.size) := by heap_get
  have t1 : Looks (model prog w) ((h.push emptyDict).push (instObj C h.objs.size)) (typeOf (.ref (h.objs.size + 1))) (.ref C) := (Looks.ld hx).andThen .now
  have s1 : Looks (model prog w) ((h.push emptyDict).push (instObj C h.objs.size)) (isInstance (.ref (h.objs.size + 1)) (.ref C)) true := t1.andThen (self.keeps k)
  have i1 : Looks (model prog w) ((h.push emptyDict).push (instObj C h.objs.size)) (specialOf (.ref (h.objs.size + 1)) "__init__") (some init) := t1.andThen (hi.keeps k)
  have b1 := (hb (.ref (h.objs.size + 1))).keeps k
  show wpC _ _ (isInstance (.ref (h.objs.size + 1)) (.ref C) >>= _) _ _ _
  refine wpC_bindA (s1.at ?_)
  show wpC _ _ (holding [.ref (h.objs.size + 1)] (callSpecial? (.ref (h.objs.size + 1)) "__init__" rest kw) >>= _) _ _ _
  refine wpC_bind (wpC_holding ?_)
  unfold callSpecial?
  show wpC _ _ (specialOf (.ref (h.objs.size + 1)) "__init__" >>= _) _ _ _
  refine wpC_bindA (i1.at ?_)
  refine wpC_holding ?_
  show wpC _ _ (bindSpecial init (.ref (h.objs.size + 1)) >>= _) _ _ _
  refine wpC_bindA (b1.at ?_)
  show wpC _ _ (PySem.call init ([.ref (h.objs.size + 1)] ++ rest) kw >>= _) _ _ _
  refine wpC_bind (wpC_call (codeC_mono hq fun r s' z => ?_))
  rcases r with e | (v | _ | _ | _) <;> first | exact z | exact z.elim | skip
  obtain ⟨rfl, z⟩ := z
  exact wpC_pure (wpC_pure z)
end K_makeC_core
theorem makeC_core {prog : Program} {w : World} {A : Around} {C : Addr} {R : Result → Shared → Prop} {h : Heap} {g : Array GenState} {d : Drawn} {t : Nat} {os : OsState} {rest : List Value} {kw : List (Str × Value)} {init : Value} (Y : Makes (model prog w) h C) (hi : Looks (model prog w) h (typeLookup (.ref C) "__init__") (some init)) (hb : ∀ self, Looks (model prog w) h (bindSpecial init self) (init, [self])) (hne : (some init != some (Value.builtin "object.__init__")) = true ∨ (rest = [] ∧ kw = [])) (hq : codeC (model prog w) (A.under (.builtin "type.__call__" ⟨.ref C :: rest, kw⟩)) (.call init ⟨.ref (h.objs.size + 1) :: rest, kw⟩) (InitBack (h.objs.size + 1) R) ⟨(h.push emptyDict).push (instObj C h.objs.size), g, d, t, os⟩) :
    codeC (model prog w) A (.call (.ref C) ⟨rest, kw⟩) R ⟨h, g, d, t, os⟩ :=
  eps_all (P := fun v => P_makeC_core v.1 v.2.1 v.2.2.1 v.2.2.2.1 v.2.2.2.2.1 v.2.2.2.2.2.1 v.2.2.2.2.2.2.1 v.2.2.2.2.2.2.2.1 v.2.2.2.2.2.2.2.2.1 v.2.2.2.2.2.2.2.2.2.1 v.2.2.2.2.2.2.2.2.2.2.1 v.2.2.2.2.2.2.2.2.2.2.2.1 v.2.2.2.2.2.2.2.2.2.2.2.2) (by with_unfolding_all exact K_makeC_core.core) (prog, w, A, C, R, h, g, d, t, os, rest, kw, init) Y hi hb hne hq
end
section
variable {prog : Program} {w : World} {A : Around} {K : Frag} {C x : Addr} {s : Shared} {h₀ : Heap} {L : Addr} {m : Str → Option Value} {news : List (Addr × Obj)} {R : Result → Shared → Prop}
theorem makeC_K {rest : List Value} {kw : List (Str × Value)} {fI : Addr} (F : Fr h₀ L s.heap m) (N : News h₀ L s.heap news) (X : K.In s.heap) (hm : makesIn K C = true)
    (hi : findIn K (.ref C) "__init__" = some (some (.ref fI))) (hf : typeIn K (.ref fI) = some (.type "function"))
    (h : ∀ x dx h', Fr h₀ L h' m → News h₀ L h' ((x, instObj C dx) :: (dx, dictOf [] 0) :: news) → (∀ p ∈ news, p.1 < dx) → dx < x →
      codeC (model prog w) (A.under (.builtin "type.__call__" ⟨.ref C :: rest, kw⟩)) (.call (.ref fI) ⟨.ref x :: rest, kw⟩) (InitBack x R) { s with heap := h' }) :
    codeC (model prog w) A (.call (.ref C) ⟨rest, kw⟩) R s := by
  obtain ⟨hh, g, d, t, os⟩ := s
  refine makeC_core (makes_of X hm) (looks_findIn X hi) (fun self => bind_fn X self hf) (.inl rfl) (h _ hh.objs.size _ ((F.push _).push _) ?_ (fun p hp => Heap.lt_size (N p hp).1) (Nat.lt_succ_self _))
  have := (N.push F emptyDict).push (F.push _) (instObj C hh.objs.size)
  rwa [Heap.size_push] at this
end
end Mine
end TextC3
section TextC4
open PySem PySem.W PyProof.Rows PySem.Calls PySem.Spec
open PySem.Sem (wp)
set_option Elab.async false
set_option maxRecDepth 100000
set_option maxHeartbeats 1000000
namespace Mine
namespace BA
theorem mro : mroOf (.type "bytearray") = pure [.type "bytearray", .type "object"] := by rw [mroOf_type]; kernel_rfl
theorem look_new : typeLookup (.type "bytearray") "__new__" = pure (some (.builtin "bytearray.__new__")) := by rw [typeLookup_type, builtinLookup_eq_fast]; kernel_rfl
theorem look_release : typeLookup (.type "bytearray") "__release_buffer__" = pure (some (.builtin "bytearray.__release_buffer__")) := by rw [typeLookup_type, builtinLookup_eq_fast]; kernel_rfl
theorem look_buffer : typeLookup (.type "bytearray") "__buffer__" = pure (some (.builtin "bytearray.__buffer__")) := by rw [typeLookup_type, builtinLookup_eq_fast]; kernel_rfl
theorem look_extend : typeLookup (.type "bytearray") "extend" = pure (some (.builtin "bytearray.extend")) := by rw [typeLookup_type, builtinLookup_eq_fast]; kernel_rfl
theorem sub : isSubtype (.type "bytearray") (.type "bytearray") = pure true := by rw [isSubtype_type]; kernel_rfl
theorem slot_init : Slot "bytearray" "__init__" "bytearray.__init__" :=
  .of (owner := "bytearray") (n := "__init__") (by rw [typeLookup_type, builtinLookup_eq_fast]; kernel_rfl) (by decide +kernel) (by decide +kernel) (by decide +kernel)
    (by first | exact .inl (by decide +kernel) | exact .inr (by decide +kernel)) (by rw [isSubtype_type]; kernel_rfl)
theorem called : TypeCalled "bytearray" "bytearray.__new__" "bytearray.__init__" :=
  ⟨by decide +kernel, by decide +kernel, ⟨_, _, mro⟩, madeBy_type mro look_new (by decide +kernel), by decide +kernel, sub, slot_init⟩
theorem typeCall : checkTypeCall "bytearray" ⟨[], []⟩ = pure () := by kernel_rfl
theorem newCall : checkBuiltinCall "bytearray.__new__" ⟨[.type "bytearray"], []⟩ = pure () := by kernel_rfl
theorem entry_new : entryFor table "bytearray.__new__" = some Builtin.«list.__new__» :=
  entryFor_alias (id' := "list.__new__") (by kernel_rfl) (by first | rfl | decide +kernel) (by decide +kernel) (by kernel_rfl)
theorem entry_init : entryFor table "bytearray.__init__" = some Builtin.«bytearray.__init__» := entryFor_of_tree (by kernel_rfl)
theorem entry_extend : entryFor table "bytearray.extend" = some Builtin.«bytearray.extend» := entryFor_of_tree (by kernel_rfl)
theorem plain_new : plainId "bytearray.__new__" = true := by decide +kernel
theorem plain_extend : plainId "bytearray.extend" = true := by decide +kernel
theorem bind0 : Builtin.Bytes.bindOptional "bytearray.__init__" "bytearray" ["source", "encoding", "errors"] [] [] = pure [none, none, none] := by kernel_rfl
theorem init_args (v : Value) : argsOk "bytearray.__init__" ⟨[v], []⟩ := by unfold argsOk; kernel_rfl
set_option maxRecDepth 1000000 in
set_option maxHeartbeats 4000000 in
theorem owner_new : ("bytearray.__new__".splitOn ".__new__").headD "" = "bytearray" := by simp +decide [String.splitOn, String.splitOnAux]
theorem clean_init (args : Args) : cleanCode (.builtin "bytearray.__init__" args) = true := by
  show (!Builtin.Bytes.decodersThatHold.contains "bytearray.__init__") = true
  decide +kernel
theorem clean_extend (args : Args) : cleanCode (.builtin "bytearray.extend" args) = true := by
  show (!Builtin.Bytes.decodersThatHold.contains "bytearray.extend") = true
  decide +kernel
theorem clean_typeCall (args : Args) : cleanCode (.builtin "type.__call__" args) = true := by
  show (!Builtin.Bytes.decodersThatHold.contains "type.__call__") = true
  decide +kernel
/-- a bytearray -/
noncomputable abbrev ba (arr : Array UInt8) : Obj := { cls := .type "bytearray", data := .bytearray arr }
section
variable {M : Model} {A : Around} {E : Value → Shared → Prop} {s : Shared} {b : Addr} {arr : Array UInt8}
theorem own_release {Q : Bool → Shared → Prop} (hT : s.TypeIs (.ref b) "bytearray") (h : Q false s) : wpAny M A (Builtin.Bytes.ownRelease (.ref b)) Q E s := by
  have key : ∀ (x : String) (Q' : Bool → Shared → Prop), x = "bytearray" → Q' true s → wpAny M A (isInstance (.ref b) (.type x)) Q' E s := fun x Q' hx q => by rw [hx]; exact wpAny_isInstance hT sub q
  unfold Builtin.Bytes.ownRelease Builtin.Bytes.slotIsOwn
  refine wpAny_bind (wpAny_bind (wpAny_specialOf hT look_release ?_))
  dsimp only
  split
  · rename_i hx
    exact absurd hx (by decide +kernel)
  · exact key _ _ (by decide +kernel) (wpAny_pure h)
theorem payload {Q : Array UInt8 → Shared → Prop} {n : Nat} {d : Option Addr} {c : Value} {sl} (ho : s.heap.get? b = some ⟨c, d, .bytearray arr n, sl⟩) (h : Q arr s) : wpAny M A (Builtin.Bytes.payload (.ref b)) Q E s := by
  unfold Builtin.Bytes.payload Builtin.Bytes.payload?
  exact wpAny_bind (wpAny_bind (wpAny_load ho (wpAny_pure (wpAny_pure h))))
theorem locked {Q : Bool → Shared → Prop} (hg : A.guards = some []) (ho : s.heap.get? b = some (ba arr)) (h : Q false s) :
    wpC M A (Builtin.Bytes.exported (.ref b) <||> (do return (← Builtin.Bytes.exportsOf (.ref b)) > 0)) Q E s := by
  refine wpC_bind (wpC_exported hg ?_)
  show wpC M A (Builtin.Bytes.exportsOf (.ref b) >>= fun n => pure (decide (n > 0))) Q E s
  refine wpC_any (wpAny_bind ?_)
  unfold Builtin.Bytes.exportsOf
  refine wpAny_bind (wpAny_load ho ?_)
  exact wpAny_pure (wpAny_pure h)
theorem write {f : Array UInt8 → Array UInt8} {Q : Unit → Shared → Prop} (ho : s.heap.get? b = some (ba arr)) (hz : (f arr).size ≤ 16777216)
    (h : ∀ h', h' = s.heap.update b (Obj.mapBytearray f) → h'.get? b = some (ba (f arr)) → Q () { s with heap := h' }) : wpAny M A (Builtin.Bytes.write (.ref b) f) Q E s := by
  show wpAny M A (updateBytearray b f) _ _ _
  unfold updateBytearray
  refine wpAny_bind (wpAny_load ho ?_)
  show wpAny M A (update b (Obj.mapBytearray f) >>= fun _ => lookBehind b) _ _ _
  refine wpAny_bind (wpAny_update ho ?_)
  have hS : (s.heap.update b (Obj.mapBytearray f)).get? b = some (ba (f arr)) := Heap.get?_update_self (Obj.mapBytearray f) ho rfl
  refine wpAny_lookBehind hS ?_ (h _ rfl hS)
  show (if (f arr).size > sizeLine then some "bytearray:memory" else none) = none
  rw [if_neg]
  rw [sizeLine_eq]; omega
end
section
variable {prog : Program} {w : World} {A : Around} {E : Value → Shared → Prop} {s : Shared} {b : Addr} {arr : Array UInt8}
theorem code_new {Q₁ : Value → Shared → Prop} (h : Q₁ (.ref s.heap.objs.size) { s with heap := s.heap.push (ba #[]) }) :
    codeAny (model prog w) A (.call (.builtin "bytearray.__new__") ⟨[.type "bytearray"], []⟩) (wants Q₁ E) s := by
  refine codeAny_of_tree ?_
  show wpAny _ A.in1 (do checkBuiltinCall "bytearray.__new__" ⟨[.type "bytearray"], []⟩; again (.builtin "bytearray.__new__" ⟨[.type "bytearray"], []⟩)) _ _ s
  refine wpAny_bind (wpAny_of_eq newCall (wpAny_pure ⟨plainId_quiet plain_new _, codeAny_builtin_stack entry_new rfl fun p st => ?_⟩))
  rw [Around.under_plainId plain_new _]
  have hsub := sub
  have hown := owner_new
  obtain ⟨hp, g, d, tk, os⟩ := s
  simp only [hown]
  wp_walk
  exact h
theorem init {R : Result → Shared → Prop} (hg : A.guards = some []) (ho : s.heap.get? b = some (ba #[])) (h : ∀ h', (∀ c o, s.heap.get? c = some o → h'.get? c = some o) → R (.ok (.ret .none)) { s with heap := h' }) :
    codeC (model prog w) A (.call (.builtin "bytearray.__init__") ⟨[.ref b], []⟩) R s := by
  have hT : s.TypeIs (.ref b) "bytearray" := ⟨_, ho, rfl⟩
  refine codeC_call_builtin_at (clean_init _) (plainId_quiet slot_init.plain _) entry_init (slot_init.check _ _ _ _ _ _ _ _ hT (init_args _) ?_)
  rw [Around.under_plainId slot_init.plain _]
  unfold Builtin.«bytearray.__init__»
  show wpC _ _ (Builtin.Bytes.ownRelease (.ref b) >>= _) _ _ _
  refine wpC_bindA (own_release hT ?_)
  show wpC _ _ (Builtin.Bytes.bindOptional "bytearray.__init__" "bytearray" ["source", "encoding", "errors"] [] [] >>= _) _ _ _
  rw [bind0]
  refine wpC_bind (wpC_pure ?_)
  show wpC _ _ (Builtin.Bytes.checkCodecArg "bytearray.__init__" "bytearray" "encoding" none >>= _) _ _ _
  refine wpC_bindA (wpAny_of_eq (a := ()) rfl ?_)
  show wpC _ _ (Builtin.Bytes.checkCodecArg "bytearray.__init__" "bytearray" "errors" none >>= _) _ _ _
  refine wpC_bindA (wpAny_of_eq (a := ()) rfl ?_)
  show wpC _ _ ((Builtin.Bytes.exported (.ref b) <||> (do return (← Builtin.Bytes.exportsOf (.ref b)) > 0)) >>= _) _ _ _
  refine wpC_bind (locked hg ho ?_)
  show wpC _ _ (Builtin.Bytes.write (.ref b) (fun _ => #[]) >>= _) _ _ _
  refine wpC_bindA (write ho (by decide) fun h' e ho' => ?_)
  refine wpC_any (wpAny_of_eq (a := .done (.ret .none)) rfl (h h' fun c o q => ?_))
  by_cases hc : c = b
  · subst hc
    rw [ho] at q; cases q
    exact ho'
  · rw [e]
    exact (Heap.get?_update_other _ _ (Ne.symm hc)).trans q
/-- bytearray() -/
theorem new {h₀ : Heap} {L : Addr} {m : Str → Option Value} {news : List (Addr × Obj)} {Q : Value → Shared → Prop} (hg : A.guards = some []) (F : Fr h₀ L s.heap m) (N : News h₀ L s.heap news)
    (h : ∀ b h' tk, Fr h₀ L h' m → News h₀ L h' ((b, ba #[]) :: news) → (∀ p ∈ news, p.1 < b) → Q (.ref b) { s with heap := h', toks := tk }) : wpC (model prog w) A (call (.type "bytearray") []) Q E s := by
  have hb : (s.heap.push (ba #[])).get? s.heap.objs.size = some (ba #[]) := Heap.get?_push_size _ rfl
  refine wpC_call (codeC_of_tree rfl (wpC_any ?_))
  show wpAny _ _ (callAny (.type "bytearray") _) _ _ _
  refine wpAny_pure ⟨Code.quiet_builtin _ (by decide +kernel), codeC_builtin (clean_typeCall _) PySem.F.entry_type_call ?_⟩
  rw [Around.under_plain (weight_type_call_type "bytearray" [] []) rfl]
  unfold Builtin.«type.__call__»
  have hm := mro
  show wpC _ _ (checkTypeCall "bytearray" ⟨[], []⟩ >>= _) _ _ _
  rw [typeCall]
  refine wpC_bind (wpC_pure ?_)
  show wpC _ _ (mroOf (.type "bytearray") >>= _) _ _ _
  rw [mro]
  refine wpC_bind (wpC_pure ?_)
  show wpC _ _ (Bind.madeBy (.type "bytearray") >>= _) _ _ _
  rw [called.made]
  refine wpC_bind (wpC_pure ?_)
  show wpC _ _ (holding [Value.builtin "bytearray.__new__"] (call (Value.builtin "bytearray.__new__") [.type "bytearray"] []) >>= _) _ _ _
  refine wpC_bindA (wpAny_holding (wpAny_call (codeAny_mono (code_new (E := E) (Q₁ := fun v s' => v = .ref s.heap.objs.size ∧ s' = { s with heap := s.heap.push (ba #[]) }) ⟨rfl, rfl⟩) fun r s' z => ?_)))
  rcases r with e | (v | _ | _ | _) <;> first | exact z.elim | skip
  · exact z
  obtain ⟨rfl, rfl⟩ := z
  have hT : ({ s with heap := s.heap.push (ba #[]) } : Shared).TypeIs (.ref s.heap.objs.size) "bytearray" := ⟨_, hb, rfl⟩
  show wpC _ _ (isInstance (.ref s.heap.objs.size) (.type "bytearray") >>= _) _ _ _
  refine wpC_bindA (wpAny_isInstance hT sub ?_)
  show wpC _ _ (holding [.ref s.heap.objs.size] (callSpecial? (.ref s.heap.objs.size) "__init__" [] []) >>= _) _ _ _
  refine wpC_bind (wpC_holding ?_)
  unfold callSpecial?
  refine wpC_bindA (wpAny_specialOf hT slot_init.lookup ?_)
  show wpC _ _ (holding [.ref s.heap.objs.size] (bindSpecial (.builtin "bytearray.__init__") (.ref s.heap.objs.size) >>= _)) _ _ _
  rw [slot_init.bind]
  refine wpC_holding (wpC_bind (wpC_pure ?_))
  show wpC _ _ (call (.builtin "bytearray.__init__") [.ref s.heap.objs.size] [] >>= _) _ _ _
  refine wpC_bind (wpC_call (init (R := fun r s' => match r with | .ok (.ret v) => _ | .ok _ => False | .error e => _) hg hb fun h' k => ?_))
  refine wpC_pure (wpC_pure ?_)
  have N' := N.push F (ba #[])
  refine h _ h' s.toks ((F.push _).keeps k) (fun p hp => ⟨k _ _ (N' p hp).1, (N' p hp).2⟩) fun p hp => Heap.lt_size (N p hp).1
theorem take (c : Array UInt8) (t : Tok) : Builtin.Bytes.takeBufferQuiet? "bytearray.extend" (.bytes c t) 0 = pure (some (c, none)) := by
  unfold Builtin.Bytes.takeBufferQuiet? Builtin.Bytes.takeBuffer?
  rw [KBy.special_eq KBy.look_buffer, KBy.own_buffer]
  have e : Builtin.Bytes.buffer? "bytearray.extend" (.bytes c t) (full := (0 : Int) == Builtin.Bytes.fullReadOnly) = pure (some c) := by
    have : ((0 : Int) == Builtin.Bytes.fullReadOnly) = false := by decide +kernel
    rw [this]
    exact KBy.buffer_eq
  show (Sem.attempt (Builtin.Bytes.buffer? "bytearray.extend" (.bytes c t) (full := (0 : Int) == Builtin.Bytes.fullReadOnly) >>= _) >>= _) = _
  rw [e]
  rfl
theorem slot_extend : Slot "bytearray" "extend" "bytearray.extend" :=
  .of (owner := "bytearray") (n := "extend") look_extend (by decide +kernel) (by decide +kernel) (by decide +kernel)
    (by first | exact .inl (by decide +kernel) | exact .inr (by decide +kernel)) sub
theorem extend_args (v : Value) (c : Array UInt8) (t : Tok) : argsOk "bytearray.extend" ⟨[v, .bytes c t], []⟩ := by unfold argsOk; kernel_rfl
/-- bytearray.extend(bytes) -/
theorem extend {c : Array UInt8} {t : Tok} {Q : Value → Shared → Prop} (hg : A.guards = some []) (ho : s.heap.get? b = some (ba arr)) (hz : arr.size + c.size ≤ 16777216)
    (h : ∀ h', h' = s.heap.update b (Obj.mapBytearray (· ++ c)) → h'.get? b = some (ba (arr ++ c)) → Q .none { s with heap := h' }) : wpC (model prog w) A (call (.builtin "bytearray.extend") [.ref b, .bytes c t]) Q E s := by
  have hT : s.TypeIs (.ref b) "bytearray" := ⟨_, ho, rfl⟩
  refine wpC_call (codeC_call_builtin_at (clean_extend _) (plainId_quiet plain_extend _) entry_extend (slot_extend.check _ _ _ _ _ _ _ _ hT (extend_args _ _ _) ?_))
  rw [Around.under_plainId plain_extend _]
  unfold Builtin.«bytearray.extend»
  refine wpC_bindA (wpAny_of_eq (a := (.ref b, .bytes c t)) rfl ?_)
  show wpC _ _ (specialOf (.bytes c t) "__buffer__" >>= _) _ _ _
  rw [KBy.special_eq KBy.look_buffer]
  refine wpC_bind (wpC_pure ?_)
  show wpC _ _ (rule "bytearray.extend.bytes-like" >>= _) _ _ _
  refine wpC_bindA (wpAny_rule ?_)
  show wpC _ _ (Builtin.Bytes.payload (.ref b) >>= _) _ _ _
  refine wpC_bindA (payload ho ?_)
  show wpC _ _ (Builtin.Bytes.takeBufferQuiet? "bytearray.extend" (.bytes c t) 0 >>= _) _ _ _
  rw [take]
  refine wpC_bind (wpC_pure ?_)
  show wpC _ _ (if (!c.isEmpty) = true then Builtin.Bytes.checkResize (.ref b) >>= fun _ => Builtin.Bytes.write (.ref b) (· ++ c) >>= fun _ => ret .none else Builtin.Bytes.write (.ref b) (· ++ c) >>= fun _ => ret .none) _ _ _
  have fin : ∀ {E' : Value → Shared → Prop}, wpC (model prog w) A.in1 (Builtin.Bytes.write (.ref b) (· ++ c) >>= fun _ => ret .none) (fun fin s' => match fin with
      | .done f => (match (Except.ok f : Result) with | .ok (.ret v) => Q v s' | .ok _ => False | .error e => E e s')
      | .again c' => c'.quiet = true ∧ codeC (model prog w) A c' (fun r s' => match r with | .ok (.ret v) => Q v s' | .ok _ => False | .error e => E e s') s') E' s := by
    refine wpC_bindA (write ho (by rw [Array.size_append]; exact hz) fun h' e ho' => ?_)
    exact wpC_pure (h h' e ho')
  split
  · refine wpC_bind ?_
    unfold Builtin.Bytes.checkResize
    show wpC _ _ ((Builtin.Bytes.exported (.ref b) <||> (do return (← Builtin.Bytes.exportsOf (.ref b)) > 0)) >>= _) _ _ _
    exact wpC_bind (locked hg ho (wpC_pure fin))
  · exact fin
end
end BA
end Mine
end TextC4
section TextE5
open PySem PySem.W PyProof.Rows PySem.Calls PySem.Spec
set_option Elab.async false
set_option maxRecDepth 100000
set_option maxHeartbeats 1000000
namespace Mine
theorem fillE5 {w : World} {A : Around} {Q : Value → Shared → Prop} {E : Value → Shared → Prop} {s : Shared} (h : (hd0.heap_1 w.params).In s.heap → wpAny (model PySem.Challenge.rw_pb0182_01.row.prog w) A (call .none []) Q E s) :
    (hd0.heap_1 w.params).In s.heap → wpAny (model PySem.Challenge.rw_pb0182_01.row.prog w) A (call .none []) Q E s := by
  k_fill
  w_top off
  intro hX
  try walk1
  exact h hX
section
variable {prog : Program} {w : World} {A : Around} {E : Value → Shared → Prop} {s : Shared} {env : Env}
theorem tryC {body orelse : List Stmt} {h₀ : ExceptHandler} {hs : List ExceptHandler} {pos : Pos} {Q : Flow → Shared → Prop}
    (h : wpC (model prog w) A (execs body env) (fun f s₁ => match f with | .next => wpC (model prog w) A (execs orelse env) Q E s₁ | f => Q f s₁)
      (fun e s₁ => wpAny (model prog w) A (noteFrame e env) (fun _ s₂ => wpAny (model prog w) A (setFlight e none) (fun _ s₃ => wpAny (model prog w) A (handleBy e env (h₀ :: hs)) Q E s₃) E s₂) E s₁) s) :
    wpC (model prog w) A (exec (.Try body (h₀ :: hs) orelse [] pos) env) Q E s := by
  rw [arm_exec_Try]
  refine wpC_standAt ?_
  unfold tryStmt
  simp only [List.isEmpty_nil, if_true, List.isEmpty_cons, Bool.false_and, Bool.false_eq_true, if_false]
  refine wpC_bind (wpC_attempt (wpC_mono h (fun f s₁ h₁ => ?_) fun e s₁ h₁ => ?_))
  · cases f <;> first | exact h₁ | exact wpC_pure h₁
  · exact wpC_any (wpAny_bind (wpAny_mono h₁ (fun _ _ h₂ => wpAny_bind h₂) fun _ _ x => x))
/-- as much of a heap as stands in an earlier one -/
theorem ground_base {base g : Heap} (st : base.StaysIn g) : ∃ g₂ : Heap, g₂.objs.size = g.objs.size ∧ ∀ b o, g₂.get? b = some o ↔ base.get? b = some o := by
  refine ⟨hideAll g ((List.range g.objs.size).filter fun b => (base.get? b).isNone), hideAll_size _ _, fun b o => ⟨fun e => ?_, fun e => ?_⟩⟩
  · have e1 := of_hideAll _ e
    cases q : base.get? b with
    | some o' => have := st b o' q; rw [e1] at this; cases this; rfl
    | none =>
      have := hideAll_none (h := g) ((List.range g.objs.size).filter fun b => (base.get? b).isNone) (b := b) (List.mem_filter.mpr ⟨List.mem_range.mpr (Heap.lt_size e1), by rw [q]; rfl⟩)
      rw [this] at e; cases e
  · exact hideAll_get _ (st b o e) fun q => by have := (List.mem_filter.mp q).2; rw [e] at this; cases this
end
section
variable {w : World} {p : Program} {loose : List Str} {mean : ExcName → Option Value} {mg mb : Str → Option Value} {A A₀ : Around} {env env' : Env} {outer : List Env} {base h₀ : Heap} {L : Addr} {m : Str → Option Value} {news : List (Addr × Obj)} {s : Shared}
  {R : Result → Shared → Prop} {prog : Program} {H : Heap} {ms : List Addr} {cls : Value}
theorem enterC_raw {name qual : Str} {params : Arguments} {body : List Stmt} {scope : Scope} {dV kV doc pm cdv ct oc : Value} {an od : Option Addr} {osl : Array (Option Value)} {f : Addr} {args : Args} {binds : List (Str × Value)}
    (C : Cx w p loose mean mg mb A A₀ env outer base h₀ L) (F : Fr h₀ L s.heap m) (N : News h₀ L s.heap news)
    (ho : (hd0.heap_1 w.params).lookup f = some ⟨oc, od, .func (fnOf name qual params body scope dV kV doc pm an cdv ct), osl⟩) (hcd : codeIn (hd0.heap_1 w.params) cdv qual = true) (hroom : A.depth < recursionLimit)
    (hbind : BindsTo s (fnOf name qual params body scope dV kV doc pm an cdv ct) args binds) (hloc : ∀ y ∈ binds, scope.names.lookup y.1 = some .local)
    (h : ∀ g L' h₁, Cx w p loose mean mg mb (A.deeper (envOf qual scope L' f cdv)) A (envOf qual scope L' f cdv) (env :: outer) base g L' → Fr g L' h₁ (fun y => binds.reverse.lookup y) → News g L' h₁ news → GSub s.heap g (news.map (·.1)) → (∀ p ∈ news, p.1 < L') →
      wpC (model prog w) (A.deeper (envOf qual scope L' f cdv)) (execs body (envOf qual scope L' f cdv))
        (fun fl s' => R (.ok (.ret (match fl with | .ret v => v | _ => .none))) s')
        (fun e s' => wpAny (model prog w) (A.deeper (envOf qual scope L' f cdv)) (leaving (envOf qual scope L' f cdv) e) (fun _ s'' => R (.error e) s'') (fun e' s'' => R (.error e') s'') s')
        { s with heap := h₁, toks := s.toks + binds.length })
    (hco : scope.isCoroutine = false) (hgen : scope.isGenerator = false) (hk : scope.kind = .function)
    (hcell : ∀ x ∈ scope.names, x.2 ≠ .cell) : codeC (model prog w) A (.call (.ref f) args) R s := by
  obtain ⟨B, X₀, T, b0, hA, hf, hke, hh, hG⟩ := C
  obtain ⟨FG, BG, st, lv⟩ := groundX (R := R) B F N hA hf hke
  refine codeC_call_function hroom ((X₀.keeps F.keep) _ _ ho) rfl hco hgen rfl (codeRec_of (X₀.keeps F.keep) hcd) (hbind _ _ _ _ ?_)
  refine wpAny_newFunctionEnv hcell hloc (fun h₁ hns hsb => ⟨(T.nolimit.keeps F.keep).fresh _ hsb, codeC_func ?_⟩) hk
  have hk₁ : ∀ b o, s.heap.get? b = some o → h₁.get? b = some o := fun b o e => hsb.extBut b o (Nat.ne_of_lt (Heap.lt_size e)) (Heap.get?_push_of_some _ e)
  exact wpC_mono (h _ s.heap.objs.size h₁ ⟨BG, X₀.keeps st, T.keeps st, st _ _ b0, Around.frames_deeper hA, rfl, hk, hh, guards_deeper hG⟩ ⟨hns, fun b o e => hk₁ b o (of_hideAll _ e), Nat.le_of_eq (hideAll_size _ _)⟩
    (fun p hp => ⟨hk₁ _ _ (N p hp).1, Nat.ne_of_lt (Heap.lt_size (N p hp).1), hideAll_none _ (List.mem_map_of_mem hp)⟩) (fun b o e n => hideAll_get _ e n) (fun p hp => Heap.lt_size (N p hp).1)) (fun fl s' hl => hl) fun _ _ y => y
end
end Mine
end TextE5
section TextT1
open PySem PySem.W PyProof.Rows PySem.Calls PySem.Spec
set_option Elab.async false
set_option maxRecDepth 100000
set_option maxHeartbeats 1000000
namespace Mine

section
variable {w : World} {p : Program} {loose : List Str} {mean : ExcName → Option Value} {mg mb : Str → Option Value} {s : Shared} {R : Result → Shared → Prop}
/-- the law's own entry: nothing below it but the claim's caller; the code tables are laid aside -/
theorem enterC_top {tabs : List (Addr × Addr)} {name qual : Str} {params : Arguments} {body : List Stmt} {scope : Scope} {dV kV doc pm cdv ct oc : Value} {an od : Option Addr} {osl : Array (Option Value)} {f : Addr} {args : Args} {binds : List (Str × Value)}
    (hT : TabsAt tabs s.heap) (X : (hd0.heap_1 w.params).In s.heap) (hKt : noTabs (hd0.heap_1 w.params) = true) (T : Top p loose mean mg mb s.heap) (b0 : s.heap.get? (nat_lit 0) = some (bDict w.params))
    (ho : (hd0.heap_1 w.params).lookup f = some ⟨oc, od, .func (fnOf name qual params body scope dV kV doc pm an cdv ct), osl⟩) (hcd : codeIn (hd0.heap_1 w.params) cdv qual = true)
    (hbind : BindsTo s (fnOf name qual params body scope dV kV doc pm an cdv ct) args binds) (hkind : (binds.all fun y => scope.names.lookup y.1 == some .local || scope.names.lookup y.1 == some .cell) = true)
    (hnd : ((cellsFrom 0 scope.names []).map (·.1)).Nodup)
    (h : ∀ h₁ tk cells, Cx w topProg (loose ++ (recsOf p).map (·.name) ++ (litsOf p).map (·.1) ++ (clssOf p loose).map (·.name)) mean mg mb (callerA.deeper (envOfC qual scope s.heap.objs.size f cdv)) callerA (envOfC qual scope s.heap.objs.size f cdv) [] (ghostOf s.heap tabs) (ghostOf s.heap tabs) s.heap.objs.size →
      Fr (ghostOf s.heap tabs) s.heap.objs.size h₁ (bindL (envOfC qual scope s.heap.objs.size f cdv).kindOf binds fun _ => none) → News (ghostOf s.heap tabs) s.heap.objs.size h₁ (cells ++ tabNews tabs) →
      CellsAre (bindC (envOfC qual scope s.heap.objs.size f cdv).kindOf binds fun _ => none) (cellsFrom (s.heap.objs.size + 1) scope.names []) cells →
      wpC (model PySem.Challenge.rw_pb0182_01.row.prog w) (callerA.deeper (envOfC qual scope s.heap.objs.size f cdv)) (execs body (envOfC qual scope s.heap.objs.size f cdv))
        (fun fl s' => R (.ok (.ret (match fl with | .ret v => v | _ => .none))) s')
        (fun e s' => wpAny (model PySem.Challenge.rw_pb0182_01.row.prog w) (callerA.deeper (envOfC qual scope s.heap.objs.size f cdv)) (leaving (envOfC qual scope s.heap.objs.size f cdv) e) (fun _ s'' => R (.error e) s'') (fun e' s'' => R (.error e') s'') s')
        { s with heap := h₁, toks := tk })
    (hco : scope.isCoroutine = false) (hgen : scope.isGenerator = false) (hk : scope.kind = .function) : codeC (model PySem.Challenge.rw_pb0182_01.row.prog w) callerA (.call (.ref f) args) R s := by
  refine codeC_call_function (by decide) (X _ _ ho) rfl hco hgen rfl (codeRec_of X hcd) (hbind _ _ _ _ ?_)
  refine wpAny_newFunctionEnv_cells hk (kindsX hkind _) fun env' he s' x => ?_
  subst he
  refine ⟨T.nolimit.keeps x.toInCall.keep, codeC_func ?_⟩
  obtain ⟨h₁, tk, rfl, _⟩ := x.done
  have hk₁ := x.toInCall.keep
  obtain ⟨cells, NC, Y⟩ := Cl.news (h₀ := s.heap) (Nat.le_refl _) fun n c hm => ⟨x.cell n c (lookup_of_mem_nodup (cellsFrom_names scope.names 0 (s.heap.objs.size + 1) [] [] rfl ▸ hnd) hm), x.above n c hm⟩
  have F₁ : Fr s.heap s.heap.objs.size h₁ (bindL (envOfC qual scope s.heap.objs.size f cdv).kindOf binds fun _ => none) := ⟨x.toInCall.ns, hk₁, Nat.le_refl _⟩
  exact h h₁ tk cells ⟨ghost_below hT, ghost_K hT X hKt, ghost_top hT T, ghost_get hT b0 (fun q => by cases q), Around.frames_deeper rfl, rfl, hk, rfl, rfl⟩ (ghost_fr hT F₁) (ghost_news hT F₁ NC) Y
end
end Mine
end TextT1
section TextB8
open PySem PySem.W PySem.W.X PyProof.Rows PySem.Calls PySem.Spec
set_option Elab.async false
set_option maxRecDepth 100000
set_option maxHeartbeats 1000000
namespace Mine
/-- the widest surroundings: whoever stands within them is served -/
noncomputable abbrev AX : Around := { handled := none, depth := 900, frames := none, guards := some [], units := 5000 }
theorem wp_AX {α : Type} {M : Model} {A : Around} {t : Sem α} {Q : α → Shared → Prop} {E : Value → Shared → Prop} {s : Shared} (hh : A.handled = none) (hG : A.guards = some []) (hd : A.depth ≤ 900) (hu : A.units ≤ 5000)
    (h : wpAny M AX t Q E s) : wpAny M A t Q E s := fun Γ p hΓ =>
  h Γ p ⟨hΓ.1.trans hh, Nat.le_trans hΓ.2.1 hd, nofun, fun g e => hΓ.2.2.2.1 g (hG.trans e), Nat.le_trans hΓ.2.2.2.2 hu⟩
theorem mem_all {h₀ h : Heap} {news : List (Addr × Obj)} (D : Mem h₀ h [] news) (b : Addr) (o : Obj) (e : h₀.get? b = some o) : h.get? b = some o :=
  D.keep b o e (by show (hasCls o || true) = true; rw [Bool.or_true])
theorem mem_get {h₀ h : Heap} {news : List (Addr × Obj)} (D : Mem h₀ h [] news) {a : Addr} {o : Obj} (hm : (a, o) ∈ news) : h.get? a = some o ∧ h₀.get? a = none := D.nw (a, o) hm
noncomputable def Kept (s : Shared) (h : Heap) : Prop := ∀ b o, s.heap.get? b = some o → h.get? b = some o
theorem fillK8 {w : World} {A : Around} {Q : Value → Shared → Prop} {E : Value → Shared → Prop} {s : Shared} (h : (hd0.heap_1 w.params).In s.heap → wpAny (model PySem.Challenge.rw_pb0182_01.row.prog w) A (call .none []) Q E s) :
    (hd0.heap_1 w.params).In s.heap → wpAny (model PySem.Challenge.rw_pb0182_01.row.prog w) A (call .none []) Q E s := by
  k_fill
  w_top off
  intro hX
  try walk1
  exact h hX
section
local macro_rules | `(tactic| x_close) => `(tactic| exact ⟨_, _, rfl, rfl⟩)
theorem ba_bytes0 {w : World} (s : Shared) (b : Addr) (arr : Array UInt8) (sl : Array (Option Value)) (hz : arr.size ≤ 16777216) (X : (hd0.heap_1 w.params).In s.heap)
   (hb : s.heap.get? b = some ⟨.type "bytearray", none, .bytearray arr, sl⟩) :
   wpAny (model PySem.Challenge.rw_pb0182_01.row.prog w) AX (call (.type "bytes") [.ref b])
    (fun v s' => ∃ t tk', v = .bytes arr t ∧ s' = { s with toks := tk' }) (fun _ _ => False) s := by
  x_run
end
end Mine
end TextB8
section TextB9
open PySem PySem.W PyProof.Rows PySem.Calls PySem.Spec
set_option Elab.async false
set_option maxRecDepth 100000
set_option maxHeartbeats 1000000
namespace Mine
/-- values that are bytes objects -/
inductive BytesAre : List Value → List (List UInt8) → Prop
  | nil : BytesAre [] []
  | cons (c : List UInt8) (t : Tok) {vs cs} : BytesAre vs cs → BytesAre (.bytes c.toArray t :: vs) (c :: cs)
theorem BytesAre.length {vs cs} (H : BytesAre vs cs) : vs.length = cs.length := by
  induction H with
  | nil => rfl
  | cons _ _ _ ih => exact congrArg (· + 1) ih
theorem BytesAre.append {vs ws cs ds} (H : BytesAre vs cs) (h : BytesAre ws ds) : BytesAre (vs ++ ws) (cs ++ ds) := by
  induction H with
  | nil => exact h
  | cons c t _ ih => exact .cons c t ih
theorem BytesAre.at {vs cs} (H : BytesAre vs cs) : ∀ {i : Nat} {v}, vs[i]? = some v → ∃ c t, v = .bytes c.toArray t ∧ cs[i]? = some c := by
  induction H with
  | nil => intro i v h; simp at h
  | cons c t _ ih =>
    intro i v h
    cases i with
    | zero => exact ⟨c, t, (Option.some.inj h).symm, rfl⟩
    | succ i => exact ih h
namespace BJ
theorem entry : entryFor table "bytes.join" = some Builtin.«bytes.join» := entryFor_of_tree (by kernel_rfl)
theorem plain : plainId "bytes.join" = true := by decide +kernel
theorem slot : Slot "bytes" "join" "bytes.join" :=
  .of (owner := "bytes") (n := "join") (by rw [typeLookup_type, builtinLookup_eq_fast]; kernel_rfl) (by decide +kernel) (by decide +kernel) (by decide +kernel)
    (by first | exact .inl (by decide +kernel) | exact .inr (by decide +kernel)) (by rw [isSubtype_type]; kernel_rfl)
theorem args (v x : Value) : argsOk "bytes.join" ⟨[v, x], []⟩ := by unfold argsOk; kernel_rfl
theorem plainAttrs : PlainAttrs "bytes" :=
  ⟨⟨"bytes.__getattribute__", by rw [typeLookup_type, builtinLookup_eq_fast]; kernel_rfl, by decide +kernel⟩, by rw [typeLookup_type, builtinLookup_eq_fast]; kernel_rfl⟩
theorem type_join : typeOf (.builtin "bytes.join") = pure (.type "method_descriptor") := by show builtinType _ = _; rw [builtinType_eq_fast]; kernel_rfl
theorem take (id : String) (c : Array UInt8) (t : Tok) : Builtin.Bytes.takeBufferQuiet? id (.bytes c t) 0 = pure (some (c, none)) := by
  unfold Builtin.Bytes.takeBufferQuiet? Builtin.Bytes.takeBuffer?
  rw [KBy.special_eq KBy.look_buffer, KBy.own_buffer]
  have e : Builtin.Bytes.buffer? id (.bytes c t) (full := (0 : Int) == Builtin.Bytes.fullReadOnly) = pure (some c) := by
    have : ((0 : Int) == Builtin.Bytes.fullReadOnly) = false := by decide +kernel
    rw [this]
    exact KBy.buffer_eq
  show (Sem.attempt (Builtin.Bytes.buffer? id (.bytes c t) (full := (0 : Int) == Builtin.Bytes.fullReadOnly) >>= _) >>= _) = _
  rw [e]
  rfl
theorem joined_eq (cs : List (List UInt8)) : Builtin.Bytes.joined #[] (cs.map (·.toArray)) = (cs.flatten).toArray := by
  unfold Builtin.Bytes.joined
  have key : ∀ (l : List (List UInt8)) (k : Nat) (acc : Array UInt8), ((l.map (·.toArray)).zipIdx k).foldl (fun out (p, i) => (if i > 0 then out ++ #[] else out) ++ p) acc = acc ++ (l.flatten).toArray := by
    intro l
    induction l with
    | nil => intro k acc; simp
    | cons a r ih =>
      intro k acc
      rw [List.map_cons, List.zipIdx_cons, List.foldl_cons, ih]
      have : (if k > 0 then acc ++ #[] else acc) = acc := by split <;> simp
      show ((if k > 0 then acc ++ #[] else acc) ++ a.toArray) ++ r.flatten.toArray = _
      rw [this]
      simp [Array.append_assoc]
  rw [key]
  simp
theorem size_eq (cs : List (List UInt8)) : ((cs.map (·.toArray)).toArray).foldl (fun n p => n + p.size) 0 = (cs.flatten).length := by
  rw [← Array.foldl_toList]
  have key : ∀ (l : List (List UInt8)) (k : Nat), (l.map (·.toArray)).foldl (fun n (p : Array UInt8) => n + p.size) k = k + (l.flatten).length := by
    intro l
    induction l with
    | nil => intro k; simp
    | cons a r ih => intro k; rw [List.map_cons, List.foldl_cons, ih]; simp; omega
  rw [key]; simp
section
variable {M : Model} {prog : Program} {w : World} {A : Around} {E : Value → Shared → Prop} {s : Shared}
theorem joinLetGo_cons (x : Value) (rest : List (Value × Option Value)) (keep : List Value) : Builtin.Bytes.joinLetGo ((x, none) :: rest) keep = (do
    letGo [x] (keep ++ rest.flatMap fun (y, u) => y :: u.toList)
    Builtin.Bytes.joinLetGo rest keep) := by with_unfolding_all rfl
theorem letAll {taken : List (Value × Option Value)} {keep : List Value} {Q : Unit → Shared → Prop} (h : ∀ p ∈ taken, p.2 = none) (hQ : Q () s) : wpAny M A (Builtin.Bytes.joinLetGo taken keep) Q E s := by
  induction taken with
  | nil => exact wpAny_pure hQ
  | cons p r ih =>
    obtain ⟨x, w⟩ := p
    obtain rfl : w = none := h _ (.head _)
    rw [joinLetGo_cons]
    exact wpAny_bind (wpAny_letGo (ih fun q hq => h q (.tail _ hq)))
end
section
noncomputable def P_run (prog : Program) (w : World) (A : Around) (E : Value → Shared → Prop) (s : Shared) (l : Addr) (t0 : Tok) (Q : PySem.Fin → Shared → Prop) : Prop := ∀ (vs : List Value) (cs : List (List UInt8)) (hl : s.heap.IsList l vs.toArray) (hb : BytesAre vs cs) (hz : (cs.flatten).length ≤ 16777216) (h : ∀ t k, Q (.done (.ret (.bytes (cs.flatten).toArray t))) { s with toks := k }),
    wpAny (model prog w) A (Builtin.«bytes.join» ⟨[.bytes #[] t0, .ref l], []⟩) Q E s
noncomputable def c_run := @Classical.epsilon ((Program) × (World) × (Around) × (Value → Shared → Prop) × (Shared) × (Addr) × (Tok) × (PySem.Fin → Shared → Prop)) ⟨(default, wDef, callerA, fun _ _ => True, (PySem.start default).1, 0, 0, fun _ _ => True)⟩ fun v => ¬ P_run v.1 v.2.1 v.2.2.1 v.2.2.2.1 v.2.2.2.2.1 v.2.2.2.2.2.1 v.2.2.2.2.2.2.1 v.2.2.2.2.2.2.2
namespace K_run
@[irreducible] noncomputable def prog : Program := c_run.1
@[irreducible] noncomputable def w : World := c_run.2.1
@[irreducible] noncomputable def A : Around := c_run.2.2.1
@[irreducible] noncomputable def E : Value → Shared → Prop := c_run.2.2.2.1
@[irreducible] noncomputable def s : Shared := c_run.2.2.2.2.1
@[irreducible] noncomputable def l : Nat := c_run.2.2.2.2.2.1
@[irreducible] noncomputable def t0 : Tok := c_run.2.2.2.2.2.2.1
@[irreducible] noncomputable def Q : PySem.Fin → Shared → Prop := c_run.2.2.2.2.2.2.2
theorem core : P_run prog w A E s l t0 Q := by
  unfold P_run
  intro vs cs hl hb hz h
  obtain ⟨ol, hol, hoc, nl, hod⟩ := id hl
  have hT : s.TypeIs (.ref l) "list" := hl.typeIs
  unfold Builtin.«bytes.join» Builtin.Bytes.joinM
  refine wpAny_bind (wpAny_of_eq (a := (.bytes #[] t0, .ref l)) rfl ?_)
  show wpAny _ _ (Builtin.Bytes.joinItems (.ref l) >>= _) _ _ _
  refine wpAny_bind ?_
  unfold Builtin.Bytes.joinItems
  refine wpAny_bind (wpAny_typeOf hT ?_)
  rw [if_pos (by decide)]
  refine wpAny_pure (wpAny_bind (wpAny_seqItems hol hod ?_))
  dsimp only
  rw [if_pos (by decide)]
  have hcase : (∃ c t, vs = [.bytes c.toArray t] ∧ cs = [c]) ∨ vs = [] ∨ ∃ a b r, vs = a :: b :: r := by
    cases hb with
    | nil => exact .inr (.inl rfl)
    | cons c t r =>
      cases r with
      | nil => exact .inl ⟨c, t, rfl, rfl⟩
      | cons d u r => exact .inr (.inr ⟨_, _, _, rfl⟩)
  rcases hcase with ⟨c, t, rfl, rfl⟩ | hcase
  · refine wpAny_bind (wpAny_typeOf (PySem.W.typeIs_bytes _ _ _) ?_)
    rw [if_pos (by decide)]
    have z := h t s.toks
    rw [show [c].flatten.toArray = c.toArray by simp] at z
    exact wpAny_bind (wpAny_rule (wpAny_pure z))
  · have len := hb.length
    have range : List.range' ([:vs.toArray.size] : Std.Legacy.Range).start ([:vs.toArray.size] : Std.Legacy.Range).size ([:vs.toArray.size] : Std.Legacy.Range).step = List.range' 0 (vs.length - 0) := by
      simp [Std.Legacy.Range.size]
    have fin : ∀ (acc : Array (Array UInt8) × List (Value × Option Value)), acc.1 = (cs.map (·.toArray)).toArray → (∀ p ∈ acc.2, p.2 = none) → ∀ s', s' = s →
        wpAny (model prog w) A (do
          let sep ← Builtin.Bytes.payload (.bytes #[] t0)
          if Builtin.Bytes.tooLong (acc.1.foldl (· + ·.size) (sep.size * (acc.1.size - 1))) then unsupported s!"{s!"{Builtin.Bytes.Kind.bytes.name}.join"}:memory"
          let result ← Builtin.Bytes.Kind.bytes.new (Builtin.Bytes.joined sep acc.1.toList)
          holding (result :: acc.2.flatMap fun (y, u) => y :: u.toList) point
          Builtin.Bytes.joinLetGo acc.2 [result]
          ret result) Q E s' := by
      rintro acc e1 e2 _ rfl
      refine wpAny_bind (wpAny_pure ?_)
      have q : Builtin.Bytes.tooLong (acc.1.foldl (· + ·.size) ((#[] : Array UInt8).size * (acc.1.size - 1))) = false := by
        rw [show (#[] : Array UInt8).size * (acc.1.size - 1) = 0 by simp, e1, size_eq]
        exact KBy.tooLong_not hz
      rw [q]
      refine wpAny_bind ?_
      rw [e1, joined_eq]
      refine wpAny_mkBytes ?_ (by rw [sizeLine_eq, List.size_toArray]; omega)
      exact wpAny_bind (wpAny_holding (wpAny_point (wpAny_bind (letAll e2 (wpAny_pure (h _ _))))))
    have loop : ∀ (f : Nat → Array (Array UInt8) × List (Value × Option Value) → Sem (ForInStep (Array (Array UInt8) × List (Value × Option Value)))),
        (∀ i acc s', s' = s → i < vs.length → (∀ p ∈ acc.2, p.1.onHeap = false ∧ p.2 = none) → ∀ c t, vs[i]? = some (.bytes c t) → ∀ Q' : ForInStep (Array (Array UInt8) × List (Value × Option Value)) → Shared → Prop, Q' (.yield (acc.1.push c, acc.2 ++ [(.bytes c t, none)])) s → wpAny (model prog w) A (f i acc) Q' E s') →
        wpAny (model prog w) A (forIn [:vs.toArray.size] ((#[] : Array (Array UInt8)), ([] : List (Value × Option Value))) f) (fun acc s' => s' = s ∧ acc.1 = (cs.map (·.toArray)).toArray ∧ ∀ p ∈ acc.2, p.2 = none) E s := by
      intro f hf
      rw [Std.Legacy.Range.forIn_eq_forIn_range', range]
      refine wpAny_forIn_list _ (fun rest acc s' => s' = s ∧ ∃ i, rest = List.range' i (vs.length - i) ∧ i ≤ vs.length ∧ acc.1 = ((cs.take i).map (·.toArray)).toArray ∧ ∀ p ∈ acc.2, p.1.onHeap = false ∧ p.2 = none) _ ?_ ?_ _ _ ⟨rfl, 0, rfl, Nat.zero_le _, by simp, fun p hp => by cases hp⟩
      · rintro j rest acc s' ⟨e, i, hr, hi, ha, ht⟩
        have hlt : i < vs.length := by
          rcases Nat.lt_or_ge i vs.length with z | z
          · exact z
          · rw [Nat.sub_eq_zero_of_le z] at hr; cases hr
        obtain ⟨k, hk⟩ : ∃ k, vs.length - i = k + 1 := ar_pred (by assumption)
        rw [hk, List.range'_succ] at hr
        obtain ⟨rfl, rfl⟩ := List.cons.inj hr
        obtain ⟨v, hv⟩ : ∃ v, vs[j]? = some v := ⟨vs[j], List.getElem?_eq_getElem hlt⟩
        obtain ⟨c, t, rfl, hc⟩ := hb.at hv
        refine hf j acc s' e hlt ht _ t hv _ ⟨rfl, j + 1, by rw [show vs.length - (j + 1) = k from ar_pred2 (by assumption)], hlt, ?_, ?_⟩
        · rw [ha, List.take_add_one, hc]; simp
        · intro p hp
          rcases List.mem_append.mp hp with hp | hp
          · exact ht p hp
          · rw [List.mem_singleton.mp hp]; exact ⟨rfl, rfl⟩
      · rintro acc s' ⟨e, i, hr, hi, ha, ht⟩
        have : i = vs.length := by
          rcases Nat.lt_or_ge i vs.length with z | z
          · obtain ⟨k, hk⟩ : ∃ k, vs.length - i = k + 1 := ar_pred (by assumption)
            rw [hk, List.range'_succ] at hr; cases hr
          · omega
        subst this
        exact ⟨e, by rw [ha, len, List.take_length], fun p hp => (ht p hp).2⟩
    rcases hcase with rfl | ⟨a, b, r, rfl⟩
    · show wpAny _ _ (forIn _ _ _ >>= _) _ _ _
      refine wpAny_bind (wpAny_mono (loop _ ?_) (fun acc s' z => fin acc z.2.1 z.2.2 s' z.1) fun _ _ x => x)
      intro i acc s' e hi; exact absurd hi (Nat.not_lt_zero _)
    · show wpAny _ _ (forIn _ _ _ >>= _) _ _ _
      refine wpAny_bind (wpAny_mono (loop _ ?_) (fun acc s' z => fin acc z.2.1 z.2.2 s' z.1) fun _ _ x => x)
      rintro i acc s' rfl hi ht c t hv Q' hQ
      refine wpAny_bind (wpAny_seqItems hol hod ?_)
      dsimp only
      have hd : (a :: b :: r).toArray.getD i .none = .bytes c t := by
        rw [Array.getD_eq_getD_getElem?]
        simp only [List.getElem?_toArray, hv, Option.getD_some]
      have hq : (Builtin.Bytes.Kind.bytes == Builtin.Bytes.Kind.bytearray || acc.2.any fun x => x.1.onHeap) = false := by
        rw [Bool.or_eq_false_iff]
        refine ⟨by decide, ?_⟩
        rw [List.any_eq_false]
        intro x hx
        rw [(ht x hx).1]; exact Bool.false_ne_true
      rw [hq, hd]
      refine wpAny_bind (wpAny_holding ?_)
      rw [take]
      refine wpAny_pure (wpAny_bind (wpAny_seqItems hol hod ?_))
      dsimp only
      rw [if_neg (by simp)]
      exact wpAny_pure hQ
end K_run
theorem run {prog : Program} {w : World} {A : Around} {E : Value → Shared → Prop} {s : Shared} {l : Addr} {vs : List Value} {cs : List (List UInt8)} {t0 : Tok} {Q : PySem.Fin → Shared → Prop} (hl : s.heap.IsList l vs.toArray) (hb : BytesAre vs cs) (hz : (cs.flatten).length ≤ 16777216) (h : ∀ t k, Q (.done (.ret (.bytes (cs.flatten).toArray t))) { s with toks := k }) :
    wpAny (model prog w) A (Builtin.«bytes.join» ⟨[.bytes #[] t0, .ref l], []⟩) Q E s :=
  eps_all (P := fun v => P_run v.1 v.2.1 v.2.2.1 v.2.2.2.1 v.2.2.2.2.1 v.2.2.2.2.2.1 v.2.2.2.2.2.2.1 v.2.2.2.2.2.2.2) (by with_unfolding_all exact K_run.core) (prog, w, A, E, s, l, t0, Q) vs cs hl hb hz h
end
section
variable {M : Model} {prog : Program} {w : World} {A : Around} {E : Value → Shared → Prop} {s : Shared}
/-- b''.join of a list of bytes -/
theorem call_join {l : Addr} {vs : List Value} {cs : List (List UInt8)} {t0 : Tok} {Q : Value → Shared → Prop} (hl : s.heap.IsList l vs.toArray) (hb : BytesAre vs cs) (hz : (cs.flatten).length ≤ 16777216)
    (h : ∀ t k, Q (.bytes (cs.flatten).toArray t) { s with toks := k }) : wpAny (model prog w) A (call (.builtin "bytes.join") [.bytes #[] t0, .ref l]) Q E s := by
  refine wpAny_call (codeAny_call_builtin plain entry (slot.check _ _ _ _ _ _ _ _ (PySem.W.typeIs_bytes _ _ _) (args _ _) ?_))
  exact run hl hb hz fun t k => h t k
theorem get_join {b : Array UInt8} {t : Tok} {pl : Sem Bool} {Q : Value × List Value → Shared → Prop} (h : Q (.builtin "bytes.join", [.bytes b t]) s) : wpAny (model prog w) A (getMethod (.bytes b t) "join" pl) Q E s :=
  getMethod_builtin (PySem.W.typeIs_bytes _ _ _) plainAttrs slot type_join (fun a e => by cases e) h
end
end BJ
end Mine
end TextB9
local macro_rules | `(tactic| walk_at "getMethod") => `(tactic| (refine' by_j ?_ ?_; assumption; refine BJ.get_join ?_))

section TextL1
open PySem PySem.W PyProof.Rows PySem.Calls PySem.Spec
set_option Elab.async false
set_option maxRecDepth 100000
set_option maxHeartbeats 1000000
namespace Mine
open PyProof.Rows.LCg (lst NsObj ns_obj SrcAt list_st fr_but news_but)
section
variable {M : Model} {α : Type} {A : Around} {E : Value → Shared → Prop} {s : Shared} {env : Env}
theorem wpC_noted {m : Sem α} {Q : α → Shared → Prop} (h : wpC M A m Q (notedBy M A env E) s) : wpC M A (m.onRaise fun x => do noteFrame x env; theTreesLotGoes x) Q E s :=
  wpC_onRaise (wpC_mono h (fun _ _ q => q) fun _ _ hx => wpAny_bind (wpAny_mono hx (fun _ _ e => wpAny_theTreesLotGoes e) fun _ _ e => e))
end
/-- what a turn of a loop's body leaves -/
inductive NextS (h₀ : Heap) (L : Addr) (s₂ : Shared) (I : Addr) (oI : Obj) (J : (Str → Option Value) → List (Addr × Obj) → Prop) (s₄ : Shared) : Prop
  | mk (h' : Heap) (tk' : Tok) (m' : Str → Option Value) (nw' : List (Addr × Obj)) (e : s₄ = { s₂ with heap := h', toks := tk' }) (F : Fr h₀ L h' m') (N : News h₀ L h' ((I, oI) :: nw')) (off : ∀ p ∈ nw', p.1 ≠ I) (hJ : J m' nw') : NextS h₀ L s₂ I oI J s₄
/-- what stands at a loop's turn -/
inductive LoopS (h₀ : Heap) (L : Addr) (s₂ : Shared) (I : Addr) (n : Nat) (St : Nat → Heap → Prop) (J : Nat → (Str → Option Value) → List (Addr × Obj) → Prop) (k : Nat) (s' : Shared) : Prop
  | mk (h' : Heap) (tk : Tok) (m' : Str → Option Value) (nw : List (Addr × Obj)) (i : Nat) (e : s' = { s₂ with heap := h', toks := tk }) (hi : i ≤ n) (hk : k = n + 1 - i) (hst : St i h') (F : Fr h₀ L h' m') (N : News h₀ L h' nw) (off : ∀ p ∈ nw, p.1 ≠ I) (hJ : J i m' nw) : LoopS h₀ L s₂ I n St J k s'
/-- what a loop asks of its iterator, T: of its turns -/
inductive ForW (T : (Nat → Value → Prop) → (Nat → (Str → Option Value) → List (Addr × Obj) → Prop) → Shared → Prop) (prog : Program) (w : World) (A : Around) (h₀ : Heap) (L : Addr) (target : Expr) (Q : Flow → Shared → Prop) (it : Value) (s₂ : Shared) : Prop
  | mk (I : Addr) (fp : List Addr) (n : Nat) (P : Nat → Value → Prop) (St : Nat → Heap → Prop) (m : Str → Option Value) (news : List (Addr × Obj)) (J : Nat → (Str → Option Value) → List (Addr × Obj) → Prop)
    (e : it = .ref I) (W : Walks prog w A I fp [I] n P St) (hIo : ∀ i h, St i h → ∃ o, h.get? I = some o)
    (hSt : ∀ i h h' o nw k m, St i h → h.get? I = some o → h'.get? I = some o → (∀ b o, h₀.get? b = some o → h'.get? b = some o) → News h₀ L h' nw → J k m nw → St i h')
    (hgo : ∀ i (s' : Shared) v (Q' : Unit → Shared → Prop) (E' : Value → Shared → Prop), St i s'.heap → Q' () s' → wpAny (model prog w) A (letOwnedTupleGo target (.ref I) v) Q' E' s')
    (hst : St 0 s₂.heap) (F : Fr h₀ L s₂.heap m) (N : News h₀ L s₂.heap news) (hIL : L ≠ I) (hI₀ : h₀.get? I = none) (off : ∀ p ∈ news, p.1 ≠ I) (hJ : J 0 m news) (step : T (fun i v => i < n ∧ P i v) J s₂)
    (fin : ∀ h tk m₁ nw, Fr h₀ L h m₁ → News h₀ L h nw → J n m₁ nw → Q .next { s₂ with heap := h, toks := tk }) : ForW T prog w A h₀ L target Q it s₂
noncomputable abbrev TurnFA (prog : Program) (w : World) (A : Around) (h₀ : Heap) (L : Addr) (env : Env) (target : Expr) (body : List Stmt) (Q : Flow → Shared → Prop) (E : Value → Shared → Prop) (P : Nat → Value → Prop) (J : Nat → (Str → Option Value) → List (Addr × Obj) → Prop) (s₂ : Shared) : Prop :=
  ∀ i v m₁ nw I oI h tk, P i v → J i m₁ nw → Fr h₀ L h m₁ → News h₀ L h ((I, oI) :: nw) → (∀ p ∈ nw, p.1 ≠ I) →
    wpAny (model prog w) A (assign target env v) (fun _ s₃ => wpAny (model prog w) A (execs body env) (fun f s₄ => match f with
      | .next | .cont => Hold (NextS h₀ L s₂ I oI (J (i + 1)) s₄)
      | .brk => Q .next s₄
      | .ret v => Q (.ret v) s₄) E s₃) E { s₂ with heap := h, toks := tk }
noncomputable abbrev TurnFC (prog : Program) (w : World) (A : Around) (h₀ : Heap) (L : Addr) (env : Env) (target : Expr) (body : List Stmt) (Q : Flow → Shared → Prop) (E : Value → Shared → Prop) (P : Nat → Value → Prop) (J : Nat → (Str → Option Value) → List (Addr × Obj) → Prop) (s₂ : Shared) : Prop :=
  ∀ i v m₁ nw I oI h tk, P i v → J i m₁ nw → Fr h₀ L h m₁ → News h₀ L h ((I, oI) :: nw) → (∀ p ∈ nw, p.1 ≠ I) →
    wpAny (model prog w) A (assign target env v) (fun _ s₃ => wpC (model prog w) A (execs body env) (fun f s₄ => match f with
      | .next | .cont => Hold (NextS h₀ L s₂ I oI (J (i + 1)) s₄)
      | .brk => Q .next s₄
      | .ret v => Q (.ret v) s₄) E s₃) E { s₂ with heap := h, toks := tk }
section
variable {prog : Program} {w : World} {A : Around} {E : Value → Shared → Prop} {s : Shared} {h₀ : Heap} {L : Addr} {env : Env}
theorem go_list {target : Expr} {I ax : Addr} {its : Array Value} {i : Nat} {s' : Shared} {v : Value} {Q : Unit → Shared → Prop} {E : Value → Shared → Prop} (st : s'.heap.IsListIter I ax i ∧ s'.heap.IsList ax its) (h : Q () s') : wpAny (model prog w) A (letOwnedTupleGo target (.ref I) v) Q E s' := by
  obtain ⟨⟨o, ho, hc, hd⟩, _⟩ := st
  have key : ∀ a, v = .ref a → wpAny (model prog w) A (do
      let o ← load I
      match o.cls, o.data with
      | .type n, .fields vs =>
        if ["enumerate", "zip", "dict_itemiterator", "dict_reverseitemiterator", "odict_iterator", "itertools.zip_longest", "itertools.pairwise"].contains n && vs[0]? == some (rawInt a) then
          rule "for.unpacks-the-owned-tuple"
          updateField I 0 .none
      | _, _ => pure ()) Q E s' := by
    intro a _
    refine wpAny_bind (wpAny_load ho ?_)
    rw [hc, hd]
    dsimp only
    rw [if_neg (by
      have : ["enumerate", "zip", "dict_itemiterator", "dict_reverseitemiterator", "odict_iterator", "itertools.zip_longest", "itertools.pairwise"].contains "list_iterator" = false := by decide +kernel
      rw [this]; simp)]
    exact wpAny_pure h
  unfold letOwnedTupleGo
  cases target <;> first | exact wpAny_pure h | (cases v <;> first | exact wpAny_pure h | exact key _ rfl)
theorem standA {α : Type} {M : Model} {pos : Pos} {f : Unit → Sem α} {Q : α → Shared → Prop} (h : wpAny M A (f ()) Q E s) : wpAny M A (standAt pos >>= f) Q E s := wpAny_bind (wpAny_standAt h)
/-- a for loop on a clean stack -/
theorem forC {target iter : Expr} {body : List Stmt} {pos : Pos} {Q : Flow → Shared → Prop}
    (h : wpAny (model prog w) A (eval iter env) (fun xv s₁ => wpAny (model prog w) A (pyIter xv) (fun it s₂ => Hold (
      ForW (TurnFC prog w A h₀ L env target body Q E) prog w A h₀ L target Q it s₂)) E s₁) E s)
    (hE : PassesOwn (model prog w) A env E) (hs : ∀ x, foldedSetIterable iter env x = pure x := by intro _; rfl) :
    wpC (model prog w) A (exec (.For target iter body [] pos) env) Q E s := by
  rw [arm_exec_For]
  refine wpC_standAt (wpC_bindA (wpAny_mono h (fun xv s₁ h₁ => ?_) fun _ _ x => x))
  rw [hs]
  refine wpC_bind (wpC_pure (wpC_standAt (wpC_bindA (wpAny_holding (wpAny_mono h₁ (fun it s₂ h₂ => ?_) fun _ _ x => x)))))
  obtain ⟨I, fp, n, P, St, m, news, J, rfl, W, hIo, hSt, hgo, hst, F, N, hIL, hI₀, off, hJ, step, fin⟩ := h₂
  refine wpC_runOwn ?_
  refine codeC_loop rfl rfl (LoopS h₀ L s₂ I n St J) ?_ (n + 1)
    ⟨s₂.heap, s₂.toks, m, news, 0, rfl, Nat.zero_le _, rfl, hst, F, N, off, hJ⟩
  rintro k s' ⟨h', tk, m', nw, i, rfl, hi, rfl, hst', F', N', off', hJ'⟩
  show wpC _ _ ((forTurn target (.ref I) body [] env).onRaise (fun x => do noteFrame x env; theTreesLotGoes x)) _ _ _
  refine wpC_noted ?_
  unfold forTurn
  by_cases hlt : i < n
  · refine wpC_standAt (wpC_bindA (wpAny_onRaise (W.item i _ _ _ hlt hst' fun v h₂ tk₂ hPv hst₂ hk₂ => ?_)))
    have F₂ : Fr h₀ L h₂ m' := fr_but F' hk₂ hIL hI₀
    have N₂ : News h₀ L h₂ nw := news_but N' hk₂ fun p hp => off' p hp
    obtain ⟨oI, heI⟩ := hIo _ _ hst₂
    have N₃ : News h₀ L h₂ ((I, oI) :: nw) := fun p hp => by
      revert p; refine fa_cons ?_ fun p hp => ?_
      · exact ⟨heI, Ne.symm hIL, hI₀⟩
      · exact N₂ p hp
    dsimp only
    refine wpC_bindA (hgo _ _ _ _ _ hst₂ (wpC_bindA (wpAny_mono (step i v m' nw I oI h₂ tk₂ ⟨hlt, hPv⟩ hJ' F₂ N₃ off') (fun _ s₃ h₃ => wpC_bind (wpC_mono h₃ (fun f s₄ h₄ => ?_) hE)) hE)))
    have nx : NextS h₀ L s₂ I oI (J (i + 1)) s₄ → ∃ q, q < n + 1 - i ∧ LoopS h₀ L s₂ I n St J q s₄ := by
      rintro ⟨g₄, tk₄, m₄, nw₄, rfl, F₄, N₄, off₄, hJ₄⟩
      have N₄' : News h₀ L g₄ nw₄ := fun p hp => N₄ p (List.mem_cons_of_mem _ hp)
      exact ⟨n + 1 - (i + 1), ar_step hlt, g₄, tk₄, m₄, nw₄, i + 1, rfl, hlt, rfl, hSt _ _ _ _ _ _ _ hst₂ heI (N₄ (I, oI) List.mem_cons_self).1 F₄.keep N₄' hJ₄, F₄, N₄', off₄, hJ₄⟩
    cases f with
    | next => exact wpC_pure (.inl ⟨rfl, nx h₄⟩)
    | cont => exact wpC_pure (.inl ⟨rfl, nx h₄⟩)
    | brk => exact wpC_pure h₄
    | ret v => exact wpC_pure h₄
  · have hin : i = n := by omega
    subst hin
    refine wpC_standAt (wpC_bindA (wpAny_onRaise (W.done _ _ _ hst' fun h₂ tk₂ hk₂ => ?_)))
    have F₂ : Fr h₀ L h₂ m' := fr_but F' hk₂ hIL hI₀
    have N₂ : News h₀ L h₂ nw := news_but N' hk₂ fun p hp => off' p hp
    exact wpC_pure (.inr ⟨rfl, codeC_any (codeAny_block (wpAny_execs_nil (fin _ _ _ _ F₂ N₂ hJ')))⟩)
/-- a for loop  -/
theorem forA {target iter : Expr} {body : List Stmt} {pos : Pos} {Q : Flow → Shared → Prop}
    (h : wpAny (model prog w) A (eval iter env) (fun xv s₁ => wpAny (model prog w) A (pyIter xv) (fun it s₂ => Hold (
      ForW (TurnFA prog w A h₀ L env target body Q E) prog w A h₀ L target Q it s₂)) E s₁) E s)
    (hE : PassesOwn (model prog w) A env E) (hs : ∀ x, foldedSetIterable iter env x = pure x := by intro _; rfl) :
    wpAny (model prog w) A (exec (.For target iter body [] pos) env) Q E s := by
  rw [arm_exec_For]
  refine standA (wpAny_bind (wpAny_mono h (fun xv s₁ h₁ => ?_) fun _ _ x => x))
  rw [hs]
  refine wpAny_bind (wpAny_pure (standA (wpAny_bind (wpAny_holding (wpAny_mono h₁ (fun it s₂ h₂ => ?_) fun _ _ x => x)))))
  obtain ⟨I, fp, n, P, St, m, news, J, rfl, W, hIo, hSt, hgo, hst, F, N, hIL, hI₀, off, hJ, step, fin⟩ := h₂
  refine wpAny_runOwn ?_
  refine codeAny_loop' rfl (LoopS h₀ L s₂ I n St J) ?_ (n + 1)
    ⟨s₂.heap, s₂.toks, m, news, 0, rfl, Nat.zero_le _, rfl, hst, F, N, off, hJ⟩
  rintro k s' ⟨h', tk, m', nw, i, rfl, hi, rfl, hst', F', N', off', hJ'⟩
  show wpAny _ _ ((forTurn target (.ref I) body [] env).onRaise (fun x => do noteFrame x env; theTreesLotGoes x)) _ _ _
  refine wpAny_noted ?_
  unfold forTurn
  by_cases hlt : i < n
  · refine standA (wpAny_bind (wpAny_onRaise (W.item i _ _ _ hlt hst' fun v h₂ tk₂ hPv hst₂ hk₂ => ?_)))
    have F₂ : Fr h₀ L h₂ m' := fr_but F' hk₂ hIL hI₀
    have N₂ : News h₀ L h₂ nw := news_but N' hk₂ fun p hp => off' p hp
    obtain ⟨oI, heI⟩ := hIo _ _ hst₂
    have N₃ : News h₀ L h₂ ((I, oI) :: nw) := fun p hp => by
      revert p; refine fa_cons ?_ fun p hp => ?_
      · exact ⟨heI, Ne.symm hIL, hI₀⟩
      · exact N₂ p hp
    dsimp only
    refine wpAny_bind (hgo _ _ _ _ _ hst₂ (wpAny_bind (wpAny_mono (step i v m' nw I oI h₂ tk₂ ⟨hlt, hPv⟩ hJ' F₂ N₃ off') (fun _ s₃ h₃ => wpAny_bind (wpAny_mono h₃ (fun f s₄ h₄ => ?_) hE)) hE)))
    have nx : NextS h₀ L s₂ I oI (J (i + 1)) s₄ → ∃ q, q < n + 1 - i ∧ LoopS h₀ L s₂ I n St J q s₄ := by
      rintro ⟨g₄, tk₄, m₄, nw₄, rfl, F₄, N₄, off₄, hJ₄⟩
      have N₄' : News h₀ L g₄ nw₄ := fun p hp => N₄ p (List.mem_cons_of_mem _ hp)
      exact ⟨n + 1 - (i + 1), ar_step hlt, g₄, tk₄, m₄, nw₄, i + 1, rfl, hlt, rfl, hSt _ _ _ _ _ _ _ hst₂ heI (N₄ (I, oI) List.mem_cons_self).1 F₄.keep N₄' hJ₄, F₄, N₄', off₄, hJ₄⟩
    cases f with
    | next => exact wpAny_pure (.inl ⟨rfl, nx h₄⟩)
    | cont => exact wpAny_pure (.inl ⟨rfl, nx h₄⟩)
    | brk => exact wpAny_pure h₄
    | ret v => exact wpAny_pure h₄
  · have hin : i = n := by omega
    subst hin
    refine standA (wpAny_bind (wpAny_onRaise (W.done _ _ _ hst' fun h₂ tk₂ hk₂ => ?_)))
    have F₂ : Fr h₀ L h₂ m' := fr_but F' hk₂ hIL hI₀
    have N₂ : News h₀ L h₂ nw := news_but N' hk₂ fun p hp => off' p hp
    exact wpAny_pure (.inr ⟨rfl, (codeAny_block (wpAny_execs_nil (fin _ _ _ _ F₂ N₂ hJ')))⟩)
end
end Mine
end TextL1
section TextL2
open PySem PySem.W PyProof.Rows PySem.Calls PySem.Spec
set_option Elab.async false
set_option maxRecDepth 100000
set_option maxHeartbeats 1000000
namespace Mine
open PyProof.Rows.LCg (lst NsObj ns_obj SrcAt list_st fr_but news_but)
/-- a sequence that the ledger holds -/
noncomputable def SeqIn (T : String) (ax : Addr) (its : Array Value) (nw : List (Addr × Obj)) : Prop := ∃ o k, (ax, o) ∈ nw ∧ o.cls = .type T ∧ o.data = .seq its k
theorem SeqIn.tup {h₀ h : Heap} {L ax : Addr} {its : Array Value} {nw : List (Addr × Obj)} (x : SeqIn "tuple" ax its nw) (N : News h₀ L h nw) : h.IsTuple ax its := by
  obtain ⟨o, k, hm, hc, hd⟩ := x
  exact ⟨o, (N _ hm).1, hc, k, hd⟩
theorem SeqIn.list {h₀ h : Heap} {L ax : Addr} {its : Array Value} {nw : List (Addr × Obj)} (x : SeqIn "list" ax its nw) (N : News h₀ L h nw) : h.IsList ax its := by
  obtain ⟨o, k, hm, hc, hd⟩ := x
  exact ⟨o, (N _ hm).1, hc, k, hd⟩
theorem go_tuple {prog : Program} {w : World} {A : Around} {target : Expr} {I ax : Addr} {its : Array Value} {i : Nat} {s' : Shared} {v : Value} {Q : Unit → Shared → Prop} {E : Value → Shared → Prop} (st : s'.heap.IsTupleIter I ax i ∧ s'.heap.IsTuple ax its) (ht : ∀ v, letOwnedTupleGo target (.ref I) v = pure ()) (h : Q () s') : wpAny (model prog w) A (letOwnedTupleGo target (.ref I) v) Q E s' := wpAny_of_eq (ht v) h
/-- what a loop over a sequence of the ledger asks -/
inductive ForL (K : String) (T : (Nat → Value → Prop) → (Nat → (Str → Option Value) → List (Addr × Obj) → Prop) → Shared → Prop) (h₀ : Heap) (L : Addr) (Q : Flow → Shared → Prop) (xv : Value) (s₁ : Shared) : Prop
  | mk (ax : Addr) (its : Array Value) (m : Str → Option Value) (news : List (Addr × Obj)) (J : Nat → (Str → Option Value) → List (Addr × Obj) → Prop)
    (e : xv = .ref ax) (F : Fr h₀ L s₁.heap m) (N : News h₀ L s₁.heap news) (hJ : J 0 m news) (hS : ∀ k m nw, J k m nw → SeqIn K ax its nw)
    (k : ∀ s₂ : Shared, (∃ g, s₂ = { s₁ with heap := g }) → T (fun i v => its[i]? = some v) J s₂ ∧ (∀ h tk m₁ nw, Fr h₀ L h m₁ → News h₀ L h nw → J its.size m₁ nw → Q .next { s₂ with heap := h, toks := tk })) : ForL K T h₀ L Q xv s₁
section
variable {prog : Program} {w : World} {A : Around} {E : Value → Shared → Prop} {s : Shared} {h₀ : Heap} {L : Addr} {env : Env}
theorem forW_tup {T : (Nat → Value → Prop) → (Nat → (Str → Option Value) → List (Addr × Obj) → Prop) → Shared → Prop} {target : Expr} {Q : Flow → Shared → Prop} {xv : Value} {s₁ : Shared} (hh : A.handled = none) (ht : ∀ I v, letOwnedTupleGo target (.ref I) v = pure ())
    (hT : ∀ P P' J s, (∀ i v, P' i v → P i v) → T P J s → T P' J s) (h₁ : ForL "tuple" T h₀ L Q xv s₁) : wpAny (model prog w) A (pyIter xv) (fun it s₂ => Hold (ForW T prog w A h₀ L target Q it s₂)) E s₁ := by
  obtain ⟨ax, its, m, news, J, rfl, F, N, hJ, hS, k⟩ := h₁
  have hl := (hS _ _ _ hJ).tup N
  have hlt : ax < s₁.heap.objs.size := by obtain ⟨_, e, _⟩ := hl; exact Heap.lt_size e
  refine wpAny_pyIter_tuple hl ?_
  have up : ∀ b o, s₁.heap.get? b = some o → (s₁.heap.push { cls := .type "tuple_iterator", data := .fields #[.ref ax, .int 0 0] }).get? b = some o := fun b o e => Heap.get?_push_of_some _ e
  obtain ⟨step, fin⟩ := k { s₁ with heap := s₁.heap.push { cls := .type "tuple_iterator", data := .fields #[.ref ax, .int 0 0] } } ⟨_, rfl⟩
  refine ⟨s₁.heap.objs.size, [s₁.heap.objs.size, ax], its.size, _, _, m, news, J, rfl, Walks.tuple hh s₁.heap.objs.size ax (Nat.ne_of_lt hlt) its, (fun i h st => by obtain ⟨o, e, _⟩ := st.1; exact ⟨o, e⟩),
    (fun i h h' o nw k m st e e' kk NN jj => ⟨by obtain ⟨o', e1, r⟩ := st.1; rw [e] at e1; cases e1; exact ⟨o, e', r⟩, (hS _ _ _ jj).tup NN⟩),
    (fun i s' v Q' E' st q => go_tuple st (ht _) q), ⟨⟨_, Heap.get?_push_size _ rfl, rfl, rfl⟩, hl.push _⟩, F.keeps up, N.grown up, Nat.ne_of_lt F.ns.lt, next_is_new F, (fun p hp => Nat.ne_of_lt (Heap.lt_size (N p hp).1)), hJ, hT _ _ _ _ (fun _ _ z => z.2) step, fin⟩
theorem forW_list {T : (Nat → Value → Prop) → (Nat → (Str → Option Value) → List (Addr × Obj) → Prop) → Shared → Prop} {target : Expr} {Q : Flow → Shared → Prop} {xv : Value} {s₁ : Shared} (hh : A.handled = none)
    (hT : ∀ P P' J s, (∀ i v, P' i v → P i v) → T P J s → T P' J s) (h₁ : ForL "list" T h₀ L Q xv s₁) : wpAny (model prog w) A (pyIter xv) (fun it s₂ => Hold (ForW T prog w A h₀ L target Q it s₂)) E s₁ := by
  obtain ⟨ax, its, m, news, J, rfl, F, N, hJ, hS, k⟩ := h₁
  have hl := (hS _ _ _ hJ).list N
  have hlt : ax < s₁.heap.objs.size := by obtain ⟨_, e, _⟩ := hl; exact Heap.lt_size e
  refine wpAny_pyIter_list hl ?_
  have up : ∀ b o, s₁.heap.get? b = some o → (s₁.heap.push { cls := .type "list_iterator", data := .fields #[.ref ax, .int 0 0] }).get? b = some o := fun b o e => Heap.get?_push_of_some _ e
  obtain ⟨step, fin⟩ := k { s₁ with heap := s₁.heap.push { cls := .type "list_iterator", data := .fields #[.ref ax, .int 0 0] } } ⟨_, rfl⟩
  refine ⟨s₁.heap.objs.size, [s₁.heap.objs.size, ax], its.size, _, _, m, news, J, rfl, Walks.list hh s₁.heap.objs.size ax (Nat.ne_of_lt hlt) its, (fun i h st => by obtain ⟨o, e, _⟩ := st.1; exact ⟨o, e⟩),
    (fun i h h' o nw k m st e e' kk NN jj => ⟨by obtain ⟨o', e1, r⟩ := st.1; rw [e] at e1; cases e1; exact ⟨o, e', r⟩, (hS _ _ _ jj).list NN⟩),
    (fun i s' v Q' E' st q => go_list st q), ⟨⟨_, Heap.get?_push_size _ rfl, rfl, rfl⟩, hl.push _⟩, F.keeps up, N.grown up, Nat.ne_of_lt F.ns.lt, next_is_new F, (fun p hp => Nat.ne_of_lt (Heap.lt_size (N p hp).1)), hJ, hT _ _ _ _ (fun _ _ z => z.2) step, fin⟩
theorem forA_tup {target iter : Expr} {body : List Stmt} {pos : Pos} {Q : Flow → Shared → Prop} (hh : A.handled = none)
    (h : wpAny (model prog w) A (eval iter env) (fun xv s₁ => Hold (ForL "tuple" (TurnFA prog w A h₀ L env target body Q E) h₀ L Q xv s₁)) E s)
    (hE : PassesOwn (model prog w) A env E) (hs : ∀ x, foldedSetIterable iter env x = pure x := by intro _; rfl) (ht : ∀ I v, letOwnedTupleGo target (.ref I) v = pure () := by intro _ _; rfl) :
    wpAny (model prog w) A (exec (.For target iter body [] pos) env) Q E s :=
  forA (h₀ := h₀) (L := L) (wpAny_mono h (fun _ _ h₁ => forW_tup hh ht (fun _ _ _ _ hp t i v m₁ nw I oI h tk hP => t i v m₁ nw I oI h tk (hp _ _ hP)) h₁) fun _ _ x => x) hE hs
theorem forA_list {target iter : Expr} {body : List Stmt} {pos : Pos} {Q : Flow → Shared → Prop} (hh : A.handled = none)
    (h : wpAny (model prog w) A (eval iter env) (fun xv s₁ => Hold (ForL "list" (TurnFA prog w A h₀ L env target body Q E) h₀ L Q xv s₁)) E s)
    (hE : PassesOwn (model prog w) A env E) (hs : ∀ x, foldedSetIterable iter env x = pure x := by intro _; rfl) :
    wpAny (model prog w) A (exec (.For target iter body [] pos) env) Q E s :=
  forA (h₀ := h₀) (L := L) (wpAny_mono h (fun _ _ h₁ => forW_list hh (fun _ _ _ _ hp t i v m₁ nw I oI h tk hP => t i v m₁ nw I oI h tk (hp _ _ hP)) h₁) fun _ _ x => x) hE hs
theorem forC_tup {target iter : Expr} {body : List Stmt} {pos : Pos} {Q : Flow → Shared → Prop} (hh : A.handled = none)
    (h : wpAny (model prog w) A (eval iter env) (fun xv s₁ => Hold (ForL "tuple" (TurnFC prog w A h₀ L env target body Q E) h₀ L Q xv s₁)) E s)
    (hE : PassesOwn (model prog w) A env E) (hs : ∀ x, foldedSetIterable iter env x = pure x := by intro _; rfl) (ht : ∀ I v, letOwnedTupleGo target (.ref I) v = pure () := by intro _ _; rfl) :
    wpC (model prog w) A (exec (.For target iter body [] pos) env) Q E s :=
  forC (h₀ := h₀) (L := L) (wpAny_mono h (fun _ _ h₁ => forW_tup hh ht (fun _ _ _ _ hp t i v m₁ nw I oI h tk hP => t i v m₁ nw I oI h tk (hp _ _ hP)) h₁) fun _ _ x => x) hE hs
theorem forC_list {target iter : Expr} {body : List Stmt} {pos : Pos} {Q : Flow → Shared → Prop} (hh : A.handled = none)
    (h : wpAny (model prog w) A (eval iter env) (fun xv s₁ => Hold (ForL "list" (TurnFC prog w A h₀ L env target body Q E) h₀ L Q xv s₁)) E s)
    (hE : PassesOwn (model prog w) A env E) (hs : ∀ x, foldedSetIterable iter env x = pure x := by intro _; rfl) :
    wpC (model prog w) A (exec (.For target iter body [] pos) env) Q E s :=
  forC (h₀ := h₀) (L := L) (wpAny_mono h (fun _ _ h₁ => forW_list hh (fun _ _ _ _ hp t i v m₁ nw I oI h tk hP => t i v m₁ nw I oI h tk (hp _ _ hP)) h₁) fun _ _ x => x) hE hs
end
end Mine
end TextL2
section TextD1
open PySem PySem.W PyProof.Rows PySem.Calls PySem.Spec
set_option Elab.async false
set_option maxRecDepth 100000
set_option maxHeartbeats 1000000
namespace Mine
section
variable {prog : Program} {w : World} {A : Around} {E : Value → Shared → Prop} {s : Shared} {T : String} {r d : Addr} {n : Nat} {P : Nat → Value → Prop} {OK : Heap → Prop}
/-- collecting out of a dict, its keys or its values -/
theorem collect_src {Q : List Value → Shared → Prop} (K : KdlSrc prog w T r d n P OK) (hh : A.handled = none) (hok : OK s.heap) (hn : n ≤ sizeLine)
    (hQ : ∀ h' tk acc, (∀ b o, s.heap.get? b = some o → h'.get? b = some o) → h'.objs.size ≥ s.heap.objs.size → ItemsOf P acc n → Q acc.toList { s with heap := h', toks := tk }) : wpAny (model prog w) A (collect (.ref r)) Q E s := by
  unfold collect
  refine wpAny_bind (wpAny_runValue (codeAny_builtin F.entry_proto_collect ?_))
  rw [Around.under_plainId F.plain_proto_collect _]
  show wpAny _ A.in1 (newList [] >>= fun l => again (.builtin "list.__iadd__" ⟨[l, .ref r], []⟩)) _ _ s
  refine wpAny_bind (wpAny_newObj_type ?_)
  refine wpAny_pure ⟨plainId_quiet F.plain_list_iadd _, codeAny_builtin F.entry_list_iadd ?_⟩
  rw [Around.under_plainId F.plain_list_iadd _]
  have up : ∀ b o, s.heap.get? b = some o → (s.heap.push { cls := .type "list", data := .seq ([] : List Value).toArray }).get? b = some o := fun b o e => Heap.get?_push_of_some _ e
  have th := K.there _ hok
  show wpAny _ A.in1 (Builtin.List.listExtendWith (.ref s.heap.objs.size) (.ref r) (.ref s.heap.objs.size)) _ _ _
  refine kdl_extend (R := fun r s' => match r with | .ok (.ret v) => wpAny (model prog w) A (match v with | .ref a => (do match (← load a).data with | .seq xs _ => pure xs.toList | _ => unsupported "internal:collect") | _ => unsupported "internal:collect") Q E s' | .ok _ => False | .error e => E e s') (s := { s with heap := s.heap.push { cls := .type "list", data := .seq ([] : List Value).toArray } }) K hh (K.keep _ _ hok fun b _ o e => up b o e) s.heap.objs.size (Ne.symm (Nat.ne_of_lt th.1)) (Ne.symm (Nat.ne_of_lt th.2)) (.ref s.heap.objs.size) 0 (Heap.get?_push_size _ rfl) (fun h' tk acc c k e i => ?_) hn
  refine wpAny_bind (wpAny_load e ?_)
  exact wpAny_pure (hQ h' tk acc (fun b o q => k b o (Nat.ne_of_lt (Heap.lt_size q)) (up b o q)) (Nat.le_of_lt (Heap.lt_size e)) i)
end
section
variable {prog : Program} {w : World} {A : Around} {E : Value → Shared → Prop} {s : Shared} {h₀ : Heap} {L d : Addr} {m : Str → Option Value} {news : List (Addr × Obj)} {o : Obj} {kvs : List (Int × Value)}
theorem items_ints (s : Shared) {acc : Array Value} (i : ItemsOf (fun i v => ∃ k x, kvs[i]? = some (k, x) ∧ (PySem.intKind prog w).is k v = true) acc kvs.length) : IntsAre acc.toList (kvs.map (·.1)) := by
  obtain ⟨hs, hp⟩ := i
  have key : ∀ (l : List Value) (ks : List (Int × Value)), l.length = ks.length → (∀ (j : Nat) v, l[j]? = some v → ∃ k x, ks[j]? = some (k, x) ∧ (PySem.intKind prog w).is k v = true) → IntsAre l (ks.map (·.1)) := by
    intro l
    induction l with
    | nil => intro ks hl _; cases ks with
      | nil => exact .nil
      | cons _ _ => cases hl
    | cons v r ih =>
      intro ks hl hp
      cases ks with
      | nil => cases hl
      | cons q ks =>
        obtain ⟨k, x, e, hk⟩ := hp 0 v rfl
        simp only [List.getElem?_cons_zero, Option.some.injEq] at e
        subst e
        have hv : ∃ t, v = .int k t := by
          have f := kdl_flat_int hk s.heap
          cases f
          exact ⟨_, rfl⟩
        obtain ⟨t, rfl⟩ := hv
        exact .cons _ _ (ih ks (by simpa using hl) fun j v h => hp (j + 1) v h)
  exact key acc.toList kvs (by rw [Array.length_toList, hs]) fun j v h => hp j v (by simpa using h)
/-- sorted() of a dict with int keys -/
theorem sorted_dict {Q : Value → Shared → Prop} (hh : A.handled = none) (F : Fr h₀ L s.heap m) (N : News h₀ L s.heap news) (hp : (d, o) ∈ news) (hd : o.IsDictOf (PySem.intKind prog w) kvs) (lo : (d == sysModules) = false) (h64 : kvs.length < 64)
    (h : ∀ D vs' ns' c h' tk, Fr h₀ L h' m → News h₀ L h' ((D, PySem.W.listOf vs'.toArray c) :: news) → (∀ q ∈ news, q.1 < D) → IntsAre vs' ns' → ns'.Perm (kvs.map (·.1)) → ns'.Pairwise (· ≤ ·) → Q (.ref D) { s with heap := h', toks := tk }) :
    wpAny (model prog w) A (call (.builtin "sorted") [.ref d]) Q E s := by
  obtain ⟨ep, hat⟩ := (kda_dict N hp hd).dictAt
  refine Calls.call_function_entry kind_sorted plain_sorted entry_sorted (args_sorted1 _) ?_
  unfold Builtin.«sorted»
  refine wpAny_bind (m := checkCount "sorted" 1 1 _) (wpAny_pure ?_)
  refine wpAny_bind (collect_src (kdl_dict (knd := PySem.intKind prog w) lo) hh hat (by rw [sizeLine_eq]; omega) fun h₁ tk acc k hsz items => ?_)
  have hI := items_ints s items
  have hlen : acc.toList.length = kvs.length := by rw [hI.length, List.length_map]
  refine wpAny_bind (wpAny_newList ?_)
  have hoL : (h₁.push (seqObj "list" acc.toList.toArray 0)).get? h₁.objs.size = some (seqObj "list" acc.toList.toArray 0) := Heap.get?_push_size _ rfl
  refine wpAny_bind (wpAny_holding (wpAny_call_entry slot_list_sort ⟨_, hoL, rfl⟩ entry_list_sort (list_sort_tree hoL hI (by rw [hlen]; exact h64) fun out ns' a1 a2 a3 => ⟨_, rfl, ?_⟩) (args_list_sort _)))
  refine wpAny_pure ⟨_, rfl, ?_⟩
  have hlt : ∀ b o, s.heap.get? b = some o → b < h₁.objs.size := fun b o e => Heap.lt_size (k b o e)
  have old : ∀ b o, s.heap.get? b = some o → (sortedHeap (h₁.push (seqObj "list" acc.toList.toArray 0)) h₁.objs.size acc.toList out).get? b = some o := fun b o e => by
    rw [sortedHeap_old (Nat.ne_of_lt (hlt b o e)) (by rw [size_push']; exact Nat.lt_succ_of_lt (hlt b o e)), Heap.get?_push_ne _ _ _ (Nat.ne_of_lt (hlt b o e))]
    exact k b o e
  obtain ⟨c, hc⟩ := sortedHeap_at (vs := acc.toList) (out := out) hoL
  exact h _ out.toList ns' c _ _ (F.kept old) (N.kept_cons F old hsz hc) (fun q hq => hlt _ _ (N q hq).1) a1 a2 a3
end
end Mine
end TextD1
section TextR1
open PySem PySem.W PyProof.Rows PySem.Calls PySem.Spec
set_option Elab.async false
set_option maxRecDepth 100000
set_option maxHeartbeats 1000000
namespace Mine
open PyProof.Rows.LCg (lst SrcAt list_st)
theorem fillR1 {w : World} {A : Around} {Q : Value → Shared → Prop} {E : Value → Shared → Prop} {s : Shared} (h : (hd0.heap_1 w.params).In s.heap → wpAny (model PySem.Challenge.rw_pb0182_01.row.prog w) A (call .none []) Q E s) :
    (hd0.heap_1 w.params).In s.heap → wpAny (model PySem.Challenge.rw_pb0182_01.row.prog w) A (call .none []) Q E s := by
  k_fill
  w_top off
  intro hX
  try walk1
  exact h hX
/-- the runs of a row of glyphs -/
noncomputable def runStep (rs : List (Int × Int)) (g : Int) : List (Int × Int) :=
  match rs.getLast? with
  | some r => if r.2 + 1 = g then rs.dropLast ++ [(r.1, g)] else rs ++ [(g, g)]
  | none => [(g, g)]
noncomputable def runs (gs : List Int) : List (Int × Int) := gs.foldl runStep []
theorem runs_length (gs : List Int) : (runs gs).length ≤ gs.length := by
  have key : ∀ (l : List Int) (acc : List (Int × Int)), (l.foldl runStep acc).length ≤ acc.length + l.length := by
    intro l
    induction l with
    | nil => intro acc; exact Nat.le_refl _
    | cons a r ih =>
      intro acc
      rw [List.foldl_cons]
      refine Nat.le_trans (ih _) ?_
      have : (runStep acc a).length ≤ acc.length + 1 := by
        unfold runStep
        split
        · split
          · rw [List.length_append, List.length_dropLast]; simp
          · simp
        · simp
      rw [List.length_cons]; omega
  simpa [runs] using key gs []
theorem runs_snoc (gs : List Int) (g : Int) : runs (gs ++ [g]) = runStep (runs gs) g := by simp [runs]
noncomputable abbrev tup2 (a b : Int) (t u : Tok) : Obj := { cls := .type "tuple", data := .seq #[.int a t, .int b u] }
/-- references to pairs of ints that the ledger holds -/
noncomputable def PairsIn (T : List (Addr × Obj)) (rs : List Value) (ps : List (Int × Int)) : Prop :=
  rs.length = ps.length ∧ ∀ (i : Nat) (a b : Int), ps[i]? = some (a, b) → ∃ x o, rs[i]? = some (Value.ref x) ∧ (x, o) ∈ T ∧ o.cls = .type "tuple" ∧ ∃ t u n, o.data = .seq #[Value.int a t, Value.int b u] n
section
variable {w : World} {p : Program} {loose : List Str} {mean : ExcName → Option Value} {mg mb : Str → Option Value} {A A₀ : Around} {env : Env} {outer : List Env} {base h₀ : Heap} {L : Addr} {m : Str → Option Value} {news rest : List (Addr × Obj)} {s : Shared}
  {Q E : Value → Shared → Prop}
theorem look_one (y a : Str) (v : Value) : List.lookup y [(a, v)] = if y = a then some v else none := by
  by_cases h : y = a
  · subst h; simp
  · rw [if_neg h]; simp [List.lookup, beq_eq_false_iff_ne.mpr h]
theorem upd_upd {m : Str → Option Value} {x : Str} {a b : Option Value} : (fun y => if y = x then a else (fun y => if y = x then b else m y) y) = fun y => if y = x then a else m y := by
  funext y; by_cases h : y = x <;> simp [h]
theorem tup_src {h₀ h : Heap} {L a : Addr} {o : Obj} {its : Array Value} {k : Nat} {nw : List (Addr × Obj)} (N : News h₀ L h nw) (hm : (a, o) ∈ nw) (hc : o.cls = .type "tuple") (hd : o.data = .seq its k) : IsTup h a its := ⟨_, (N _ hm).1, hc, _, hd⟩
theorem truthyL {prog : Program} {l : Addr} {items : Array Value} {b : Bool} {Q : Bool → Shared → Prop} (hl : s.heap.IsList l items) (hfit : items.size ≤ 1000) (hb : (!items.isEmpty) = b)
    (h : Q b { s with toks := s.toks + 1 + 1 }) : wpAny (model prog w) A (truthy (.ref l)) Q E s := wpAny_truthy_list hl (by omega) (hb ▸ h)
theorem itemLast {prog : Program} {value slice : Expr} {l : Addr} {items : List Value} {x : Value} {u : Tok} {Q : Value → Shared → Prop} (hl : s.heap.IsList l (items ++ [x]).toArray) (h : Q x s)
    (hs : subscripted slice false (.ref l) (.int (-1) u) = operate [.ref l, .int (-1) u] (getItem (.ref l) (.int (-1) u)) := by with_unfolding_all rfl) :
    wpAny (model prog w) A (subscriptTail value slice (.ref l) (.int (-1) u)) Q E s :=
  subscriptTail_builtinR hl.typeIs slot_list_getitem.lookup (wpAny_getItem_list_neg (Q := fun r s' => r = x ∧ Q r s') hl (by decide) (by simp; omega) (by decide) (by rw [List.size_toArray, List.length_append]; simp only [List.length_cons, List.length_nil]; rw [show (-1 + ((items.length + (0 + 1) : Nat) : Int)).toNat = items.length by omega]; simp) ⟨rfl, h⟩) hs
theorem pairItem {prog : Program} {value slice : Expr} {x : Addr} {its : Array Value} {v : Value} {k : Int} {u : Tok} {Q : Value → Shared → Prop} (j : Nat) (ht : IsTup s.heap x its) (hlo : -(2 ^ 63) ≤ k) (hhi : k < 2 ^ 63) (hj : seqIndex? k its.size = some j) (hx : its[j]? = some v) (h : Q v s)
    (hs : subscripted slice false (.ref x) (.int k u) = operate [.ref x, .int k u] (getItem (.ref x) (.int k u)) := by with_unfolding_all rfl) :
    wpAny (model prog w) A (subscriptTail value slice (.ref x) (.int k u)) Q E s :=
  subscriptTail_builtinR ht.typeIs slot_tuple_getitem.lookup (getItem_tuple (Q := fun r s' => r = v ∧ Q r s') ht hlo hhi hj hx ⟨rfl, h⟩) hs
theorem setLast {prog : Program} {l : Addr} {items : List Value} {x v : Value} {u : Tok} {n : Nat} {Q : Unit → Shared → Prop} (ho : s.heap.get? l = some (W.listOf (items ++ [x]).toArray n))
    (hQ : ∀ h' n', h'.get? l = some (W.listOf (items ++ [v]).toArray n') → Heap.SameBut l s.heap h' → Q () { s with heap := h' }) : wpAny (model prog w) A (setItem (.ref l) (.int (-1) u) v) Q E s := by
  have hl : s.heap.IsList l (items ++ [x]).toArray := ⟨_, ho, rfl, _, rfl⟩
  have hd : (W.listOf (items ++ [x]).toArray n).data = .seq (items ++ [x]).toArray n := rfl
  unfold setItem
  try with_reducible refine wpAny_holding ?_
  first | refine wpAny_bind (wpAny_pure ?_) | skip
  refine wpAny_bind (wpAny_sequenceKey hl.typeIs (by decide) ?_)
  refine wpAny_bind (wpAny_callSpecial?_slot (name := Str.ofString "__setitem__") hl.typeIs slot_list_setitem
    (wpAny_call_entry slot_list_setitem hl.typeIs entry_list_setitem ?_ (args_list_setitem _ _ _)))
  show wpAny _ _ (Builtin.List.listSubscript? (.int (-1) u) >>= _) _ _ s
  refine wpAny_bind (wpAny_listSubscript_int (fitsIndex_neg (by decide) (by decide)) ?_)
  have hidx : seqIndex? (-1) (items ++ [x]).toArray.size = some items.length := by
    rw [seqIndex_neg (by decide) (by simp; omega)]
    simp
    omega
  have hx' : (items ++ [x]).toArray[items.length]? = some x := by simp
  show wpAny _ _ ((Builtin.List.listItems (.ref l) >>= fun xs => pure ((seqIndex? (-1) xs.size).bind fun i => xs[i]?.map (i, ·))) >>= _) _ _ s
  refine wpAny_bind (wpAny_bind ?_)
  show wpAny _ _ (seqItems? (.ref l) >>= _) _ _ s
  refine wpAny_bind (wpAny_seqItems ho hd (wpAny_pure (wpAny_pure ?_)))
  rw [hidx]
  simp only [Option.bind_some, hx', Option.map_some]
  obtain ⟨n', hd'⟩ := Obj.data_mapSeq hd (·.setIfInBounds items.length v)
  have hfin : (s.heap.update l (Obj.mapSeq (·.setIfInBounds items.length v))).get? l = some (Obj.mapSeq (·.setIfInBounds items.length v) (W.listOf (items ++ [x]).toArray n)) := Heap.get?_update_self _ ho (Obj.isFreed_of_seq hd')
  have he : (items ++ [x]).toArray.setIfInBounds items.length v = (items ++ [v]).toArray := by simp
  have hm : ∃ n', Obj.mapSeq (·.setIfInBounds items.length v) (W.listOf (items ++ [x]).toArray n) = W.listOf (items ++ [v]).toArray n' := ⟨_, by rw [← he]; rfl⟩
  obtain ⟨n₂, hm⟩ := hm
  refine wpAny_bind (wpAny_setSeqItemAt ho hd ?_)
  exact wpAny_pure ⟨.none, rfl, wpAny_pure (hQ _ n₂ (hm ▸ hfin) (Heap.SameBut.update ..))⟩
/-- a pair more -/
theorem PairsIn.snoc {T : List (Addr × Obj)} {rs : List Value} {ps : List (Int × Int)} {x : Addr} {o : Obj} {a b : Int} {t u : Tok} {n : Nat} (P : PairsIn T rs ps) (hc : o.cls = .type "tuple") (hd : o.data = .seq #[.int a t, .int b u] n) :
    PairsIn ((x, o) :: T) (rs ++ [.ref x]) (ps ++ [(a, b)]) := by
  refine ⟨by simp [P.1], fun i a' b' h => ?_⟩
  rcases Nat.lt_or_ge i ps.length with hi | hi
  · rw [List.getElem?_append_left hi] at h
    try k_fold
    obtain ⟨y, oy, e1, e2, r⟩ := P.2 i a' b' h
    exact ⟨y, oy, by rw [List.getElem?_append_left (by rw [P.1]; exact hi)]; exact e1, .tail _ e2, r⟩
  · rw [List.getElem?_append_right hi] at h
    have hz : i - ps.length = 0 := by
      rcases Nat.eq_zero_or_pos (i - ps.length) with z | z
      · exact z
      · rw [List.getElem?_eq_none (by simp; omega)] at h; cases h
    rw [hz] at h
    simp only [List.getElem?_cons_zero, Option.some.injEq, Prod.mk.injEq] at h
    obtain ⟨rfl, rfl⟩ := h
    exact ⟨x, o, by rw [List.getElem?_append_right (by rw [P.1]; exact hi), P.1, hz]; rfl, .head _, hc, t, u, n, hd⟩
theorem PairsIn.front {T : List (Addr × Obj)} {rs : List Value} {ps : List (Int × Int)} {v : Value} (P : PairsIn T (rs ++ [v]) ps) : PairsIn T rs ps.dropLast := by
  have hl := P.1
  rw [List.length_append] at hl
  simp only [List.length_cons, List.length_nil] at hl
  refine ⟨by rw [List.length_dropLast]; omega, fun i a b h => ?_⟩
  have hi : i < ps.dropLast.length := by
    rcases Nat.lt_or_ge i ps.dropLast.length with z | z
    · exact z
    · rw [List.getElem?_eq_none z] at h; cases h
  rw [List.length_dropLast] at hi
  rw [List.getElem?_dropLast, if_pos hi] at h
  try k_fold
  obtain ⟨y, oy, e1, r⟩ := P.2 i a b h
  rw [List.getElem?_append_left (by omega)] at e1
  exact ⟨y, oy, e1, r⟩
noncomputable def RJ (lr tg : Addr) (gs : List Int) (news : List (Addr × Obj)) (i : Nat) (m : Str → Option Value) (nw : List (Addr × Obj)) : Prop :=
  (∃ v : Option Value, m = fun y => if y = ("glyph" : Str) then v else if y = ("ranges" : Str) then some (Value.ref lr) else if y = ("glyphs" : Str) then some (Value.ref tg) else none) ∧
  ∃ rs T n, nw = (lr, W.listOf rs.toArray n) :: (T ++ news) ∧ (∀ p ∈ T ++ news, p.1 ≠ lr) ∧ (∀ p ∈ T, ∀ q ∈ news, p.1 ≠ q.1) ∧ PairsIn T rs (runs (gs.take i))
theorem RJ.more {g' h₅ : Heap} {L' lr tg D I : Addr} {gs : List Int} {i n nD : Nat} {v : Option Value} {rs : List Value} {T : List (Addr × Obj)} {oD oI : Obj} {a b : Int} {t u : Tok} {ps : List (Int × Int)}
    (N : News g' L' h₅ ((D, oD) :: (I, oI) :: (lr, W.listOf (rs ++ [Value.ref D]).toArray n) :: (T ++ news))) (offI : ∀ p ∈ T ++ news, p.1 ≠ I) (hIl : lr ≠ I) (offl : ∀ p ∈ T ++ news, p.1 ≠ lr) (offT : ∀ p ∈ T, ∀ q ∈ news, p.1 ≠ q.1)
    (h1 : I < D) (h2 : lr < D) (h3 : AllLt D (T ++ news)) (hc : oD.cls = .type "tuple") (hd : oD.data = .seq #[.int a t, .int b u] nD) (P : PairsIn T rs ps) (hr : runs (gs.take (i + 1)) = ps ++ [(a, b)]) :
    ∃ nw', News g' L' h₅ ((I, oI) :: nw') ∧ (∀ p ∈ nw', p.1 ≠ I) ∧ RJ lr tg gs news (i + 1) (fun y => if y = ("glyph" : Str) then v else if y = ("ranges" : Str) then some (Value.ref lr) else if y = ("glyphs" : Str) then some (Value.ref tg) else none) nw' := by
  have lt : ∀ p ∈ T ++ news, p.1 < D := by
    have : ∀ l : List (Addr × Obj), AllLt D l → ∀ p ∈ l, p.1 < D := by
      intro l
      induction l with
      | nil => intro _ p hp; cases hp
      | cons q r ih =>
        intro z p hp
        revert p; refine fa_cons ?_ fun p hp => ?_
        · exact z.1
        · exact ih z.2 p hp
    exact this _ h3
  refine ⟨(lr, W.listOf (rs ++ [Value.ref D]).toArray n) :: (((D, oD) :: T) ++ news), fun p hp => N p ?_, fun p hp => ?_, ⟨v, rfl⟩, rs ++ [Value.ref D], (D, oD) :: T, n, rfl, fun p hp => ?_, fun p hp q hq => ?_, hr ▸ P.snoc hc hd⟩
  · revert p; refine fa_cons ?_ fun p hp => ?_
    · exact .tail _ (.head _)
    · revert p; refine fa_cons ?_ fun p hp => ?_
      · exact .tail _ (.tail _ (.head _))
      · revert p; refine fa_cons ?_ fun p hp => ?_
        · exact .head _
        · exact .tail _ (.tail _ (.tail _ hp))
  · revert p; refine fa_cons ?_ fun p hp => ?_
    · exact hIl
    · revert p; refine fa_cons ?_ fun p hp => ?_
      · exact Ne.symm (Nat.ne_of_lt h1)
      · exact offI p hp
  · revert p; refine fa_cons ?_ fun p hp => ?_
    · exact Ne.symm (Nat.ne_of_lt h2)
    · exact offl p hp
  · revert p; refine fa_cons ?_ fun p hp => ?_
    · exact Ne.symm (Nat.ne_of_lt (lt q (List.mem_append.mpr (.inr hq))))
    · exact offT p hp q hq
end
section
noncomputable def P_ranges_ok (w : World) (p : Program) (loose : List Str) (mean : ExcName → Option Value) (mg : Str → Option Value) (mb : Str → Option Value) (A : Around) (A₀ : Around) (env : Env) (outer : List Env) (base : Heap) (h₀ : Heap) (L : Addr) (m : Str → Option Value) (news : List (Addr × Obj)) (s : Shared) (Q : Value → Shared → Prop) (E : Value → Shared → Prop) (tg : Addr) (og : Obj) (vs : List Value) (gs : List Int) (k : Nat) : Prop := ∀ (C : Cx w p loose mean mg mb A A₀ env outer base h₀ L) (F : Fr h₀ L s.heap m) (N : News h₀ L s.heap news) (htg : (tg, og) ∈ news) (hoc : og.cls = .type "tuple") (hod : og.data = .seq vs.toArray k) (hi : IntsAre vs gs) (hlen : gs.length ≤ 1000) (hd : A.depth ≤ 880) (hu : A.units ≤ 4800) (hret : ∀ lr rs T kk h' tk', Fr h₀ L h' m → News h₀ L h' ((lr, ({ cls := .type "list", data := .seq rs.toArray kk } : Obj)) :: (T ++ news)) → (∀ p ∈ T ++ news, p.1 ≠ lr) → (∀ p ∈ T, ∀ q ∈ news, p.1 ≠ q.1) → PairsIn T rs (runs gs) → Q (.ref lr) { s with heap := h', toks := tk' }),
    wpAny (model PySem.Challenge.rw_pb0182_01.row.prog w) A (call (.ref 228) [.ref tg]) Q E s
noncomputable def c_ranges_ok := @Classical.epsilon ((World) × (Program) × (List Str) × (ExcName → Option Value) × (Str → Option Value) × (Str → Option Value) × (Around) × (Around) × (Env) × (List Env) × (Heap) × (Heap) × (Addr) × (Str → Option Value) × (List (Addr × Obj)) × (Shared) × (Value → Shared → Prop) × (Value → Shared → Prop) × (Addr) × (Obj) × (List Value) × (List Int) × (Nat)) ⟨(wDef, default, [], fun _ => none, fun _ => none, fun _ => none, callerA, callerA, default, [], default, default, 0, fun _ => none, [], (PySem.start default).1, fun _ _ => True, fun _ _ => True, 0, default, [], [], 0)⟩ fun v => ¬ P_ranges_ok v.1 v.2.1 v.2.2.1 v.2.2.2.1 v.2.2.2.2.1 v.2.2.2.2.2.1 v.2.2.2.2.2.2.1 v.2.2.2.2.2.2.2.1 v.2.2.2.2.2.2.2.2.1 v.2.2.2.2.2.2.2.2.2.1 v.2.2.2.2.2.2.2.2.2.2.1 v.2.2.2.2.2.2.2.2.2.2.2.1 v.2.2.2.2.2.2.2.2.2.2.2.2.1 v.2.2.2.2.2.2.2.2.2.2.2.2.2.1 v.2.2.2.2.2.2.2.2.2.2.2.2.2.2.1 v.2.2.2.2.2.2.2.2.2.2.2.2.2.2.2.1 v.2.2.2.2.2.2.2.2.2.2.2.2.2.2.2.2.1 v.2.2.2.2.2.2.2.2.2.2.2.2.2.2.2.2.2.1 v.2.2.2.2.2.2.2.2.2.2.2.2.2.2.2.2.2.2.1 v.2.2.2.2.2.2.2.2.2.2.2.2.2.2.2.2.2.2.2.1 v.2.2.2.2.2.2.2.2.2.2.2.2.2.2.2.2.2.2.2.2.1 v.2.2.2.2.2.2.2.2.2.2.2.2.2.2.2.2.2.2.2.2.2.1 v.2.2.2.2.2.2.2.2.2.2.2.2.2.2.2.2.2.2.2.2.2.2
namespace K_ranges_ok
@[irreducible] noncomputable def w : World := c_ranges_ok.1
@[irreducible] noncomputable def p : Program := c_ranges_ok.2.1
@[irreducible] noncomputable def loose : List Str := c_ranges_ok.2.2.1
@[irreducible] noncomputable def mean : ExcName → Option Value := c_ranges_ok.2.2.2.1
@[irreducible] noncomputable def mg : Str → Option Value := c_ranges_ok.2.2.2.2.1
@[irreducible] noncomputable def mb : Str → Option Value := c_ranges_ok.2.2.2.2.2.1
@[irreducible] noncomputable def A : Around := c_ranges_ok.2.2.2.2.2.2.1
@[irreducible] noncomputable def A₀ : Around := c_ranges_ok.2.2.2.2.2.2.2.1
@[irreducible] noncomputable def env : Env := c_ranges_ok.2.2.2.2.2.2.2.2.1
@[irreducible] noncomputable def outer : List Env := c_ranges_ok.2.2.2.2.2.2.2.2.2.1
@[irreducible] noncomputable def base : Heap := c_ranges_ok.2.2.2.2.2.2.2.2.2.2.1
@[irreducible] noncomputable def h₀ : Heap := c_ranges_ok.2.2.2.2.2.2.2.2.2.2.2.1
@[irreducible] noncomputable def L : Nat := c_ranges_ok.2.2.2.2.2.2.2.2.2.2.2.2.1
@[irreducible] noncomputable def m : Str → Option Value := c_ranges_ok.2.2.2.2.2.2.2.2.2.2.2.2.2.1
@[irreducible] noncomputable def news : List (Addr × Obj) := c_ranges_ok.2.2.2.2.2.2.2.2.2.2.2.2.2.2.1
@[irreducible] noncomputable def s : Shared := c_ranges_ok.2.2.2.2.2.2.2.2.2.2.2.2.2.2.2.1
@[irreducible] noncomputable def Q : Value → Shared → Prop := c_ranges_ok.2.2.2.2.2.2.2.2.2.2.2.2.2.2.2.2.1
@[irreducible] noncomputable def E : Value → Shared → Prop := c_ranges_ok.2.2.2.2.2.2.2.2.2.2.2.2.2.2.2.2.2.1
@[irreducible] noncomputable def tg : Nat := c_ranges_ok.2.2.2.2.2.2.2.2.2.2.2.2.2.2.2.2.2.2.1
@[irreducible] noncomputable def og : Obj := c_ranges_ok.2.2.2.2.2.2.2.2.2.2.2.2.2.2.2.2.2.2.2.1
@[irreducible] noncomputable def vs : List Value := c_ranges_ok.2.2.2.2.2.2.2.2.2.2.2.2.2.2.2.2.2.2.2.2.1
@[irreducible] noncomputable def gs : List Int := c_ranges_ok.2.2.2.2.2.2.2.2.2.2.2.2.2.2.2.2.2.2.2.2.2.1
@[irreducible] noncomputable def k : Nat := c_ranges_ok.2.2.2.2.2.2.2.2.2.2.2.2.2.2.2.2.2.2.2.2.2.2
noncomputable def body : { P : Heap → Addr → Heap → Prop // ∀ (C : Cx w p loose mean mg mb A A₀ env outer base h₀ L) (F : Fr h₀ L s.heap m) (N : News h₀ L s.heap news) (htg : (tg, og) ∈ news) (hoc : og.cls = .type "tuple") (hod : og.data = .seq vs.toArray k) (hi : IntsAre vs gs) (hlen : gs.length ≤ 1000) (hd : A.depth ≤ 880) (hu : A.units ≤ 4800) (hret : ∀ lr rs T kk h' tk', Fr h₀ L h' m → News h₀ L h' ((lr, ({ cls := .type "list", data := .seq rs.toArray kk } : Obj)) :: (T ++ news)) → (∀ p ∈ T ++ news, p.1 ≠ lr) → (∀ p ∈ T, ∀ q ∈ news, p.1 ≠ q.1) → PairsIn T rs (runs gs) → Q (.ref lr) { s with heap := h', toks := tk' }), (∀ g' L' h₁, P g' L' h₁) →
    wpAny (model PySem.Challenge.rw_pb0182_01.row.prog w) A (call (.ref 228) [.ref tg]) Q E s } := by
  refine' ⟨_, _⟩
  rotate_left
  intro C F N htg hoc hod hi hlen hd hu hret hBody
  refine wpAny_call ?_
  k_dflt (refine' enter_plain C F N ?k6 ?k7 ?k8 ?k9 ?kB ?_ ?c2 ?c3 ?c4 ?c5)
  case k6 => k_is
  case k7 => k_is
  case k8 => exact Nat.lt_of_le_of_lt hd (by decide)
  case k9 => exact BindsTo.of_eq rfl
  case c5 => decide
  case kB => exact locs rfl
  case c2 => exact rfl
  case c3 => exact rfl
  case c4 => exact rfl
  exact hBody
noncomputable def PB (v : Heap × Addr × Heap) : Prop := ∀ (C : Cx w p loose mean mg mb A A₀ env outer base h₀ L) (F : Fr h₀ L s.heap m) (N : News h₀ L s.heap news) (htg : (tg, og) ∈ news) (hoc : og.cls = .type "tuple") (hod : og.data = .seq vs.toArray k) (hi : IntsAre vs gs) (hlen : gs.length ≤ 1000) (hd : A.depth ≤ 880) (hu : A.units ≤ 4800) (hret : ∀ lr rs T kk h' tk', Fr h₀ L h' m → News h₀ L h' ((lr, ({ cls := .type "list", data := .seq rs.toArray kk } : Obj)) :: (T ++ news)) → (∀ p ∈ T ++ news, p.1 ≠ lr) → (∀ p ∈ T, ∀ q ∈ news, p.1 ≠ q.1) → PairsIn T rs (runs gs) → Q (.ref lr) { s with heap := h', toks := tk' }), body.1 v.1 v.2.1 v.2.2
noncomputable def cb := @Classical.epsilon (Heap × Addr × Heap) ⟨(default, 0, default)⟩ fun v => ¬ PB v
@[irreducible] noncomputable def g' : Heap := cb.1
@[irreducible] noncomputable def L' : Nat := cb.2.1
@[irreducible] noncomputable def h₁ : Heap := cb.2.2
theorem inner : PB (g', L', h₁) := by
  have st0 : Stop "truthy ref" := .mk
  have st1 : Stop "subscriptTail" := .mk
  have st2 : Stop "setItem" := .mk
  have st3 : Stop "call builtin:list.append" := .mk
  have st4 : Stop "exec For Name Name cons nil" := .mk
  unfold PB
  intro C F N htg hoc hod hi hlen hd hu hret
  delta body
  dsimp only
  intro C₁ F₁ N₁ G₁ l1
  try k_fold
  have X₁ := C₁.X
  have T₁ := C₁.T
  have B₁ := C₁.B
  first | (refine foldA ?_; intro qC eC) | (refine foldC ?_; intro qC eC)
  k_steps
  rename_i lr hA l2 hB FB NB
  have hlen' := hi.length
  refine Hold.go (forA_tup (h₀ := g') (L := L') C₁.hh ?_ (by passes_own))
  k_steps
  refine Hold.go ⟨tg, vs.toArray, _, (lr, W.listOf #[] 0) :: news, RJ lr tg gs news , rfl, by assumption, NB, ?_, ?_, ?_⟩
  · refine ⟨⟨none, ?_⟩, [], [], 0, rfl, fun p hp => Nat.ne_of_lt (l2 p hp), (fun p hp => by cases hp), rfl, fun i a b h => by cases h⟩
    funext y
    show (if y = ("ranges" : Str) then some (Value.ref lr) else List.lookup y [("glyphs", Value.ref tg)]) = _
    rw [look_one]
    by_cases h : y = ("glyph" : Str)
    · subst h; rfl
    · rw [if_neg h]
  · intro k m nw hp1
    try k_fold
    obtain ⟨_, rs, T, n, rfl, _⟩ := hp1
    exact ⟨og, _, .tail _ (List.mem_append.mpr (.inr htg)), hoc, hod⟩
  · rintro s₂ ⟨g₂, rfl⟩
    refine ⟨?_, ?_⟩
    · intro i v m₁ nw I oI h tk hv hp1 F₂ N₂ offI
      try k_fold
      obtain ⟨⟨v0, rfl⟩, rs, T, nl, rfl, offl, offT, P⟩ := hp1
      try k_fold
      obtain ⟨gl, t, rfl, hg⟩ := IntsAre.at hi i v (by simpa using hv)
      have hs : rs.length ≤ 1000 := by rw [P.1]; exact Nat.le_trans (runs_length _) (Nat.le_trans (List.length_take_le' ..) hlen)
      k_steps
      rename News _ _ _ _ => N₃
      rcases List.eq_nil_or_concat rs with rfl | ⟨r', x, rfl⟩
      · refine Hold.go (truthyL (b := false) ⟨_, (N₃ _ (.tail _ (.head _))).1, rfl, _, rfl⟩ (by rw [List.size_toArray]; omega) rfl ?_)
        k_steps
        rename News _ _ _ _ => N₄
        rename Fr _ _ _ _ => F₄
        rename _ ∧ _ ∧ AllLt _ _ => lD
        try k_fold
        obtain ⟨lD1, lD2, lD3⟩ := lD
        have offI' : I ≠ lr := fun e => offI _ (.head _) e.symm
        refine Hold.go (append_K F₄ N₄ (.tail (Ne.symm (Nat.ne_of_lt lD2)) (.tail offI' (.head offl))) fun h₅ F₅ N₅ => ?_)
        k_steps
        dsimp only
        try k_fold
        obtain ⟨nw', a1, a2, a3⟩ := RJ.more (v := some (Value.int gl t)) (tg := tg) (gs := gs) (i := i) (rs := []) N₅ (fun p hp => offI p (.tail _ hp)) (Ne.symm offI') offl offT lD1 lD2 lD3 rfl rfl P (by
          rw [List.take_add_one, hg]
          show runs (List.take i gs ++ [gl]) = _
          rw [runs_snoc]
          have := P.1
          have e : runs (gs.take i) = [] := List.length_eq_zero_iff.mp (by simpa using this.symm)
          rw [e]; rfl)
        exact Hold.go ⟨h₅, _, _, nw', rfl, upd_upd ▸ F₅, a1, a2, a3⟩
      · rw [List.concat_eq_append] at *
        refine Hold.go (truthyL (b := true) ⟨_, (N₃ _ (.tail _ (.head _))).1, rfl, _, rfl⟩ (by rw [List.size_toArray]; omega) (by simp) ?_)
        k_steps
        refine Hold.go (itemLast ⟨_, (N₃ _ (.tail _ (.head _))).1, rfl, _, rfl⟩ ?_)
        obtain ⟨a, b, ha⟩ : ∃ a b, (runs (gs.take i))[r'.length]? = some (a, b) := by
          have := P.1
          rw [List.length_append] at this
          exact ⟨_, _, List.getElem?_eq_getElem (by simp at this; omega)⟩
        try k_fold
        obtain ⟨xa, xo, hx1, hx2, hx3, ta, tb, kx, hx4⟩ := P.2 _ _ _ ha
        rw [List.getElem?_append_right (Nat.le_refl _)] at hx1
        simp only [Nat.sub_self, List.getElem?_cons_zero, Option.some.injEq] at hx1
        subst hx1
        have hxm : (xa, xo) ∈ T ++ news := List.mem_append.mpr (.inl hx2)
        have hxt : IsTup _ xa _ := tup_src N₃ (.tail _ (.tail _ hxm)) hx3 hx4
        k_steps
        refine Hold.go (pairItem (v := .int b tb) 1 hxt (by decide) (by decide) (by rfl) (by rfl) ?_)
        k_steps
        · rename _ + 1 = _ => hbg
          refine Hold.go (itemLast ⟨_, (N₃ _ (.tail _ (.head _))).1, rfl, _, rfl⟩ ?_)
          k_steps
          refine Hold.go (pairItem (v := .int a ta) 0 hxt (by decide) (by decide) (by rfl) (by rfl) ?_)
          k_steps
          rename News _ _ _ _ => N₄
          rename Fr _ _ _ _ => F₄
          rename _ ∧ _ ∧ AllLt _ _ => lD
          try k_fold
          obtain ⟨lD1, lD2, lD3⟩ := lD
          refine Hold.go (setLast (N₄ _ (.tail _ (.tail _ (.head _)))).1 fun h₅ n₅ e₅ sb => ?_)
          have zl := N₄ _ (.tail _ (.tail _ (.head _)))
          have F₅ := F₄.change sb zl.2.1 zl.2.2
          have N₅ : News g' L' h₅ ((_, _) :: (I, oI) :: (lr, W.listOf (r' ++ [_]).toArray n₅) :: (T ++ news)) := fun p hp => by
            revert p; refine fa_cons ?_ fun p hp => ?_
            · exact ⟨sb.extBut _ _ (Ne.symm (Nat.ne_of_lt lD2)) (N₄ _ (.head _)).1, (N₄ _ (.head _)).2⟩
            · revert p; refine fa_cons ?_ fun p hp => ?_
              · exact ⟨sb.extBut _ _ (Ne.symm (offI _ (.head _))) (N₄ _ (.tail _ (.head _))).1, (N₄ _ (.tail _ (.head _))).2⟩
              · revert p; refine fa_cons ?_ fun p hp => ?_
                · exact ⟨e₅, zl.2⟩
                · exact ⟨sb.extBut _ _ (offl _ hp) (N₄ _ (.tail _ (.tail _ (.tail _ hp)))).1, (N₄ _ (.tail _ (.tail _ (.tail _ hp)))).2⟩
          try k_fold
          obtain ⟨nw', a1, a2, a3⟩ := RJ.more (v := some (Value.int gl t)) (tg := tg) (gs := gs) (i := i) (rs := r') N₅ (fun p hp => offI p (.tail _ hp)) (offI _ (.head _)) offl offT lD1 lD2 lD3 rfl rfl P.front (by
            rw [List.take_add_one, hg]
            show runs (List.take i gs ++ [gl]) = _
            rw [runs_snoc]
            unfold runStep
            have hlast : (runs (List.take i gs)).getLast? = some (a, b) := by
              rw [List.getLast?_eq_getElem?, ← ha]
              have := P.1
              rw [List.length_append] at this
              simp only [List.length_cons, List.length_nil] at this
              rw [← this]; rfl
            rw [hlast]
            dsimp only
            rw [if_pos hbg])
          k_steps
          dsimp only
          exact Hold.go ⟨h₅, _, _, nw', rfl, upd_upd ▸ F₅, a1, a2, a3⟩
        · rename ¬ _ => hbg
          rename News _ _ _ _ => N₄
          rename Fr _ _ _ _ => F₄
          rename _ ∧ _ ∧ AllLt _ _ => lD
          try k_fold
          obtain ⟨lD1, lD2, lD3⟩ := lD
          refine Hold.go (append_K F₄ N₄ (.tail (Ne.symm (Nat.ne_of_lt lD2)) (.tail (Ne.symm (offI _ (.head _))) (.head offl))) fun h₅ F₅ N₅ => ?_)
          have hpush : ∀ v : Value, (r' ++ [Value.ref xa]).toArray.push v = ((r' ++ [Value.ref xa]) ++ [v]).toArray := fun v => by simp
          rw [hpush] at N₅
          try k_fold
          obtain ⟨nw', a1, a2, a3⟩ := RJ.more (v := some (Value.int gl t)) (tg := tg) (gs := gs) (i := i) (rs := r' ++ [Value.ref xa]) N₅ (fun p hp => offI p (.tail _ hp)) (offI _ (.head _)) offl offT lD1 lD2 lD3 rfl rfl P (by
            rw [List.take_add_one, hg]
            show runs (List.take i gs ++ [gl]) = _
            rw [runs_snoc]
            unfold runStep
            have hlast : (runs (List.take i gs)).getLast? = some (a, b) := by
              rw [List.getLast?_eq_getElem?, ← ha]
              have := P.1
              rw [List.length_append] at this
              simp only [List.length_cons, List.length_nil] at this
              rw [← this]; rfl
            rw [hlast]
            dsimp only
            rw [if_neg hbg])
          k_steps
          dsimp only
          exact Hold.go ⟨h₅, _, _, nw', rfl, upd_upd ▸ F₅, a1, a2, a3⟩
    · intro h tk m₁ nw F₂ N₂ hp1
      try k_fold
      obtain ⟨⟨v0, rfl⟩, rs, T, nl, rfl, offl, offT, P⟩ := hp1
      simp only [List.size_toArray, hlen', List.take_length] at P
      k_steps
      exact ⟨_, _, _, by assumption, N₂, fun Ff Nf => hret lr rs T _ _ _ Ff Nf offl offT P⟩
theorem core : P_ranges_ok w p loose mean mg mb A A₀ env outer base h₀ L m news s Q E tg og vs gs k := by
  unfold P_ranges_ok
  intro C F N htg hoc hod hi hlen hd hu hret
  exact body.2 C F N htg hoc hod hi hlen hd hu hret fun g' L' h₁ => eps_all (P := PB) (by with_unfolding_all exact inner) (g', L', h₁) C F N htg hoc hod hi hlen hd hu hret
end K_ranges_ok
theorem ranges_ok {w : World} {p : Program} {loose : List Str} {mean : ExcName → Option Value} {mg : Str → Option Value} {mb : Str → Option Value} {A : Around} {A₀ : Around} {env : Env} {outer : List Env} {base : Heap} {h₀ : Heap} {L : Addr} {m : Str → Option Value} {news : List (Addr × Obj)} {s : Shared} {Q : Value → Shared → Prop} {E : Value → Shared → Prop} {tg : Addr} {og : Obj} {vs : List Value} {gs : List Int} {k : Nat} (C : Cx w p loose mean mg mb A A₀ env outer base h₀ L) (F : Fr h₀ L s.heap m) (N : News h₀ L s.heap news) (htg : (tg, og) ∈ news) (hoc : og.cls = .type "tuple") (hod : og.data = .seq vs.toArray k) (hi : IntsAre vs gs) (hlen : gs.length ≤ 1000) (hd : A.depth ≤ 880) (hu : A.units ≤ 4800) (hret : ∀ lr rs T kk h' tk', Fr h₀ L h' m → News h₀ L h' ((lr, ({ cls := .type "list", data := .seq rs.toArray kk } : Obj)) :: (T ++ news)) → (∀ p ∈ T ++ news, p.1 ≠ lr) → (∀ p ∈ T, ∀ q ∈ news, p.1 ≠ q.1) → PairsIn T rs (runs gs) → Q (.ref lr) { s with heap := h', toks := tk' }) :
    wpAny (model PySem.Challenge.rw_pb0182_01.row.prog w) A (call (.ref 228) [.ref tg]) Q E s :=
  eps_all (P := fun v => P_ranges_ok v.1 v.2.1 v.2.2.1 v.2.2.2.1 v.2.2.2.2.1 v.2.2.2.2.2.1 v.2.2.2.2.2.2.1 v.2.2.2.2.2.2.2.1 v.2.2.2.2.2.2.2.2.1 v.2.2.2.2.2.2.2.2.2.1 v.2.2.2.2.2.2.2.2.2.2.1 v.2.2.2.2.2.2.2.2.2.2.2.1 v.2.2.2.2.2.2.2.2.2.2.2.2.1 v.2.2.2.2.2.2.2.2.2.2.2.2.2.1 v.2.2.2.2.2.2.2.2.2.2.2.2.2.2.1 v.2.2.2.2.2.2.2.2.2.2.2.2.2.2.2.1 v.2.2.2.2.2.2.2.2.2.2.2.2.2.2.2.2.1 v.2.2.2.2.2.2.2.2.2.2.2.2.2.2.2.2.2.1 v.2.2.2.2.2.2.2.2.2.2.2.2.2.2.2.2.2.2.1 v.2.2.2.2.2.2.2.2.2.2.2.2.2.2.2.2.2.2.2.1 v.2.2.2.2.2.2.2.2.2.2.2.2.2.2.2.2.2.2.2.2.1 v.2.2.2.2.2.2.2.2.2.2.2.2.2.2.2.2.2.2.2.2.2.1 v.2.2.2.2.2.2.2.2.2.2.2.2.2.2.2.2.2.2.2.2.2.2) (by with_unfolding_all exact K_ranges_ok.core) (w, p, loose, mean, mg, mb, A, A₀, env, outer, base, h₀, L, m, news, s, Q, E, tg, og, vs, gs, k) C F N htg hoc hod hi hlen hd hu hret
end
end Mine
end TextR1
section TextK1
open PySem PySem.W PyProof.Rows PySem.Calls PySem.Spec
set_option Elab.async false
set_option maxRecDepth 100000
set_option maxHeartbeats 1000000
namespace Mine
open PyProof.Rows.LCg (lst NsObj ns_obj lst_snoc fr_but news_but SrcAt list_st)
section
variable {M : Model} {A : Around} {E : Value → Shared → Prop} {s : Shared} {env : Env}
theorem wpC_standIf {α : Type} {c : Prop} [Decidable c] {pos : Pos} {k : PUnit → Sem α} {Q : α → Shared → Prop} (h : wpC M A (k ()) Q E s) :
    wpC M A (if c then (standAt pos >>= k) else k ()) Q E s := by
  split
  · exact wpC_standAt h
  · exact h
theorem comprehensionC {e : Expr} {scope : Scope} {pos : Pos} {newAcc first : Sem Value} {g : Comprehension} {gs : List Comprehension} {cl : List (Str × Addr)}
    {Q : Value → Shared → Prop}
    (hcl : clausesOf e = g :: gs) (hs : ∀ x, foldedSetIterable g.iter env x = pure x) (hclos : closureFor scope env = pure cl)
    (hkind : scope.kind = .function) (hnames : ∀ x ∈ scope.names, x.2 = .local → scope.names.lookup x.1 = some .local)
    (h : wpAny M A first (fun x s₁ => wpAny M A (pyIter x) (fun it s₂ => wpAny M A newAcc (fun acc s₃ =>
      wpAny M A (newFunctionEnv scope env.globals cl [] env.qual none .none (some env)) (fun cenv s₄ =>
        codeC M A (.compStart e 0 it acc { cenv with scope := relabel scope env }) (compPost M A E none Q acc cenv.locals) s₄) E s₃) E s₂) E s₁) E s) :
    wpC M A (comprehension e scope env pos newAcc false first none) Q E s := by
  unfold comprehension
  rw [hclos, hcl]
  refine wpC_bindA (wpAny_mono h (fun x s₁ h₁ => wpC_standAt (wpC_bind (wpC_of_eq (hs x) (wpC_pure (wpC_bindA (wpAny_holding (wpAny_mono h₁ (fun it s₂ h₂ => wpC_standIf (wpC_bindA (wpAny_mono h₂ (fun acc s₃ h₃ => ?_) fun _ _ h' => h'))) fun _ _ h' => h'))))))) fun _ _ h' => h')
  refine wpC_bind (wpC_pure (wpC_bindA (wpAny_mono h₃ (fun cenv s₄ h₄ => ?_) fun _ _ h' => h')))
  dsimp only
  have hv : ∀ x ∈ (scope.names.filter fun x => (x.2 == .local || x.2 == .cell) && x.1 != (".0" : Str)).reverse, x.2 = .local →
      Env.kindOf { cenv with scope := relabel scope env } x.1 = some .local := fun x hx hl => lookup_relabel_local (hnames x (List.mem_filter.mp (List.mem_reverse.mp hx)).1 hl)
  refine wpC_holding (wpC_bind (wpC_attempt (wpC_holding (wpC_run (codeC_mono h₄ fun r s' hr => ?_)))))
  cases r with
  | ok f =>
    obtain ⟨m, hn, hr⟩ := hr
    exact wpC_any (wpAny_bind (wpAny_holding (wpAny_comp_letGo (cenv := { cenv with scope := relabel scope env }) hkind _ s' m hv hn fun h' m' _ hs' => wpAny_pure (hr h' hs'))))
  | error x =>
    obtain ⟨m, hn, hr⟩ := hr
    exact wpC_any (wpAny_bind (wpAny_holding (wpAny_comp_letGo (cenv := { cenv with scope := relabel scope env }) hkind _ s' m hv hn fun h' m' _ hs' => wpAny_mono (hr h' hs' _ rfl) (fun _ _ f => f.elim) fun _ _ y => y)))
end
section
variable {prog : Program} {w : World} {A : Around} {E : Value → Shared → Prop} {R : Result → Shared → Prop} {s : Shared}
theorem wpC_notedAt {α : Type} {M : Model} {A : Around} {env : Env} {m : Sem α} {pos : Pos} {Q : α → Shared → Prop} {E : Value → Shared → Prop} {s : Shared} (h : wpC M A m Q (notedBy M A env E) s) :
    wpC M A (m.onRaise fun x => do noteFrame x env; standAt pos) Q E s :=
  wpC_onRaise (wpC_mono h (fun _ _ q => q) fun _ _ hx => wpAny_bind (wpAny_mono hx (fun _ _ e => wpAny_standAt e) fun _ _ e => e))
theorem codeC_compStart_list {elt target iter ifs rest scope pos it acc env}
    (h0 : codeC (model prog w) A (.compLoop (.ListComp elt (⟨target, iter, ifs, 0⟩ :: rest) scope pos) 0 it acc env) R s)
    (h : wpAny (model prog w) A (pyIter it) (fun it' s' => codeC (model prog w) A (.compLoop (.ListComp elt (⟨target, iter, ifs, 0⟩ :: rest) scope pos) 0 it' acc env) R s')
      (notedBy (model prog w) A env fun x s' => R (.error x) s') s) :
    codeC (model prog w) A (.compStart (.ListComp elt (⟨target, iter, ifs, 0⟩ :: rest) scope pos) 0 it acc env) R s := by
  refine codeC_of_tree rfl ?_
  show wpC _ _ ((compStart (.ListComp elt (⟨target, iter, ifs, 0⟩ :: rest) scope pos) 0 it acc env).onRaise (fun x => do noteFrame x env; standAt theWindowsPlace)) _ _ s
  refine wpC_notedAt (wpC_any ?_)
  unfold compStart
  show wpAny _ _ (ask >>= _) _ _ s
  refine wpAny_bind (wpAny_askSetting (wpAny_ite ?_))
  split
  · first
      | exact wpAny_bind (wpAny_pure (wpAny_pure (And.intro rfl h0)))
      | exact wpAny_pure (And.intro rfl h0)
  · first
      | exact wpAny_bind (wpAny_rule (wpAny_bind (wpAny_standAt (wpAny_bind (wpAny_mono h (fun it' s' h' => wpAny_pure (And.intro rfl h')) fun _ _ x => x)))))
      | (refine wpAny_bind (wpAny_rule ?_); show wpAny _ _ (standAt iter.pos >>= _) _ _ s; exact wpAny_bind (wpAny_standAt (wpAny_bind (wpAny_mono h (fun it' s' h' => wpAny_pure (And.intro rfl h')) fun _ _ x => x))))
theorem codeC_compLoop {elt target iter : Expr} {scope : Scope} {pos : Pos} {it acc : Value} {env : Env} (I : Nat → Shared → Prop)
    (turn : ∀ n s, I n s → wpAny (model prog w) A (pyNext it) (fun r s₁ => match r with
      | none => R (.ok .next) s₁
      | some v => wpAny (model prog w) A (assign target env v) (fun _ s₂ => wpC (model prog w) A (eval elt env) (fun x s₃ =>
          wpAny (model prog w) A (call (.builtin "list.append") [acc, x]) (fun _ s₄ => ∃ m, m < n ∧ I m s₄) (notedBy (model prog w) A env fun e s' => R (.error e) s') s₃)
          (notedBy (model prog w) A env fun e s' => R (.error e) s') s₂) (notedBy (model prog w) A env fun e s' => R (.error e) s') s₁) (notedBy (model prog w) A env fun e s' => R (.error e) s') s)
    (n : Nat) (h : I n s) (ht : ∀ v, letOwnedTupleGo target it v = pure () := by intro _; rfl) :
    codeC (model prog w) A (.compLoop (.ListComp elt [⟨target, iter, [], 0⟩] scope pos) 0 it acc env) R s := by
  refine codeC_loop rfl rfl I (fun n s hI => ?_) n h
  show wpC _ _ ((compTurn (.ListComp elt [⟨target, iter, [], 0⟩] scope pos) 0 it acc env).onRaise (fun x => do noteFrame x env; theTreesLotGoes x)) _ _ s
  refine wpC_noted ?_
  rw [compTurn_list1]
  refine wpC_standAt (wpC_bindA (wpAny_mono (turn n s hI) (fun r s₁ h₁ => ?_) fun _ _ h' => h'))
  cases r with
  | none => exact wpC_pure h₁
  | some v =>
    refine wpC_bind (wpC_of_eq (ht v) ?_)
    exact wpC_pure (wpC_bindA (wpAny_mono h₁ (fun _ s₂ h₂ => wpC_bind (wpC_bind (wpC_mono h₂ (fun x s₃ h₃ => wpC_bindA (wpAny_mono h₃
      (fun _ s₄ h₄ => wpC_pure (wpC_pure (.inl ⟨rfl, h₄⟩))) fun _ _ h' => h')) fun _ _ h' => h'))) fun _ _ h' => h'))
end
section
variable {prog : Program} {w : World} {A : Around} {E : Value → Shared → Prop} {s : Shared} {h₀ : Heap} {L : Addr} {m : Str → Option Value} {env : Env}

theorem comp_blockC {elt iter : Expr} {x : Str} {px : Pos} {scope : Scope} {cl : List (Str × Addr)} {pos : Pos} {s₂ : Shared} {I : Addr} {fp : List Addr} {n : Nat} {P : Nat → Value → Prop} {St : Nat → Heap → Prop} {news : List (Addr × Obj)}
    {J : Nat → List Value → List (Addr × Obj) → Prop} {RR : Value → Addr → Result → Shared → Prop}
    (W : Walks prog w A I fp [I] n P St) (hsz : n ≤ sizeLine) (hIo : ∀ i h, St i h → ∃ o, h.get? I = some o)
    (hSt : ∀ i h h' o nw ys k, St i h → h.get? I = some o → h'.get? I = some o → (∀ b o, h₀.get? b = some o → h'.get? b = some o) → News h₀ L h' nw → J k ys nw → St i h')
    (hcell : ∀ y ∈ scope.names, y.2 ≠ .cell) (hkind : scope.kind = .function) (hx : scope.names.lookup x = some .local) (hst : St 0 s₂.heap) (hfp : ∀ b ∈ fp, b < s₂.heap.objs.size)
    (F : Fr h₀ L s₂.heap m) (N : News h₀ L s₂.heap news) (hIL : L ≠ I) (hI₀ : h₀.get? I = none) (off : ∀ p ∈ news, p.1 ≠ I) (hJ : J 0 [] news)
    (step : ∀ i v ys nw oI C oC D m₂ h tk, i < n → ys.length = i → P i v → J i ys nw → NsObj oC m₂ → m₂ x = some v → Fr h₀ L h m → News h₀ L h ((I, oI) :: (C, oC) :: (D, lst ys) :: nw) → Off I C D nw → I ≠ C → I ≠ D → C ≠ D →
      s₂.heap.get? C = none → s₂.heap.get? D = none → C ≠ L → h₀.get? C = none →
      wpC (model prog w) A (eval elt (compEnvC scope cl C env)) (EltEnd h₀ L m { s₂ with heap := h, toks := tk } I oI C oC D (lst ys) (fun y nw' => J (i + 1) (ys ++ [y]) nw'))
        (notedBy (model prog w) A (compEnvC scope cl C env) fun e s' => RR (.ref D) C (.error e) s') { s₂ with heap := h, toks := tk })
    (hRR : ∀ D C h tk m' ys nw, Fr h₀ L h m → News h₀ L h ((D, lst ys) :: nw) → (∀ p ∈ nw, p.1 ≠ D) → h.Ns C m' → h₀.get? C = none → h₀.get? D = none → C ≠ L → D ≠ L → C ≠ D → (∀ p ∈ nw, p.1 ≠ C) → ys.length = n → J n ys nw → RR (.ref D) C (.ok .next) { s₂ with heap := h, toks := tk }) :
    wpAny (model prog w) A (newList []) (fun acc s₃ => wpAny (model prog w) A (newFunctionEnv scope env.globals cl [] env.qual none .none (some env)) (fun cenv s₄ =>
      codeC (model prog w) A (.compStart (.ListComp elt [⟨.Name x px, iter, [], 0⟩] scope pos) 0 (.ref I) acc { cenv with scope := relabel scope env }) (RR acc cenv.locals) s₄) E s₃) E s₂ := by
  refine wpAny_newObj_type (wpAny_newFunctionEnv hcell (by intro y hy; simp at hy) (fun h₁ hns₁ hsb₁ => ?_) hkind)
  dsimp only at hns₁ hsb₁ ⊢
  generalize hH2 : s₂.heap.push { cls := .type "list", dict := none, data := .seq ([] : List Value).toArray } = H2 at hns₁ hsb₁ ⊢
  have hC : H2.objs.size = s₂.heap.objs.size + 1 := by rw [← hH2, Heap.size_push]
  have hDC : s₂.heap.objs.size ≠ H2.objs.size := by rw [hC]; exact Nat.ne_of_lt (Nat.lt_succ_self _)
  have below : ∀ b, b < s₂.heap.objs.size → b ≠ H2.objs.size ∧ b ≠ s₂.heap.objs.size := fun b hb => ⟨by rw [hC]; exact Nat.ne_of_lt (Nat.lt_succ_of_lt hb), Nat.ne_of_lt hb⟩
  have hDf : s₂.heap.objs.size ∉ fp := fun hm => Nat.lt_irrefl _ (hfp _ hm)
  have hCf : H2.objs.size ∉ fp := fun hm => by have := hfp _ hm; rw [hC] at this; exact Nat.lt_irrefl _ (Nat.lt_of_succ_lt this)
  have hIf : I ∈ fp := W.sub I (List.mem_singleton.mpr rfl)
  have hIlt : I < s₂.heap.objs.size := hfp I hIf
  have old : ∀ b o, s₂.heap.get? b = some o → h₁.get? b = some o := fun b o e => hsb₁.extBut b o (below b (Heap.lt_size e)).1 (Heap.get?_push_of_some _ (hH2 ▸ Heap.get?_push_of_some _ e))
  have hacc : h₁.get? s₂.heap.objs.size = some (lst []) := hsb₁.extBut _ _ hDC (Heap.get?_push_of_some _ (hH2 ▸ Heap.get?_push_size _ rfl))
  have hst₁ : St 0 h₁ := W.frame _ _ _ hst fun b _ o e => old b o e
  have fresh : ∀ a, s₂.heap.objs.size ≤ a → s₂.heap.get? a = none := fun a ha => by
    cases e : s₂.heap.get? a with
    | none => rfl
    | some o' => exact absurd (Heap.lt_size e) (Nat.not_lt.mpr ha)
  have fresh₀ : ∀ a, s₂.heap.objs.size ≤ a → h₀.get? a = none := fun a ha => by
    cases e : h₀.get? a with
    | none => rfl
    | some o' => have := F.keep a o' e; rw [fresh a ha] at this; cases this
  have hD₀ : h₀.get? s₂.heap.objs.size = none := fresh₀ _ (Nat.le_refl _)
  have hC₀ : h₀.get? H2.objs.size = none := fresh₀ _ (by rw [hC]; exact Nat.le_succ _)
  have hLlt : L < s₂.heap.objs.size := F.ns.lt
  have hDL : s₂.heap.objs.size ≠ L := Ne.symm (below L hLlt).2
  have hCL : H2.objs.size ≠ L := Ne.symm (below L hLlt).1
  have hCI : I ≠ H2.objs.size := (below I hIlt).1
  have hDI : I ≠ s₂.heap.objs.size := (below I hIlt).2
  have off₀ : Off I H2.objs.size s₂.heap.objs.size news := fun p hp => ⟨off p hp, (below _ (Heap.lt_size (N p hp).1)).1, (below _ (Heap.lt_size (N p hp).1)).2⟩
  have loop : ∀ s₃ : Shared, s₃ = { s₂ with heap := h₁, toks := s₂.toks + ([] : List (Str × Value)).length } →
      codeC (model prog w) A (.compLoop (.ListComp elt [⟨.Name x px, iter, [], 0⟩] scope pos) 0 (.ref I) (.ref s₂.heap.objs.size) (compEnvC scope cl H2.objs.size env))
        (RR (.ref s₂.heap.objs.size) H2.objs.size) s₃ := by
    rintro s₃ rfl
    refine codeC_compLoop
      (CompS h₀ L m s₂ I H2.objs.size s₂.heap.objs.size n St J) ?_ (n + 1)
      ⟨h₁, _, 0, [], _, news, rfl, Nat.zero_le _, rfl, rfl, hst₁, F.keeps old, hns₁, fun p hp => ?_, off₀, hJ⟩
    · rintro k s' ⟨h', tk, i, ys, m', nw, rfl, hi, rfl, hyl, hst', F', hn', N', off', hJ'⟩
      by_cases hlt : i < n
      · refine W.item i _ _ _ hlt hst' fun v h₂ tk₂ hPv hst₂ hk₂ => ?_
        refine wpAny_assign_Name (wpAny_storeName_local (lookup_relabel_local hx) (hn'.at' fun o e => hk₂ _ o (by simpa using Ne.symm hCI) e) (fun h₃ hn₃ hs₃ => ?_) (by simp [compEnvC, relabel, hkind]))
        have hst₃ : St (i + 1) h₃ := W.frame _ _ _ hst₂ fun b hb o e => hs₃.extBut b o (fun q => hCf (by have q' : b = H2.objs.size := q; rw [← q']; exact hb)) e
        obtain ⟨oI, heI⟩ := hIo _ _ hst₃
        obtain ⟨oC, heC, hoC⟩ := ns_obj hn₃
        have F₃ : Fr h₀ L h₃ m := (fr_but F' hk₂ hIL hI₀).change hs₃ hCL hC₀
        have N₂ : News h₀ L h₂ ((s₂.heap.objs.size, lst ys) :: nw) := news_but N' hk₂ fun p hp => by
          rcases List.mem_cons.mp hp with rfl | hp
          · exact Ne.symm hDI
          · exact (off' p hp).1
        have N₃ : News h₀ L h₃ ((I, oI) :: (H2.objs.size, oC) :: (s₂.heap.objs.size, lst ys) :: nw) := fun p hp => by
          rcases List.mem_cons.mp hp with rfl | hp
          · exact ⟨heI, Ne.symm hIL, hI₀⟩
          · rcases List.mem_cons.mp hp with rfl | hp
            · exact ⟨heC, hCL, hC₀⟩
            · have z := N₂ p hp
              refine ⟨hs₃.extBut _ _ ?_ z.1, z.2⟩
              rcases List.mem_cons.mp hp with rfl | hp
              · exact hDC
              · exact (off' p hp).2.1
        refine wpC_mono (step i v ys nw oI H2.objs.size oC s₂.heap.objs.size _ h₃ _ hlt hyl hPv hJ' hoC (by simp) F₃ N₃ off' hCI hDI (Ne.symm hDC) (fresh _ (by rw [hC]; exact Nat.le_succ _)) (fresh _ (Nat.le_refl _)) hCL hC₀) (fun y s₄ h₄ => ?_) fun _ _ e => e
        obtain ⟨h₄, tk₄, nw₄, rfl, F₄, N₄, off₄, hJ₄⟩ := h₄
        have zI := (N₄ (I, oI) List.mem_cons_self).1
        have zC := (N₄ (H2.objs.size, oC) (List.mem_cons_of_mem _ List.mem_cons_self)).1
        have zD := (N₄ (s₂.heap.objs.size, lst ys) (List.mem_cons_of_mem _ (List.mem_cons_of_mem _ List.mem_cons_self))).1
        have N₄' : News h₀ L h₄ nw₄ := fun p hp => N₄ p (List.mem_cons_of_mem _ (List.mem_cons_of_mem _ (List.mem_cons_of_mem _ hp)))
        have hst₄ : St (i + 1) h₄ := hSt _ _ _ _ _ _ _ hst₃ heI zI F₄.keep N₄' hJ₄
        refine append_at (hsz := by show ys.toArray.size ≤ sizeLine; rw [List.size_toArray, hyl]; exact Nat.le_trans hi hsz) zD fun h₅ hs₅ hD₅ => ?_
        refine ⟨n + 1 - (i + 1), ar_step hlt, h₅, tk₄, i + 1, ys ++ [y], _, nw₄, rfl, hlt, rfl, by rw [List.length_append, List.length_singleton, hyl], W.frame _ _ _ hst₄ fun b hb o e => hs₅.extBut b o (fun q => hDf (q ▸ hb)) e, F₄.change hs₅ hDL hD₀,
          (hoC.ns zC).sameBut hs₅ (Ne.symm hDC), fun p hp => ?_, off₄, hJ₄⟩
        rcases List.mem_cons.mp hp with rfl | hp
        · exact ⟨hD₅.trans (congrArg some (lst_snoc ys y)), hDL, hD₀⟩
        · exact ⟨hs₅.extBut _ _ (off₄ p hp).2.2 (N₄' p hp).1, (N₄' p hp).2⟩
      · obtain rfl : i = n := Nat.le_antisymm hi (Nat.not_lt.mp hlt)
        refine W.done _ _ _ hst' fun h₂ tk₂ hk₂ => ?_
        exact hRR _ _ h₂ tk₂ _ ys nw (fr_but F' hk₂ hIL hI₀) (news_but N' hk₂ fun p hp => by
          rcases List.mem_cons.mp hp with rfl | hp
          · exact Ne.symm hDI
          · exact (off' p hp).1) (fun p hp => (off' p hp).2.2) (hn'.at' fun o e => hk₂ _ o (by simpa using Ne.symm hCI) e) hC₀ hD₀ hCL hDL (Ne.symm hDC) (fun p hp => (off' p hp).2.1) hyl hJ'
    · rcases List.mem_cons.mp hp with rfl | hp
      · exact ⟨hacc, hDL, hD₀⟩
      · exact ⟨old _ _ (N p hp).1, (N p hp).2⟩
  exact codeC_compStart_list (loop _ rfl) (W.self 0 _ _ _ hst₁ (loop _ rfl))
end
/-- and where something may be -/
noncomputable abbrev TurnEC (Bad : Prop) (prog : Program) (w : World) (A : Around) (h₀ : Heap) (L : Addr) (m : Str → Option Value) (env : Env) (outer : List Env) (base : Heap) (cls : Value) (elt : Expr) (x : Str) (scope : Scope) (cl : List (Str × Addr)) (n : Nat) (P : Nat → Value → Prop) (J : Nat → List Value → List (Addr × Obj) → Prop) (s₂ : Shared) : Prop :=
  ∀ i v ys nw I oI C oC D m₂ h tk (E' : Value → Shared → Prop), (Bad → ∀ x h' tk', Exc h [] base (env :: outer) x cls h' → E' (.ref x) { s₂ with heap := h', toks := tk' }) →
    i < n → ys.length = i → P i v → J i ys nw → NsObj oC m₂ → m₂ x = some v → Fr h₀ L h m → News h₀ L h ((I, oI) :: (C, oC) :: (D, lst ys) :: nw) → Off I C D nw → I ≠ C → I ≠ D → C ≠ D →
    wpC (model prog w) A (eval elt (compEnvC scope cl C env)) (EltEnd h₀ L m { s₂ with heap := h, toks := tk } I oI C oC D (lst ys) (fun y nw' => J (i + 1) (ys ++ [y]) nw')) E' { s₂ with heap := h, toks := tk }
section
variable {w : World} {p : Program} {loose : List Str} {mean : ExcName → Option Value} {mg mb : Str → Option Value} {A A₀ : Around} {env env' : Env} {outer : List Env} {base h₀ : Heap} {L : Addr} {m : Str → Option Value} {news : List (Addr × Obj)} {s : Shared}
  {prog : Program} {E : Value → Shared → Prop}

/-- what an element's turn is asked, where an exception may fly -/
theorem comp_anyC {elt iter : Expr} {x : Str} {px : Pos} {scope : Scope} {cl : List (Str × Addr)} {pos : Pos} {Q : Value → Shared → Prop} {cls : Value} {H : Heap} {ms : List Addr} (Bad : Prop)
    (B : Below A₀ base outer h₀) (hA : A.frames = some (env :: outer)) (hf : env.frame = some L)
    (hclos : closureFor scope env = pure cl) (hcell : ∀ y ∈ scope.names, y.2 ≠ .cell) (hkind : scope.kind = .function)
    (hnames : ∀ y ∈ scope.names, y.2 = .local → scope.names.lookup y.1 = some .local) (hx : scope.names.lookup x = some .local)
    (h : wpAny (model prog w) A (eval iter env) (fun xv s₁ => wpAny (model prog w) A (pyIter xv) (fun it s₂ =>
      CompW (TurnU Bad ms H base env outer cls E h₀ L m (TurnEC Bad prog w A h₀ L m env outer base cls elt x scope cl)) prog w A h₀ L m Q it s₂) E s₁) E s)
    (hs : ∀ x, foldedSetIterable iter env x = pure x := by intro _; rfl) :
    wpC (model prog w) A (eval (.ListComp elt [⟨.Name x px, iter, [], 0⟩] scope pos) env) Q E s := by
  rw [eval_ListComp]
  refine comprehensionC rfl hs hclos hkind hnames (wpAny_mono h (fun xv s₁ h₁ => wpAny_mono h₁ (fun it s₂ h₂ => ?_) fun _ _ e => e) fun _ _ e => e)
  obtain ⟨I, fp, n, P, St, news, J, rfl, W, hsz, hIo, hSt, hst, hfp, F, N, hIL, hI₀, off, hJ, ⟨hU, hE, hup, step⟩, fin⟩ := h₂
  refine comp_blockC (RR := fun acc C => compPost (model prog w) A E none Q acc C) (J := J) W hsz hIo hSt hcell hkind hx hst hfp F N hIL hI₀ off hJ ?_ ?_
  · intro i v ys nw oI C oC D m₂ h tk hi hy hP hJ' hoC hv F₁ N₁ off₁ hIC hID hCD hC₂ hD₂ hCL hC₀
    refine step i v ys nw I oI C oC D m₂ h tk _ (fun bad x h' tk' he => ?_) hi hy hP hJ' hoC hv F₁ N₁ off₁ hIC hID hCD
    have Nn : News h₀ L h nw := fun q hq => N₁ q (.tail _ (.tail _ (.tail _ hq)))
    have hnC : h.Ns C m₂ := hoC.ns (N₁ (C, oC) (.tail _ (.head _))).1
    show wpAny (model prog w) A (noteFrame (.ref x) (compEnvC scope cl C env)) _ _ _
    refine exc_note hA rfl he fun h'' e'' => ?_
    have hnC' := e''.1.ns hnC (by simp)
    have eH : ExcT H ms base (env :: outer) x cls h'' := by
      have uH := hup h nw ys i F₁ Nn hJ'
      obtain ⟨a, a', b, b', c, oe, vs, d1, d2, d3, d4, T, oT, ts, e1, e2, e2', e3⟩ := e''
      have z := Exc.weaken (H' := H) (ms' := ms) (⟨a, a', b, b', c, oe, vs, d1, d2, d3, d4, .inr ⟨T, oT, ts, e1, e2, e2', e3⟩⟩ : Exc h [] base (env :: outer) x cls h'') uH (fun _ hb => nomatch hb)
      exact ⟨z.1, z.2.1, b, b', c, oe, vs, d1, d2, d3, d4, T, oT, ts, e1, e2, uH.none e2', e3⟩
    refine ⟨m₂, hnC', fun h₃ hsb cenv' _ => ?_⟩
    have hbC : base.get? C = none := by
      cases q : base.get? C with
      | none => rfl
      | some o => have := B.stays C o q; rw [hC₀] at this; cases this
    exact exc_passOn (eH.sameBut hsb hnC' (hU.none hC₂) hbC (frames_off B hf hCL hC₀)) fun h₄ e₄ => hE bad x h₄ _ e₄.exc
  · intro D C h tk m' ys nw F' N' o1 hn hC₀ hD₀ hCL hDL hCD offC hy hJ'
    refine ⟨m', hn, fun h'' hs'' => fin D h'' tk ys nw (F'.change hs'' hCL hC₀) (fun p hp => ?_) o1 hy hJ'⟩
    refine ⟨hs''.extBut _ _ ?_ (N' p hp).1, (N' p hp).2⟩
    rcases List.mem_cons.mp hp with rfl | hp
    · exact Ne.symm hCD
    · exact offC p hp
/-- a comprehension over a list whose element may raise -/
theorem comp_listEC {elt iter : Expr} {x : Str} {px : Pos} {scope : Scope} {cl : List (Str × Addr)} {pos : Pos} {Q : Value → Shared → Prop} {cls : Value} {H : Heap} {ms : List Addr} (Bad : Prop) (F₀ : Fr h₀ L s.heap m) (hh : A.handled = none)
    (B : Below A₀ base outer h₀) (hA : A.frames = some (env :: outer)) (hf : env.frame = some L)
    (hclos : closureFor scope env = pure cl) (hcell : ∀ y ∈ scope.names, y.2 ≠ .cell) (hkind : scope.kind = .function)
    (hnames : ∀ y ∈ scope.names, y.2 = .local → scope.names.lookup y.1 = some .local) (hx : scope.names.lookup x = some .local)
    (h : wpAny (model prog w) A (eval iter env) (fun xv s₁ => Hold (CompLE (TurnEC Bad prog w A h₀ L m env outer base cls elt x scope cl) Bad ms H base env outer cls E h₀ L m Q xv s₁)) E s)
    (hs : ∀ x, foldedSetIterable iter env x = pure x := by intro _; rfl) :
    wpC (model prog w) A (eval (.ListComp elt [⟨.Name x px, iter, [], 0⟩] scope pos) env) Q E s :=
  comp_anyC Bad (m := m) (cls := cls) (H := H) (ms := ms) B hA hf hclos hcell hkind hnames hx (wpAny_mono h (fun _ _ h₁ => compW_list hh (CompLE.toL h₁)) fun _ _ e => e) hs

end
end Mine
end TextK1
section TextS1
open PySem PySem.W PyProof.Rows PySem.Calls PySem.Spec
set_option Elab.async false
set_option maxRecDepth 100000
set_option maxHeartbeats 1000000
namespace Mine
theorem fillS1 {w : World} {A : Around} {Q : Value → Shared → Prop} {E : Value → Shared → Prop} {s : Shared} (h : (hd0.heap_1 w.params).In s.heap → wpAny (model PySem.Challenge.rw_pb0182_01.row.prog w) A (call .none []) Q E s) :
    (hd0.heap_1 w.params).In s.heap → wpAny (model PySem.Challenge.rw_pb0182_01.row.prog w) A (call .none []) Q E s := by
  k_fill
  w_top off
  intro hX
  try walk1
  exact h hX
section
variable {w : World} {p : Program} {loose : List Str} {mean : ExcName → Option Value} {mg mb : Str → Option Value} {A A₀ : Around} {env : Env} {outer : List Env} {base h₀ : Heap} {L : Addr} {m : Str → Option Value} {news : List (Addr × Obj)} {s : Shared}
  {Q E : Value → Shared → Prop}
/-- the dict of an OctetsOut -/
noncomputable abbrev outD (w : World) (b : Addr) (tt : Tok) : Obj := dictOf [⟨PyData.keyHash w.params "made", .str "made" tt, .ref b⟩] 1
theorem Cx.under {c : Code} (C : Cx w p loose mean mg mb A A₀ env outer base h₀ L) (he : c.envs = []) (hg : c.guards = []) : Cx w p loose mean mg mb (A.under c) A₀ env outer base h₀ L := by
  obtain ⟨B, X, T, b0, hA, hf, hk, hh, hG⟩ := C
  refine ⟨B, X, T, b0, ?_, hf, hk, hh, ?_⟩
  · show pushEnvs c.envs A.frames = _
    rw [he]; exact hA
  · show pushGuards c.guards A.guards = _
    rw [hg]; exact hG
theorem out_new (C : Cx w p loose mean mg mb A A₀ env outer base h₀ L) (F : Fr h₀ L s.heap m) (N : News h₀ L s.heap news)
   (hd : A.depth ≤ 890) (hu : A.units ≤ 4900) (h : ∀ x dx b tt h' tk, Fr h₀ L h' m → News h₀ L h' ((b, BA.ba #[]) :: (x, instObj 160 dx) :: (dx, outD w b tt) :: news) → b ≠ dx → b ≠ x → x ≠ dx → (∀ p ∈ news, p.1 ≠ dx ∧ p.1 ≠ x ∧ p.1 ≠ b) → Q (.ref x) { s with heap := h', toks := tk }) :
   wpC (model PySem.Challenge.rw_pb0182_01.row.prog w) A (call (.ref 160) []) Q E s := by
  have st0 : Stop "all 1" := .mk
  refine wpC_call (makeC_K (fI := 89) F N (C.X.keeps F.keep) (by k_is) (by k_is) (by k_is) fun x dx h' F₀ N₀ l1 l2 => ?_)
  k_dflt (refine' enterC_plain (C.under (by rfl) (by rfl)) F₀ N₀ ?k6 ?k7 ?k8 ?k9 ?kB ?_ ?c2 ?c3 ?c4 ?c5)
  case k6 => k_is
  case k7 => k_is
  case k8 => exact Nat.lt_of_le_of_lt (Nat.add_le_add_right hd _) (by decide)
  case k9 => exact BindsTo.of_eq rfl
  case c5 => decide
  case kB => exact locs rfl
  case c2 => exact rfl
  case c3 => exact rfl
  case c4 => exact rfl
  intro g' L' h₁ C₁ F₁ N₁ G₁ l3
  have X₁ := C₁.X
  have T₁ := C₁.T
  have B₁ := C₁.B
  refine execsC_cons (assignC (callNameC ?_))
  k_steps
  refine callWithC (P := fun _ => True) rfl (fun h _ => ⟨.machine, .inr (.inl rfl), Looks.of_pure rfl⟩) (splicedC_nil ⟨trivial, ?_⟩)
  refine BA.new C₁.hG (by assumption) N₁ fun b h₂ tk₂ F₂ N₂ l4 => ?_
  have n1 : b ≠ dx := Ne.symm (Nat.ne_of_lt (l4 _ (.tail _ (.head _))))
  have n2 : x ≠ dx := Ne.symm (Nat.ne_of_lt l2)
  have n3 : ∀ p ∈ news, p.1 ≠ dx := fun p hp => Nat.ne_of_lt (l1 p hp)
  k_steps
  refine execsC_nil ⟨_, _, _, by assumption, by assumption, fun Ff Nf => ⟨rfl, ?_⟩⟩
  have n4 : b ≠ x := Ne.symm (Nat.ne_of_lt (l4 _ (.head _)))
  exact h x dx b _ _ _ Ff Nf n1 n4 n2 fun p hp => ⟨n3 p hp, Nat.ne_of_lt (Nat.lt_trans (l1 p hp) l2), Nat.ne_of_lt (l4 p (.tail _ (.tail _ hp)))⟩
end
end Mine
end TextS1
section TextE1
open PySem PySem.W PyProof.Rows PySem.Calls PySem.Spec
set_option Elab.async false
set_option maxRecDepth 100000
set_option maxHeartbeats 1000000
namespace Mine
theorem fillE1 {w : World} {A : Around} {Q : Value → Shared → Prop} {E : Value → Shared → Prop} {s : Shared} (h : (hd0.heap_1 w.params).In s.heap → wpAny (model PySem.Challenge.rw_pb0182_01.row.prog w) A (call .none []) Q E s) :
    (hd0.heap_1 w.params).In s.heap → wpAny (model PySem.Challenge.rw_pb0182_01.row.prog w) A (call .none []) Q E s := by
  k_fill
  w_top off
  intro hX
  try walk1
  exact h hX
namespace TF
section
variable {prog : Program} {w : World} {M : Model} {A : Around} {E : Value → Shared → Prop} {h : Heap} {g : Array GenState} {d : Drawn} {t : Nat} {os : OsState}
variable {nm q : Str} {C N : Addr} {bs bm bmB : List Value} {hdct : Bool} {sn : List Str} {sub : List Value} {ab : Bool} {col : Option Bool} {dd : Option Addr} {k0 k1 k2 k3 k5 : Option Value} {B newId initId : String}
end
section
noncomputable def P_check_new (M : Model) (A : Around) (E : Value → Shared → Prop) (h : Heap) (g : Array GenState) (d : Drawn) (t : Nat) (os : OsState) (nm : Str) (q : Str) (C : Addr) (N : Addr) (bs : List Value) (bm : List Value) (bmB : List Value) (hdct : Bool) (sn : List Str) (sub : List Value) (ab : Bool) (col : Option Bool) (dd : Option Addr) (k0 : Option Value) (k1 : Option Value) (k2 : Option Value) (k3 : Option Value) (k5 : Option Value) (B : String) (newId : String) (initId : String) (rest : List Value) (Q : Unit → Shared → Prop) : Prop := ∀ (F : ExcBaseFacts B newId initId bmB) (hB : bm.contains (.type B) = true) (hC : h.get? C = some (excClassObj nm q C N bs bm hdct sn sub ab col dd k0 k1 k2 k3 k5 newId)) (hq : Q () ⟨h, g, d, t, os⟩),
    wpAny M A (checkBuiltinCall newId ⟨.ref C :: rest, []⟩) Q E ⟨h, g, d, t, os⟩
noncomputable def c_check_new := @Classical.epsilon ((Model) × (Around) × (Value → Shared → Prop) × (Heap) × (Array GenState) × (Drawn) × (Nat) × (OsState) × (Str) × (Str) × (Addr) × (Addr) × (List Value) × (List Value) × (List Value) × (Bool) × (List Str) × (List Value) × (Bool) × (Option Bool) × (Option Addr) × (Option Value) × (Option Value) × (Option Value) × (Option Value) × (Option Value) × (String) × (String) × (String) × (List Value) × (Unit → Shared → Prop)) ⟨((model default wDef), callerA, fun _ _ => True, default, default, (PySem.start default).1.drawn, 0, default, default, default, 0, 0, [], [], [], default, [], [], default, none, none, none, none, none, none, none, default, default, default, [], fun _ _ => True)⟩ fun v => ¬ P_check_new v.1 v.2.1 v.2.2.1 v.2.2.2.1 v.2.2.2.2.1 v.2.2.2.2.2.1 v.2.2.2.2.2.2.1 v.2.2.2.2.2.2.2.1 v.2.2.2.2.2.2.2.2.1 v.2.2.2.2.2.2.2.2.2.1 v.2.2.2.2.2.2.2.2.2.2.1 v.2.2.2.2.2.2.2.2.2.2.2.1 v.2.2.2.2.2.2.2.2.2.2.2.2.1 v.2.2.2.2.2.2.2.2.2.2.2.2.2.1 v.2.2.2.2.2.2.2.2.2.2.2.2.2.2.1 v.2.2.2.2.2.2.2.2.2.2.2.2.2.2.2.1 v.2.2.2.2.2.2.2.2.2.2.2.2.2.2.2.2.1 v.2.2.2.2.2.2.2.2.2.2.2.2.2.2.2.2.2.1 v.2.2.2.2.2.2.2.2.2.2.2.2.2.2.2.2.2.2.1 v.2.2.2.2.2.2.2.2.2.2.2.2.2.2.2.2.2.2.2.1 v.2.2.2.2.2.2.2.2.2.2.2.2.2.2.2.2.2.2.2.2.1 v.2.2.2.2.2.2.2.2.2.2.2.2.2.2.2.2.2.2.2.2.2.1 v.2.2.2.2.2.2.2.2.2.2.2.2.2.2.2.2.2.2.2.2.2.2.1 v.2.2.2.2.2.2.2.2.2.2.2.2.2.2.2.2.2.2.2.2.2.2.2.1 v.2.2.2.2.2.2.2.2.2.2.2.2.2.2.2.2.2.2.2.2.2.2.2.2.1 v.2.2.2.2.2.2.2.2.2.2.2.2.2.2.2.2.2.2.2.2.2.2.2.2.2.1 v.2.2.2.2.2.2.2.2.2.2.2.2.2.2.2.2.2.2.2.2.2.2.2.2.2.2.1 v.2.2.2.2.2.2.2.2.2.2.2.2.2.2.2.2.2.2.2.2.2.2.2.2.2.2.2.1 v.2.2.2.2.2.2.2.2.2.2.2.2.2.2.2.2.2.2.2.2.2.2.2.2.2.2.2.2.1 v.2.2.2.2.2.2.2.2.2.2.2.2.2.2.2.2.2.2.2.2.2.2.2.2.2.2.2.2.2.1 v.2.2.2.2.2.2.2.2.2.2.2.2.2.2.2.2.2.2.2.2.2.2.2.2.2.2.2.2.2.2
namespace K_check_new
@[irreducible] noncomputable def M : Model := c_check_new.1
@[irreducible] noncomputable def A : Around := c_check_new.2.1
@[irreducible] noncomputable def E : Value → Shared → Prop := c_check_new.2.2.1
@[irreducible] noncomputable def h : Heap := c_check_new.2.2.2.1
@[irreducible] noncomputable def g : Array GenState := c_check_new.2.2.2.2.1
@[irreducible] noncomputable def d : Drawn := c_check_new.2.2.2.2.2.1
@[irreducible] noncomputable def t : Nat := c_check_new.2.2.2.2.2.2.1
@[irreducible] noncomputable def os : OsState := c_check_new.2.2.2.2.2.2.2.1
@[irreducible] noncomputable def nm : Str := c_check_new.2.2.2.2.2.2.2.2.1
@[irreducible] noncomputable def q : Str := c_check_new.2.2.2.2.2.2.2.2.2.1
@[irreducible] noncomputable def C : Nat := c_check_new.2.2.2.2.2.2.2.2.2.2.1
@[irreducible] noncomputable def N : Nat := c_check_new.2.2.2.2.2.2.2.2.2.2.2.1
@[irreducible] noncomputable def bs : List Value := c_check_new.2.2.2.2.2.2.2.2.2.2.2.2.1
@[irreducible] noncomputable def bm : List Value := c_check_new.2.2.2.2.2.2.2.2.2.2.2.2.2.1
@[irreducible] noncomputable def bmB : List Value := c_check_new.2.2.2.2.2.2.2.2.2.2.2.2.2.2.1
@[irreducible] noncomputable def hdct : Bool := c_check_new.2.2.2.2.2.2.2.2.2.2.2.2.2.2.2.1
@[irreducible] noncomputable def sn : List Str := c_check_new.2.2.2.2.2.2.2.2.2.2.2.2.2.2.2.2.1
@[irreducible] noncomputable def sub : List Value := c_check_new.2.2.2.2.2.2.2.2.2.2.2.2.2.2.2.2.2.1
@[irreducible] noncomputable def ab : Bool := c_check_new.2.2.2.2.2.2.2.2.2.2.2.2.2.2.2.2.2.2.1
@[irreducible] noncomputable def col : Option Bool := c_check_new.2.2.2.2.2.2.2.2.2.2.2.2.2.2.2.2.2.2.2.1
@[irreducible] noncomputable def dd : Option Addr := c_check_new.2.2.2.2.2.2.2.2.2.2.2.2.2.2.2.2.2.2.2.2.1
@[irreducible] noncomputable def k0 : Option Value := c_check_new.2.2.2.2.2.2.2.2.2.2.2.2.2.2.2.2.2.2.2.2.2.1
@[irreducible] noncomputable def k1 : Option Value := c_check_new.2.2.2.2.2.2.2.2.2.2.2.2.2.2.2.2.2.2.2.2.2.2.1
@[irreducible] noncomputable def k2 : Option Value := c_check_new.2.2.2.2.2.2.2.2.2.2.2.2.2.2.2.2.2.2.2.2.2.2.2.1
@[irreducible] noncomputable def k3 : Option Value := c_check_new.2.2.2.2.2.2.2.2.2.2.2.2.2.2.2.2.2.2.2.2.2.2.2.2.1
@[irreducible] noncomputable def k5 : Option Value := c_check_new.2.2.2.2.2.2.2.2.2.2.2.2.2.2.2.2.2.2.2.2.2.2.2.2.2.1
@[irreducible] noncomputable def B : String := c_check_new.2.2.2.2.2.2.2.2.2.2.2.2.2.2.2.2.2.2.2.2.2.2.2.2.2.2.1
@[irreducible] noncomputable def newId : String := c_check_new.2.2.2.2.2.2.2.2.2.2.2.2.2.2.2.2.2.2.2.2.2.2.2.2.2.2.2.1
@[irreducible] noncomputable def initId : String := c_check_new.2.2.2.2.2.2.2.2.2.2.2.2.2.2.2.2.2.2.2.2.2.2.2.2.2.2.2.2.1
@[irreducible] noncomputable def rest : List Value := c_check_new.2.2.2.2.2.2.2.2.2.2.2.2.2.2.2.2.2.2.2.2.2.2.2.2.2.2.2.2.2.1
@[irreducible] noncomputable def Q : Unit → Shared → Prop := c_check_new.2.2.2.2.2.2.2.2.2.2.2.2.2.2.2.2.2.2.2.2.2.2.2.2.2.2.2.2.2.2
theorem core : P_check_new M A E h g d t os nm q C N bs bm bmB hdct sn sub ab col dd k0 k1 k2 k3 k5 B newId initId rest Q := by
  unfold P_check_new
  intro F hB hC hq
  have hcont : (Value.ref C :: bm).contains (.type B) = true := by rw [List.contains_cons, hB, Bool.or_true]
  have hstar := F.noStar
  simp only [checkBuiltinCall, F.newKind, F.newSplit, F.newRow]
  repeat (first | refine wpAny_loadPart_at hC ?_ | (refine wpAny_isSubtype_exc hC ?_; rw [hcont]) | refine wpAny_staticBase_exc hC ?_ | refine wpAny_madeBy_exc hC ?_ | simp only [bne_self_eq_false, Bool.false_eq_true, if_false] | wp_step)
  exact hq
end K_check_new
theorem check_new {M : Model} {A : Around} {E : Value → Shared → Prop} {h : Heap} {g : Array GenState} {d : Drawn} {t : Nat} {os : OsState} {nm : Str} {q : Str} {C : Addr} {N : Addr} {bs : List Value} {bm : List Value} {bmB : List Value} {hdct : Bool} {sn : List Str} {sub : List Value} {ab : Bool} {col : Option Bool} {dd : Option Addr} {k0 : Option Value} {k1 : Option Value} {k2 : Option Value} {k3 : Option Value} {k5 : Option Value} {B : String} {newId : String} {initId : String} (F : ExcBaseFacts B newId initId bmB) (hB : bm.contains (.type B) = true) {rest : List Value} {Q : Unit → Shared → Prop} (hC : h.get? C = some (excClassObj nm q C N bs bm hdct sn sub ab col dd k0 k1 k2 k3 k5 newId)) (hq : Q () ⟨h, g, d, t, os⟩) :
    wpAny M A (checkBuiltinCall newId ⟨.ref C :: rest, []⟩) Q E ⟨h, g, d, t, os⟩ :=
  eps_all (P := fun v => P_check_new v.1 v.2.1 v.2.2.1 v.2.2.2.1 v.2.2.2.2.1 v.2.2.2.2.2.1 v.2.2.2.2.2.2.1 v.2.2.2.2.2.2.2.1 v.2.2.2.2.2.2.2.2.1 v.2.2.2.2.2.2.2.2.2.1 v.2.2.2.2.2.2.2.2.2.2.1 v.2.2.2.2.2.2.2.2.2.2.2.1 v.2.2.2.2.2.2.2.2.2.2.2.2.1 v.2.2.2.2.2.2.2.2.2.2.2.2.2.1 v.2.2.2.2.2.2.2.2.2.2.2.2.2.2.1 v.2.2.2.2.2.2.2.2.2.2.2.2.2.2.2.1 v.2.2.2.2.2.2.2.2.2.2.2.2.2.2.2.2.1 v.2.2.2.2.2.2.2.2.2.2.2.2.2.2.2.2.2.1 v.2.2.2.2.2.2.2.2.2.2.2.2.2.2.2.2.2.2.1 v.2.2.2.2.2.2.2.2.2.2.2.2.2.2.2.2.2.2.2.1 v.2.2.2.2.2.2.2.2.2.2.2.2.2.2.2.2.2.2.2.2.1 v.2.2.2.2.2.2.2.2.2.2.2.2.2.2.2.2.2.2.2.2.2.1 v.2.2.2.2.2.2.2.2.2.2.2.2.2.2.2.2.2.2.2.2.2.2.1 v.2.2.2.2.2.2.2.2.2.2.2.2.2.2.2.2.2.2.2.2.2.2.2.1 v.2.2.2.2.2.2.2.2.2.2.2.2.2.2.2.2.2.2.2.2.2.2.2.2.1 v.2.2.2.2.2.2.2.2.2.2.2.2.2.2.2.2.2.2.2.2.2.2.2.2.2.1 v.2.2.2.2.2.2.2.2.2.2.2.2.2.2.2.2.2.2.2.2.2.2.2.2.2.2.1 v.2.2.2.2.2.2.2.2.2.2.2.2.2.2.2.2.2.2.2.2.2.2.2.2.2.2.2.1 v.2.2.2.2.2.2.2.2.2.2.2.2.2.2.2.2.2.2.2.2.2.2.2.2.2.2.2.2.1 v.2.2.2.2.2.2.2.2.2.2.2.2.2.2.2.2.2.2.2.2.2.2.2.2.2.2.2.2.2.1 v.2.2.2.2.2.2.2.2.2.2.2.2.2.2.2.2.2.2.2.2.2.2.2.2.2.2.2.2.2.2) (by with_unfolding_all exact K_check_new.core) (M, A, E, h, g, d, t, os, nm, q, C, N, bs, bm, bmB, hdct, sn, sub, ab, col, dd, k0, k1, k2, k3, k5, B, newId, initId, rest, Q) F hB hC hq
end
section
variable {prog : Program} {w : World} {M : Model} {A : Around} {E : Value → Shared → Prop} {h : Heap} {g : Array GenState} {d : Drawn} {t : Nat} {os : OsState}
variable {nm q : Str} {C N : Addr} {bs bm bmB : List Value} {hdct : Bool} {sn : List Str} {sub : List Value} {ab : Bool} {col : Option Bool} {dd : Option Addr} {k0 k1 k2 k3 k5 : Option Value} {B newId initId : String}
theorem code_new {R : Result → Shared → Prop} (F : ExcBaseFacts B newId initId bmB) (hB : bm.contains (.type B) = true) (hA : bm.contains (.type "AttributeError") = false) (hN : bm.contains (.type "NameError") = false) {rest : List Value}
    (hC : h.get? C = some (excClassObj nm q C N bs bm hdct sn sub ab col dd k0 k1 k2 k3 k5 newId))
    (hq : R (.ok (.ret (.ref (h.objs.size + 1)))) ⟨(h.push { cls := .type "tuple", data := .seq rest.toArray }).push
      { cls := .ref C, data := .fields #[.ref h.objs.size, .none, .none, .none, .bool false, .none] }, g, d, t, os⟩) (hrest : rest.length ≤ sizeLine := by size_fits) :
    codeAny (model prog w) A (.builtin newId ⟨.ref C :: rest, []⟩) R ⟨h, g, d, t, os⟩ := by
  have hends := F.ends
  have hcB : (Value.ref C :: bm).contains (.type B) = true := by rw [List.contains_cons, hB, Bool.or_true]
  have hcA : (Value.ref C :: bm).contains (.type "AttributeError") = false := by rw [List.contains_cons, hA]; rfl
  have hcN : (Value.ref C :: bm).contains (.type "NameError") = false := by rw [List.contains_cons, hN]; rfl
  refine codeAny_builtinAt F.entry ?_
  unfold Builtin.«BaseException.__new__»
  refine PySem.wpAt_bind ?_
  show PySem.wpAt _ _ _ (stack >>= _) _ _ _
  refine PySem.wpAt_bind (PySem.wpAt_stack fun p below => PySem.wpAt_of_wpAny ?_)
  wp_walk
  refine PySem.wpAt_of_wpAny ?_
  rw [F.owner]
  repeat (first | with_reducible refine wpAny_madeHere_exc F.canon hC ?_ | with_reducible refine wpAny_loadPart_at hC ?_ | (with_reducible refine wpAny_isSubtype_exc hC ?_; first | rw [hcB] | rw [hcA] | rw [hcN]) | wp_step)
  show R _ _
  rw [Heap.size_push]
  exact hq
theorem type_call (F : ExcBaseFacts B newId initId bmB) (hB : bm.contains (.type B) = true) (hA : bm.contains (.type "AttributeError") = false) (hN : bm.contains (.type "NameError") = false) {rest : List Value} {fI : Addr} {oI : Obj} {Q : PySem.Fin → Shared → Prop}
    (hC : h.get? C = some (excClassObj nm q C N bs bm hdct sn sub ab col dd k0 k1 k2 k3 k5 newId)) (hlook : Looks (model prog w) h (typeLookup (.ref C) "__init__") (some (.ref fI)))
    (hfI : h.get? fI = some oI) (hfc : oI.cls = .type "function")
    (hq : ∀ h' e, Heap.MadeExcOf h h' e (.ref C) rest →
      wpAny (model prog w) A (call (.ref fI) (.ref e :: rest)) (fun r s' => r = .none ∧ Q (.done (.ret (.ref e))) s') E ⟨h', g, d, t, os⟩) (hrest : rest.length ≤ sizeLine := by size_fits) :
    wpAny (model prog w) A (Builtin.«type.__call__» ⟨.ref C :: rest, []⟩) Q E ⟨h, g, d, t, os⟩ := by
  repeat (first | with_reducible refine wpAny_loadPart_at hC ?_ | with_reducible refine wpAny_madeBy_exc hC ?_ | wp_step)
  refine codeAny_call_builtin_code (Code.quiet_builtin _ F.quiet) (check_new F hB hC ?_)
  refine code_new F hB hA hN hC ?_ hrest
  show wpAny _ _ _ _ _ _
  have hC₁ := Heap.get?_push_of_some { cls := .ref C, data := .fields #[.ref h.objs.size, .none, .none, .none, .bool false, .none] }
    (Heap.get?_push_of_some { cls := .type "tuple", data := .seq rest.toArray } hC)
  have hfI₁ := Heap.get?_push_of_some { cls := .ref C, data := .fields #[.ref h.objs.size, .none, .none, .none, .bool false, .none] }
    (Heap.get?_push_of_some { cls := .type "tuple", data := .seq rest.toArray } hfI)
  have up : ∀ b o, h.get? b = some o → ((h.push { cls := .type "tuple", data := .seq rest.toArray }).push { cls := .ref C, data := .fields #[.ref h.objs.size, .none, .none, .none, .bool false, .none] }).get? b = some o := fun b o e => Heap.get?_push_of_some _ (Heap.get?_push_of_some _ e)
  have hl₁ := hlook.keeps up
  have hget : ((h.push { cls := .type "tuple", data := .seq rest.toArray }).push
      { cls := .ref C, data := .fields #[.ref h.objs.size, .none, .none, .none, .bool false, .none] }).get? (h.objs.size + 1) = some
      { cls := .ref C, data := .fields #[.ref h.objs.size, .none, .none, .none, .bool false, .none] } := by heap_get
  have hcC : (Value.ref C :: bm).contains (.ref C) = true := by simp
  unfold isInstance
  repeat (first | with_reducible refine wpAny_loadPart_at hget ?_ | (with_reducible refine wpAny_isSubtype_exc hC₁ ?_; rw [hcC]) | wp_step)
  show wpAny _ _ (typeLookup (.ref C) _) _ _ _
  refine hl₁.at ?_
  refine wpAny_holding (wpAny_bind ?_)
  unfold bindSpecial
  refine wpAny_bind (wpAny_typeOf (T := "function") ⟨_, hfI₁, hfc⟩ ?_)
  rw [if_pos (by decide)]
  refine wpAny_pure (wpAny_bind (wpAny_mono (hq _ (h.objs.size + 1) ⟨fun b o hb => Heap.get?_push_of_some _ (Heap.get?_push_of_some _ hb), Heap.get?_none_of_le (Nat.le_succ _), h.objs.size, hget, Heap.get?_none_of_le (Nat.le_refl _), ?_⟩) (fun r s' hr => ?_) fun _ _ x => x))
  · exact Heap.get?_push_of_some _ (Heap.get?_push_at rfl rfl)
  · obtain ⟨rfl, hQ⟩ := hr
    wp_walk
    exact hQ
theorem call_exc (F : ExcBaseFacts B newId initId bmB) (hB : bm.contains (.type B) = true) (hA : bm.contains (.type "AttributeError") = false) (hN : bm.contains (.type "NameError") = false) {rest : List Value} {fI : Addr} {oI : Obj} {Q : Value → Shared → Prop}
    (hC : h.get? C = some (excClassObj nm q C N bs bm hdct sn sub ab col dd k0 k1 k2 k3 k5 newId)) (hlook : Looks (model prog w) h (typeLookup (.ref C) "__init__") (some (.ref fI)))
    (hfI : h.get? fI = some oI) (hfc : oI.cls = .type "function")
    (hq : ∀ h' e, Heap.MadeExcOf h h' e (.ref C) rest →
      wpAny (model prog w) (A.under (.builtin "type.__call__" ⟨.ref C :: rest, []⟩)) (call (.ref fI) (.ref e :: rest)) (fun r s' => r = .none ∧ Q (.ref e) s') E ⟨h', g, d, t, os⟩) (hrest : rest.length ≤ sizeLine := by size_fits) :
    wpAny (model prog w) A (call (.ref C) rest) Q E ⟨h, g, d, t, os⟩ := by
  have f1 := tc_lookup
  have f2 := tc_bind (.ref C)
  have hT : (⟨h, g, d, t, os⟩ : Shared).TypeIs (.ref C) "type" := ⟨_, hC, rfl⟩
  refine wpAny_call (codeAny_of_tree ?_)
  show wpAny _ _ (callAny (.ref C) _) _ _ _
  repeat (any_goals (first | assumption | with_reducible refine wpAny_loadPart_at hC ?_ | wp_step))
  refine ⟨rfl, ?_⟩
  refine codeAny_call_builtin_at (Code.quiet_builtin _ (by decide +kernel)) entry_typeCall (wpAny_check_type_call_sub hC (type_call (hrest := hrest) F hB hA hN hC hlook hfI hfc fun h' e hm => ?_))
  exact hq h' e hm
end
section
open PySem.Builtin PySem.Builtin.ObjectAttr
variable {prog : Program} {w : World} {A : Around} {E : Value → Shared → Prop} {h : Heap} {g : Array GenState} {d : Drawn} {t : Nat} {os : OsState}
variable {nm q : Str} {C N S x : Addr} {bs bm : List Value} {sn : List Str} {sub : List Value} {ab : Bool} {col : Option Bool} {dd : Option Addr} {k0 k1 k2 k3 k5 : Option Value} {B newId sa owner : String}
  {mA : Str → Option Value} {name : Str} {v : Value}
/-- an attribute is stored in an exception whose class stands two steps above the built-in -/
theorem store_entry2 {tk : Tok} {Q : PySem.Fin → Shared → Prop} {ns : List Str} (SF : StoreFacts B bm sa owner)
    (hC : h.get? C = some (excClassObj nm q C N bs (.ref S :: bm) true sn sub ab col dd k0 k1 k2 k3 k5 newId)) (hlook : Looks (model prog w) h (typeLookup (.ref C) name) none) (I : h.Inst x C mA)
    (hq : ∀ h' tk', h'.Inst x C (fun y => if y = name then some v else mA y) →
      (∀ b o, b ≠ x → (∀ o₀ dx, h.get? x = some o₀ → o₀.dict = some dx → b ≠ dx) → h.get? b = some o → h'.get? b = some o) →
      (∀ o₀, h.get? x = some o₀ → ∃ o₁, h'.get? x = some o₁ ∧ o₁.cls = o₀.cls ∧ o₁.data = o₀.data ∧ (∀ dx, o₁.dict = some dx → o₀.dict = some dx ∨ h.get? dx = none)) → Q (.done (.ret .none)) ⟨h', g, d, tk', os⟩) (hw : Within mA ns) (hsz : ns.length ≤ 1000) :
    wpAny (model prog w) A (Builtin.«object.__setattr__» ⟨[.ref x, .str name tk, v], []⟩) Q E ⟨h, g, d, t, os⟩ := by
  obtain ⟨o, hx, hc, hnc, hd⟩ := I
  have hpass := SF.passes (.ref x)
  unfold Builtin.«object.__setattr__»
  repeat (first | rw [refuse_eq] | (rw [refuseLoop_ref, refuseLoop_ref, hpass]) | (with_reducible refine wpAny_loadPart_at hx ?_; rw [hc]) | with_reducible refine wpAny_mroOf_exc hC ?_ | (with_reducible refine hlook.at ?_) | wp_step)
  rcases hd with ⟨hdn, hmA⟩ | ⟨dx, hdx, hne, hns⟩
  · rw [hdn, if_neg (by simp [typeHasDict])]
    split
    · rename_i hcd
      cases hcd
    split
    · rename_i c hcd
      exact absurd hcd (hnc c)
    · have hx₁ : (h.push { cls := .type "dict", data := .dict #[] }).get? x = some o := Heap.get?_push_of_some _ hx
      have hxs : x ≠ h.objs.size := Nat.ne_of_lt (Heap.lt_size hx)
      refine wpAny_bind (wpAny_alloc' ?_)
      refine wpAny_bind (wpAny_update' hx₁ ?_)
      refine wpAny_pure ?_
      have hgd : ((h.push { cls := .type "dict", data := .dict #[] }).update x fun o => { cls := o.cls, dict := some h.objs.size, data := o.data, slots := o.slots }).get? h.objs.size
          = some { cls := .type "dict", data := .dict #[] } :=
        (Heap.get?_update_ne _ _ _ _ hxs.symm).trans (Heap.get?_push_at rfl rfl)
      have hnd : ((h.push { cls := .type "dict", data := .dict #[] }).update x fun o => { cls := o.cls, dict := some h.objs.size, data := o.data, slots := o.slots }).Ns h.objs.size (fun _ => none) :=
        ⟨_, #[], _, hgd, rfl, fun e he => absurd he (by simp), fun _ => rfl⟩
      show wpAny _ _ (storeInDict h.objs.size (.str name tk) name v) _ _ _
      unfold storeInDict newKeyGuard
      refine wpAny_bind (wpAny_pure (wpAny_bind (wpAny_nsSet1 (Heap.Ns1.of_empty hnd) fun h' hn' hs => ?_)))
      obtain ⟨oD, esD, epD, hoD, hdD, hcD⟩ := hn'.count (Within.cons name v Within.nil)
      refine wpAny_bind (wpAny_lookBehind hoD (by rw [hdD]; exact pastItsLine_dict (Nat.le_trans hcD (by rw [List.length_cons, List.length_nil, sizeLine_eq]; omega))) ?_)
      wp_walk
      have hx' : h'.get? x = some { cls := o.cls, dict := some h.objs.size, data := o.data, slots := o.slots } := ?_
      refine hq h' _ ⟨{ cls := o.cls, dict := some h.objs.size, data := o.data, slots := o.slots }, hx', hc, hnc, .inr ⟨h.objs.size, rfl, hxs.symm, ?_⟩⟩ (fun b ob hbx _ hb => ?_)
        (fun o₀ h₀ => by
          obtain rfl : o = o₀ := Option.some.inj (hx.symm.trans h₀)
          exact ⟨_, hx', rfl, rfl, fun dx e => .inr (by cases e; exact Heap.get?_none_of_le (Nat.le_refl _))⟩)
      · obtain ⟨o', es, ep, e1, e2, e3, eu, e4⟩ := hn'
        exact ⟨o', es, ep, e1, e2, e3, eu, fun y => by rw [e4 y]; by_cases hy : y = name <;> simp [hy, hmA]⟩
      · exact (hs.2 b (Nat.ne_of_lt (Heap.lt_size hb))).trans ((Heap.get?_update_ne _ _ _ _ hbx).trans (Heap.get?_push_of_some _ hb))
      · refine (hs.2 x hxs).trans (Heap.get?_update_self _ hx₁ ?_)
        have hfr := (Heap.get?_some_iff.mp hx).2
        obtain ⟨oc, od, odt, osl⟩ := o
        cases odt <;> first | rfl | exact hfr
  · rw [hdx]
    refine wpAny_pure ?_
    show wpAny _ _ (storeInDict dx (.str name tk) name v) _ _ _
    unfold storeInDict newKeyGuard
    refine wpAny_bind (wpAny_pure (wpAny_bind (wpAny_nsSet1 hns fun h' hn' hs => ?_)))
    obtain ⟨oD, esD, epD, hoD, hdD, hcD⟩ := hn'.count (Within.cons name v hw)
    refine wpAny_bind (wpAny_lookBehind hoD (by rw [hdD]; exact pastItsLine_dict (Nat.le_trans hcD (by rw [List.length_cons, sizeLine_eq]; omega))) ?_)
    wp_walk
    refine hq h' _ ⟨o, (hs.2 x hne.symm).trans hx, hc, hnc, .inr ⟨dx, hdx, hne, hn'⟩⟩ (fun b ob _ hbd hb => ?_)
      (fun o₀ h₀ => by
        obtain rfl : o = o₀ := Option.some.inj (hx.symm.trans h₀)
        exact ⟨o, (hs.2 x hne.symm).trans hx, rfl, rfl, fun _ e => .inl e⟩)
    exact (hs.2 b (hbd o dx hx hdx)).trans hb
theorem store_attr2 {Q : Unit → Shared → Prop} {ns : List Str} (SF : StoreFacts B bm sa owner)
    (hC : h.get? C = some (excClassObj nm q C N bs (.ref S :: bm) true sn sub ab col dd k0 k1 k2 k3 k5 newId)) (hls : Looks (model prog w) h (typeLookup (.ref C) "__setattr__") (some (.builtin sa))) (hlook : Looks (model prog w) h (typeLookup (.ref C) name) none) (I : h.Inst x C mA)
    (hq : ∀ h' tk', h'.Inst x C (fun y => if y = name then some v else mA y) →
      (∀ b o, b ≠ x → (∀ o₀ dx, h.get? x = some o₀ → o₀.dict = some dx → b ≠ dx) → h.get? b = some o → h'.get? b = some o) →
      (∀ o₀, h.get? x = some o₀ → ∃ o₁, h'.get? x = some o₁ ∧ o₁.cls = o₀.cls ∧ o₁.data = o₀.data ∧ (∀ dx, o₁.dict = some dx → o₀.dict = some dx ∨ h.get? dx = none)) → Q () ⟨h', g, d, tk', os⟩) (hw : Within mA ns) (hsz : ns.length ≤ 1000) :
    wpAny (model prog w) A (setAttr (.ref x) name v) Q E ⟨h, g, d, t, os⟩ := by
  obtain ⟨o, hx, hc, _⟩ := id I
  have f3 := SF.slot.bind (.ref x)
  have hcB : (Value.ref C :: Value.ref S :: bm).contains (.type owner) = true := by rw [List.contains_cons, List.contains_cons, SF.hasOwner, Bool.or_true, Bool.or_true]
  unfold setAttr callSpecial? specialOf
  repeat (any_goals (first | assumption | (with_reducible refine wpAny_loadPart_at hx ?_; rw [hc]) | (with_reducible refine hls.at ?_) | wp_step))
  refine codeAny_call_builtin SF.slot.plain SF.entry ?_
  have ha := SF.args (.ref x) (.str name t) v
  simp only [checkBuiltinCall, SF.kind, SF.split]
  refine wpAny_bind ?_
  unfold isInstance
  repeat (first | (with_reducible refine wpAny_loadPart_at hx ?_; rw [hc]) | (with_reducible refine wpAny_isSubtype_exc hC ?_; rw [hcB]) | wp_step)
  have fin : ∀ {Q' : PySem.Fin → Shared → Prop} {E' : Value → Shared → Prop}, (∀ s', Q () s' → Q' (.done (.ret .none)) s') → wpAny (model prog w) A.in1 (Builtin.«object.__setattr__» ⟨[.ref x, .str name t, v], []⟩) Q' E' ⟨h, g, d, t + 1, os⟩ :=
    fun {Q' E'} hQ' => store_entry2 (Q := Q') SF hC hlook I (fun h' tk' I' hk hsame => hQ' _ (hq h' tk' I' hk hsame)) hw hsz
  cases hsig : Manifest.signature? sa with
  | none =>
    exact wpAny_pure (fin fun s' z => wpAny_pure (wpAny_pure z))
  | some sig =>
    simp only [argsOk, hsig] at ha
    have h2 : Bind.checkArgs sa sig ⟨[.ref x, .str name t, v], []⟩ = pure () := ha
    show wpAny _ _ (Bind.checkArgs sa sig ⟨[.ref x, .str name t, v], []⟩) _ _ _
    rw [h2]
    exact wpAny_pure (fin fun s' z => wpAny_pure (wpAny_pure z))
end
end TF
end Mine
end TextE1
section TextE2
open PySem PySem.W PySem.W.X PyProof.Rows PySem.Calls PySem.Spec
set_option Elab.async false
set_option maxRecDepth 100000
set_option maxHeartbeats 1000000
namespace Mine
theorem fillE2 {w : World} {A : Around} {Q : Value → Shared → Prop} {E : Value → Shared → Prop} {s : Shared} (h : (hd0.heap_1 w.params).In s.heap → wpAny (model PySem.Challenge.rw_pb0182_01.row.prog w) A (call .none []) Q E s) :
    (hd0.heap_1 w.params).In s.heap → wpAny (model PySem.Challenge.rw_pb0182_01.row.prog w) A (call .none []) Q E s := by
  k_fill
  w_top off
  intro hX
  try walk1
  exact h hX
section
local macro_rules | `(tactic| x_close) => `(tactic| exact ⟨_, _, _, rfl, rfl, mem_all (by assumption), (mem_get (by assumption) (by k_mem)).1, (mem_get (by assumption) (by k_mem)).2⟩)
theorem exc_bind {w : World} (s : Shared) (e : Addr) (vs : Array Value) (od : Option Addr) (sl : Array (Option Value)) (X : (hd0.heap_1 w.params).In s.heap)
   (he : s.heap.get? e = some ⟨.ref 68, od, .fields vs, sl⟩) :
   wpAny (model PySem.Challenge.rw_pb0182_01.row.prog w) AX (call (.builtin "wrapper_descriptor.__get__") [.builtin "Exception.__init__", .ref e, .ref 68])
    (fun v s' => ∃ q h' tk', v = .ref q ∧ s' = { s with heap := h', toks := tk' } ∧ Kept s h' ∧ h'.get? q = some ⟨.type "method-wrapper", none, .fields #[.builtin "Exception.__init__", .ref e], #[]⟩ ∧ s.heap.get? q = none) (fun _ _ => False) s := by
  x_run
end
namespace TF
theorem type_init : typeOf (.builtin "Exception.__init__") = pure (.type "wrapper_descriptor") := by show builtinType _ = _; rw [builtinType_eq_fast]; kernel_rfl
theorem look_get : typeLookup (.type "wrapper_descriptor") "__get__" = pure (some (.builtin "wrapper_descriptor.__get__")) := by rw [typeLookup_type, builtinLookup_eq_fast]; kernel_rfl
theorem sup_in (w : World) : ks_superIn (hd0.heap_1 w.params) 68 55 "__init__" = some (some (.builtin "Exception.__init__")) := by kernel_rfl
theorem cls68 (w : World) : (clsIn (hd0.heap_1 w.params) 68).map (·.mro) = some [.ref 68, .ref 55, .type "Exception", .type "BaseException", .type "object"] := by kernel_rfl
theorem opq (w : World) : nsIn (hd0.heap_1 w.params) cStatics "thirdparty.any" = some none := by kernel_rfl
theorem cls68' (w : World) : ∃ cd, clsIn (hd0.heap_1 w.params) 68 = some cd ∧ cd.mro = [.ref 68, .ref 55, .type "Exception", .type "BaseException", .type "object"] := by
  have h := cls68 w
  cases q : clsIn (hd0.heap_1 w.params) 68 with
  | none => rw [q] at h; cases h
  | some cd => rw [q] at h; exact ⟨cd, rfl, Option.some.inj h⟩
theorem along (w : World) : alongIn (hd0.heap_1 w.params) "__init__" [.type "Exception", .type "BaseException", .type "object"] = some (some (.builtin "Exception.__init__")) := by
  obtain ⟨cd, h1, h2⟩ := cls68' w
  have h := sup_in w
  unfold ks_superIn at h
  rw [h1, Option.bind_some, h2] at h
  exact h
noncomputable abbrev PG : Program := PySem.Challenge.rw_pb0182_01.row.prog
section
variable {prog : Program} {w : World} {A : Around} {E : Value → Shared → Prop} {h : Heap} {g : Array GenState} {d : Drawn} {t : Nat} {os : OsState}
theorem sup_ga {so x : Addr} {tk : Tok} {name : Str} {Q : PySem.Fin → Shared → Prop}
    (hso : h.get? so = some { cls := .type "super", dict := none, data := .fields #[.ref 55, .ref x, .ref 68], slots := #[] }) (X : (hd0.heap_1 w.params).In h) (hxC : x ≠ 68) (hal : alongIn (hd0.heap_1 w.params) name [.type "Exception", .type "BaseException", .type "object"] = some (some (.builtin "Exception.__init__"))) (hn : (name == ("__class__" : Str)) = false)
    (P : Value → Shared → Prop) (hcall : ∀ {Q' : Value → Shared → Prop} {E' : Value → Shared → Prop}, (∀ v s', P v s' → Q' v s') → wpAny (model prog w) A (call (.builtin "wrapper_descriptor.__get__") [.builtin "Exception.__init__", .ref x, .ref 68]) Q' E' ⟨h, g, d, t, os⟩) (hP : ∀ v s', P v s' → Q (.done (.ret v)) s') :
    wpAny (model prog w) A (Builtin.«super.__getattribute__» ⟨[.ref so, .str name tk], []⟩) Q E ⟨h, g, d, t, os⟩ := by
  have hlk := look_get
  have hty := type_init
  have hne : (Value.ref x == Value.ref 68) = false := by simp [hxC]
  have hdt : ({ cls := .type "super", dict := none, data := .fields #[.ref 55, .ref x, .ref 68], slots := #[] } : Obj).data = .fields #[.ref 55, .ref x, .ref 68] := rfl
  have f0 : (#[.ref 55, .ref x, .ref 68] : Array Value)[0]? = some (.ref 55) := rfl
  have f1 : (#[.ref 55, .ref x, .ref 68] : Array Value)[1]? = some (.ref x) := rfl
  have f2 : (#[.ref 55, .ref x, .ref 68] : Array Value)[2]? = some (.ref 68) := rfl
  have hno : Looks (model prog w) h (opaqueClassAbove (.ref 68)) none := looks_opaque X (opq w)
  have hC : Looks (model prog w) h (mroOf (.ref 68)) [.ref 68, .ref 55, .type "Exception", .type "BaseException", .type "object"] := by
    obtain ⟨cd, h1, h2⟩ := cls68' w
    rw [← h2]
    exact (looks_clsIn X h1).andThen .now
  have hl : (([.ref 68, .ref 55, .type "Exception", .type "BaseException", .type "object"] : List Value).dropWhile (· != .ref 55)).drop 1 = [.type "Exception", .type "BaseException", .type "object"] := by rfl
  unfold Builtin.«super.__getattribute__»
  repeat (first
    | (with_reducible refine wpAny_field hso hdt f0 ?_) | (with_reducible refine wpAny_field hso hdt f1 ?_) | (with_reducible refine wpAny_field hso hdt f2 ?_)
    | (with_reducible refine ks_wpAny_notOpaque hno ?_)
    | (with_reducible refine Looks.at hC ?_; rw [hl])
    | (refine ks_forIn_along X (fun _ _ => rfl) rfl ?_ hal)
    | (with_reducible refine hcall ?_; intro v s' hv)
    | (simp only [hn, hne, Bool.or_false, Bool.false_eq_true, if_false])
    | wp_step
    | dsimp only)
  exact hP _ _ hv
theorem sup_method {so x : Addr} {name : Str} {pl : Sem Bool} {Q : Value × List Value → Shared → Prop} {od : Option Addr} {vs : Array Value} {sl : Array (Option Value)}
    (hso : h.get? so = some { cls := .type "super", dict := none, data := .fields #[.ref 55, .ref x, .ref 68], slots := #[] }) (X : (hd0.heap_1 w.params).In h) (hx : h.get? x = some ⟨.ref 68, od, .fields vs, sl⟩) (hxC : x ≠ 68)
    (hal : alongIn (hd0.heap_1 w.params) name [.type "Exception", .type "BaseException", .type "object"] = some (some (.builtin "Exception.__init__"))) (hn : (name == ("__class__" : Str)) = false)
    (hh : A.handled = none) (hG : A.guards = some []) (hd : A.depth ≤ 890) (hu : A.units ≤ 4990)
    (hq : ∀ q h' tk', (∀ b o, h.get? b = some o → h'.get? b = some o) → h.get? q = none → h'.get? q = some ⟨.type "method-wrapper", none, .fields #[.builtin "Exception.__init__", .ref x], #[]⟩ → Q (.ref q, []) ⟨h', g, d, tk', os⟩) :
    wpAny (model PG w) A (getMethod (.ref so) name pl) Q E ⟨h, g, d, t, os⟩ := by
  have hlk := F.ks_slot_super_ga.lookup
  have hcan := F.ks_canon_super_ga
  have hT : ∀ t', (⟨h, g, d, t', os⟩ : Shared).TypeIs (.ref so) "super" := fun _ => ⟨_, hso, rfl⟩
  unfold getMethod
  refine wpAny_bind (wpAny_specialOf (hT _) hlk ?_)
  show wpAny _ _ (if (Manifest.canonical "super.__getattribute__" != "object.__getattribute__") = true then _ else _) _ _ _
  rw [if_pos hcan]
  unfold getAttr getAttrBy
  refine wpAny_bind (wpAny_bind (wpAny_mkText (wpAny_holding (wpAny_bind (wpAny_typeOf (hT _) (wpAny_bind (wpAny_of_eq hlk ?_)))))))
  show wpAny _ _ (getAttrByItsOwn (.ref so) (.str name t) (.type "super") (.builtin "super.__getattribute__") true false) _ _ _
  unfold getAttrByItsOwn hookBefore callGetattribute boundAndCalled
  refine wpAny_bind (wpAny_of_eq (show (if onTheHeap (.type "super") then typeLookup (.type "super") "__getattr__" else pure none) = pure none from rfl) ?_)
  refine wpAny_bind (wpAny_attempt (wpAny_holding ?_))
  show wpAny _ _ (bindSpecial (.builtin "super.__getattribute__") (.ref so) >>= _) _ _ _
  refine wpAny_bind (wpAny_of_eq (F.ks_slot_super_ga.bind _) ?_)
  refine wpAny_mono (Q := fun v s' => ∃ q h' tk', v = .ref q ∧ s' = ⟨h', g, d, tk', os⟩ ∧ (∀ b o, h.get? b = some o → h'.get? b = some o) ∧ h.get? q = none ∧ h'.get? q = some ⟨.type "method-wrapper", none, .fields #[.builtin "Exception.__init__", .ref x], #[]⟩) (E := fun _ _ => False)
    (wpAny_call_entry F.ks_slot_super_ga (hT _) F.ks_entry_super_ga (sup_ga hso X hxC hal hn (fun v s' => ∃ q h' tk', v = .ref q ∧ s' = ⟨h', g, d, tk', os⟩ ∧ (∀ b o, h.get? b = some o → h'.get? b = some o) ∧ h.get? q = none ∧ h'.get? q = some ⟨.type "method-wrapper", none, .fields #[.builtin "Exception.__init__", .ref x], #[]⟩) (fun {Q' E'} hQ' => ?_) fun v s' hv => ?_) (F.ks_gaArgs_super _ _)) (fun v s' hv => ?_) fun _ _ z => z.elim
  · refine wp_AX hh hG (by show A.depth ≤ 900; omega) (by show A.units + 1 ≤ 5000; omega) (wpAny_mono (exc_bind ⟨h, g, d, t + 1, os⟩ x vs od sl X hx) (fun v s' z => hQ' v s' ?_) fun _ _ z => z.elim)
    obtain ⟨q, h', tk', rfl, rfl, k, e1, e2⟩ := z
    exact ⟨q, h', tk', rfl, rfl, k, e2, e1⟩
  · exact ⟨v, rfl, hv⟩
  · obtain ⟨q, h', tk', rfl, rfl, k, e1, e2⟩ := hv
    exact wpAny_pure (wpAny_pure (hq q h' tk' k e1 e2))
theorem chk_bound {M : Model} {nm q : Str} {C N x : Addr} {bs bm : List Value} {hdct : Bool} {sn : List Str} {sub : List Value} {ab : Bool} {col : Option Bool} {dd : Option Addr} {k0 k1 k2 k3 k5 : Option Value} {newId : String} {b : Value} {ox : Obj} {Q : Unit → Shared → Prop}
    (hC : h.get? C = some (excClassObj nm q C N bs bm hdct sn sub ab col dd k0 k1 k2 k3 k5 newId)) (he : h.get? x = some ox) (hcls : ox.cls = .ref C) (hq : Q () ⟨h, g, d, t, os⟩) : wpAny M A (checkBoundCall "Exception.__init__" ⟨[.ref x, b], []⟩) Q E ⟨h, g, d, t, os⟩ := by
  have FB := PySem.F.excBase_Exception
  have h1 := FB.initRow
  have h2 := FB.initKind
  unfold checkBoundCall
  simp only [h1, h2]
  rw [if_pos (by decide)]
  have hshort := FB.noStar
  unfold Bind.checkArgs
  repeat (first | (with_reducible refine wpAny_loadPart_at he ?_; rw [hcls]) | with_reducible refine wpAny_loadPart_at hC ?_ | wp_step)
  exact hq
theorem entry_init : entryFor table "Exception.__init__" = some Builtin.«BaseException.__init__» := (PySem.F.excBase_Exception).initEntry
theorem plain_init : plainId "Exception.__init__" = true := by decide +kernel
/-- super().__init__(text), its bound call -/
theorem mw_call {q x : Addr} {v : Value} {vs : Array Value} {old : Value} {Q : Value → Shared → Prop} {ox : Obj}
    {nm qn : Str} {C N : Addr} {bs bm : List Value} {hdct : Bool} {sn : List Str} {sub : List Value} {ab : Bool} {col : Option Bool} {dd : Option Addr} {k0 k1 k2 k3 k5 : Option Value} {newId : String}
    (hC : h.get? C = some (excClassObj nm qn C N bs bm hdct sn sub ab col dd k0 k1 k2 k3 k5 newId)) (hcls : ox.cls = .ref C) (hq : h.get? q = some ⟨.type "method-wrapper", none, .fields #[.builtin "Exception.__init__", .ref x], #[]⟩) (hx : h.get? x = some ox) (hxd : ox.data = .fields vs) (h0 : vs[0]? = some old)
    (hk : ∀ h' t' tk', (∀ b o, b ≠ x → h.get? b = some o → h'.get? b = some o) → (∃ o', h'.get? x = some o' ∧ o'.cls = ox.cls ∧ o'.dict = ox.dict ∧ o'.data = .fields (vs.setIfInBounds 0 (.ref t'))) → Q .none ⟨h', g, d, tk', os⟩) :
    wpAny (model prog w) A (call (.ref q) [v]) Q E ⟨h, g, d, t, os⟩ := by
  refine wpAny_call (codeAny_of_tree ?_)
  show wpAny _ A.in1 (callAny (.ref q) ⟨[v], []⟩) _ _ _
  unfold callAny
  refine wpAny_bind (wpAny_load hq ?_)
  dsimp only
  refine wpAny_bind (chk_bound hC hx hcls (wpAny_pure ⟨plainId_quiet plain_init _, codeAny_builtin entry_init ?_⟩))
  rw [Around.under_plainId plain_init _]
  unfold Builtin.«BaseException.__init__»
  refine wpAny_bind (wpAny_newTuple ?_)
  have hx₁ : (h.push { cls := .type "tuple", data := .seq [v].toArray }).get? x = some ox := Heap.get?_push_of_some _ hx
  have hlt : 0 < vs.size := by
    rcases Nat.lt_or_ge 0 vs.size with z | z
    · exact z
    · rw [Array.getElem?_eq_none z] at h0; cases h0
  show wpAny _ _ (Builtin.BaseException.bexcPut (.ref x) 0 (.ref h.objs.size) >>= _) _ _ _
  unfold Builtin.BaseException.bexcPut
  have hx₂ := Heap.get?_update_self (Obj.mapFields (·.setIfInBounds 0 (Value.ref h.objs.size))) hx₁ (Obj.isFreed_of_fields (Obj.data_mapFields hxd _))
  have fin : ∀ {E' : Value → Shared → Prop}, Q .none ⟨(h.push { cls := .type "tuple", data := .seq [v].toArray }).update x (Obj.mapFields (·.setIfInBounds 0 (Value.ref h.objs.size))), g, d, t, os⟩ := fun {E'} =>
    hk _ h.objs.size _ (fun b o hb e => (Heap.get?_update_other _ _ (Ne.symm hb)).trans (Heap.get?_push_of_some _ e)) ⟨_, hx₂, Obj.cls_mapFields _ _, by obtain ⟨c, dd, da, sl⟩ := ox; cases hxd; rfl, Obj.data_mapFields hxd _⟩
  refine wpAny_bind (wpAny_bind (wpAny_field hx₁ hxd h0 (wpAny_bind (wpAny_setField hx₁ hxd hlt ?_))))
  cases old with
  | ref a => exact wpAny_letGo (wpAny_pure (fin (E' := E)))
  | _ => exact wpAny_pure (wpAny_pure (fin (E' := E)))
end
end TF
end Mine
end TextE2
section TextE3
open PySem PySem.W PyProof.Rows PySem.Calls PySem.Spec
set_option Elab.async false
set_option maxRecDepth 100000
set_option maxHeartbeats 1000000
namespace Mine
theorem fillE3 {w : World} {A : Around} {Q : Value → Shared → Prop} {E : Value → Shared → Prop} {s : Shared} (h : (hd0.heap_1 w.params).In s.heap → wpAny (model PySem.Challenge.rw_pb0182_01.row.prog w) A (call .none []) Q E s) :
    (hd0.heap_1 w.params).In s.heap → wpAny (model PySem.Challenge.rw_pb0182_01.row.prog w) A (call .none []) Q E s := by
  k_fill
  w_top off
  intro hX
  try walk1
  exact h hX
section
variable {w : World} {p : Program} {loose : List Str} {mean : ExcName → Option Value} {mg mb : Str → Option Value} {A A₀ : Around} {env : Env} {outer : List Env} {base h₀ : Heap} {L : Addr} {m : Str → Option Value} {news rest : List (Addr × Obj)} {s : Shared}
  {Q E : Value → Shared → Prop}
theorem enter_super {R : Result → Shared → Prop} {prog : Program} {name qual : Str} {params : Arguments} {body : List Stmt} {scope : Scope} {dV kV doc pm cdv ct oc : Value} {an od : Option Addr} {osl : Array (Option Value)} {f cc : Addr} {args : Args} {binds : List (Str × Value)}
    (C : Cx w p loose mean mg mb A A₀ env outer base h₀ L) (F : Fr h₀ L s.heap m) (N : News h₀ L s.heap news)
    (ho : (hd0.heap_1 w.params).lookup f = some ⟨oc, od, .func (ksFn name qual params body scope dV kV doc pm an cdv ct cc), osl⟩) (hcd : codeIn (hd0.heap_1 w.params) cdv qual = true) (hroom : A.depth < recursionLimit)
    (hbind : BindsTo s (ksFn name qual params body scope dV kV doc pm an cdv ct cc) args binds) (hloc : ∀ y ∈ binds, scope.names.lookup y.1 = some .local)
    (h : ∀ g L' h₁, Cx w p loose mean mg mb (A.deeper (ksEnv qual scope L' f cdv cc)) A (ksEnv qual scope L' f cdv cc) (env :: outer) base g L' → Fr g L' h₁ (fun y => binds.reverse.lookup y) → News g L' h₁ news → GSub s.heap g (news.map (·.1)) → (∀ p ∈ news, p.1 < L') →
      _root_.PySem.wpAt (model prog w) (A.deeper (ksEnv qual scope L' f cdv cc)) (.func body (ksEnv qual scope L' f cdv cc)) (execs body (ksEnv qual scope L' f cdv cc))
        (fun fl s' => LeaveK h₀ L m g R (match fl with | .ret v => v | _ => .none) s')
        (fun e s' => wpAny (model prog w) (A.deeper (ksEnv qual scope L' f cdv cc)) (leaving (ksEnv qual scope L' f cdv cc) e) (fun _ s'' => R (.error e) s'') (fun e' s'' => R (.error e') s'') s')
        { s with heap := h₁, toks := s.toks + binds.length })
    (hcell : ∀ x ∈ scope.names, x.2 ≠ .cell) (hco : scope.isCoroutine = false) (hgen : scope.isGenerator = false) (hk : scope.kind = .function) : codeAny (model prog w) A (.call (.ref f) args) R s := by
  obtain ⟨B, X₀, T, b0, hA, hf, hke, hh, hG⟩ := C
  obtain ⟨FG, BG, st, lv⟩ := groundX (R := R) B F N hA hf hke
  refine ks_codeAny_call_defAt (fd := ksFn name qual params body scope dV kV doc pm an cdv ct cc) (body := body) (binds := binds) hroom ((X₀.keeps F.keep) _ _ ho) rfl (T.nolimit.keeps F.keep) (codeRec_of (X₀.keeps F.keep) hcd) rfl hbind hcell hloc (fun h₁ hns hk₁ => ?_) hco hgen hk
  exact ks_wpAt_mono (h _ s.heap.objs.size h₁ ⟨BG, X₀.keeps st, T.keeps st, st _ _ b0, Around.frames_deeper hA, rfl, hk, hh, guards_deeper hG⟩ ⟨hns, fun b o e => hk₁ b o (of_hideAll _ e), Nat.le_of_eq (hideAll_size _ _)⟩
    (fun p hp => ⟨hk₁ _ _ (N p hp).1, Nat.ne_of_lt (Heap.lt_size (N p hp).1), hideAll_none _ (List.mem_map_of_mem hp)⟩) (fun b o e n => hideAll_get _ e n) (fun p hp => Heap.lt_size (N p hp).1)) (fun fl s' hl => lv _ _ hl) fun _ _ y => y
noncomputable abbrev mwObj (x : Addr) : Obj := ⟨.type "method-wrapper", none, .fields #[.builtin "Exception.__init__", .ref x], #[]⟩
theorem keeps_M {M : Model} {q x : Addr} (h : Heap) (X : h.get? q = some (mwObj x)) : ∃ k, (k = Keeper.frame ∨ k = Keeper.machine ∨ k = Keeper.boundFrame) ∧ Looks M h (keeperOf (.ref q)) k := by
  refine ⟨.machine, .inr (.inl rfl), (Looks.ld (part := none) X).andThen ?_⟩
  have e : (if ((mwObj x).cls == .type "builtin_function_or_method" || (mwObj x).cls == .type "method-wrapper") = true then Keeper.machine else Keeper.caller) = Keeper.machine := if_pos (by show (Value.type "method-wrapper" == Value.type "builtin_function_or_method" || Value.type "method-wrapper" == Value.type "method-wrapper") = true; decide)
  show Looks M h (pure (if ((mwObj x).cls == .type "builtin_function_or_method" || (mwObj x).cls == .type "method-wrapper") = true then Keeper.machine else Keeper.caller)) Keeper.machine
  rw [e]
  exact .now
theorem callWith_M {M : Model} {q x : Addr} {pos : Pos} {first : List Value} {e : Expr} {rest : List Expr} (h : wpAny M A (spliced (backTo pos (starEach (e :: rest) env))) (fun vs s₁ => s₁.heap.get? q = some (mwObj x) ∧ wpAny M A (call (.ref q) (first ++ vs)) Q E s₁) E s)
    (he : starEach (e :: rest) env = (false, eval e env) :: starEach rest env := by rfl) (hplain : (backTo pos (starEach rest env)).any (·.1) = false := by rfl) :
    wpAny M A (callWith pos (.ref q) first (backTo pos (starEach (e :: rest) env)) []) Q E s := by
  rw [he] at h ⊢
  exact callWith_of (by show ((false || (backTo pos (starEach rest env)).any (·.1)) || false) = false; rw [hplain]; rfl) keeps_M (evalArgs_plain h)
theorem upd_x {x : Addr} {o : Obj} {h h' : Heap} (F : Fr h₀ L h m) (N : News h₀ L h news) (hx : (x, o) ∈ news) (hk : ∀ b ob, b ≠ x → h.get? b = some ob → h'.get? b = some ob) :
    Fr h₀ L h' m ∧ ∀ q ∈ news, q.1 ≠ x → (h'.get? q.1 = some q.2 ∧ q.1 ≠ L ∧ h₀.get? q.1 = none) := by
  obtain ⟨a1, a2, a3⟩ := N _ hx
  exact ⟨⟨F.ns.at' fun ob e => hk _ _ (Ne.symm a2) e, fun b ob e => hk _ _ (fun z => by rw [z, a3] at e; cases e) (F.keep b ob e), F.above⟩, fun q hq n => ⟨hk _ _ n (N q hq).1, (N q hq).2⟩⟩
theorem inst_none {K : Frag} {h : Heap} {x : Addr} {c : Value} {C : Addr} {da : Data} {sl : Array (Option Value)} (N : News h₀ L h news) (hm : (x, (⟨c, none, da, sl⟩ : Obj)) ∈ news) (hc : c = .ref C) (hn : notCls ⟨c, none, da, sl⟩ = true) : InstAt h x ⟨c, none, da, sl⟩ C none := ⟨(N _ hm).1, hc, hn, trivial⟩
local macro_rules | `(tactic| k_inst) => `(tactic| exact inst_none (K := []) (by k_asm) (by k_mem) rfl rfl)
theorem tf_new {msg : Str} {t : Tok} (C : Cx w p loose mean mg mb A A₀ env outer base h₀ L) (F : Fr h₀ L s.heap m) (N : News h₀ L s.heap news) (hd : A.depth ≤ 888) (hu : A.units ≤ 4890)
   (hret : ∀ e od vs sl h' tk', Fr h₀ L h' m → News h₀ L h' ((e, ⟨.ref 68, od, .fields vs, sl⟩) :: news) → 1 < vs.size → vs[1]? = some .none → (∀ q ∈ news, q.1 ≠ e) → s.heap.get? e = none → Q (.ref e) { s with heap := h', toks := tk' }) :
   wpAny (model PySem.Challenge.rw_pb0182_01.row.prog w) A (call (.ref 68) [.str msg t]) Q E s := by
  have st0 : Stop "getMethod ref" := .mk
  have st1 : Stop "setAttr ref" := .mk
  have X := C.X.keeps F.keep
  obtain ⟨hh, g, d, tk, os⟩ := s
  have hC := X 68 _ (by k_is)
  have hI := X 45 _ (by k_is)
  refine TF.call_exc (F := PySem.F.excBase_Exception) (by decide) (by decide) (by decide) hC (looks_findIn X (by k_is)) hI rfl fun h' e hm => ?_
  obtain ⟨t0, he, ht0, ht1⟩ := hm.there
  have F' : Fr h₀ L h' m := F.keeps hm.keeps
  have offe : ∀ q ∈ news, q.1 ≠ e := fun q hq z => by have := (N q hq).1; rw [z, hm.new] at this; cases this
  have eL : e ≠ L := fun z => by obtain ⟨_, _, _, q, _⟩ := F.ns; rw [← z, hm.new] at q; cases q
  have e0 : h₀.get? e = none := by
    cases q : h₀.get? e with
    | none => rfl
    | some o => have := F.keep _ _ q; rw [hm.new] at this; cases this
  have N' : News h₀ L h' ((e, { cls := .ref 68, data := .fields #[.ref t0, .none, .none, .none, .bool false, .none] }) :: news) := fun q hq => by
    revert q; refine fa_cons ?_ fun q hq => ?_
    · exact ⟨he, eL, e0⟩
    · exact ⟨hm.keeps _ _ (N q hq).1, (N q hq).2⟩
  refine wpAny_call ?_
  k_dflt (refine' enter_super (C.under (by rfl) (by rfl)) F' N' ?k6 ?k7 ?k8 ?k9 ?kB ?_ ?c5 ?c2 ?c3 ?c4)
  case k6 => k_is
  case k7 => k_is
  case k8 => exact Nat.lt_of_le_of_lt (Nat.add_le_add_right hd _) (show 888 + 1 < recursionLimit by decide)
  case k9 => exact binds_K (X.keeps hm.keeps) rfl (by k_is) rfl rfl rfl
  case c5 => decide
  case kB => exact locs rfl
  case c2 => exact rfl
  case c3 => exact rfl
  case c4 => exact rfl
  intro g' L' h₁ C₁ F₁ N₁ G₁ l1
  have X₁ := C₁.X
  have T₁ := C₁.T
  have B₁ := C₁.B
  k_steps
  rename News _ _ _ _ => N₂
  rename Fr _ _ _ _ => F₂
  have e68 : e ≠ 68 := fun z => by
    have z1 := (N₂ _ (.tail _ (.head _))).2.2
    have z2 := X₁ 68 _ (by k_is)
    dsimp only at z1
    rw [z, z2] at z1
    cases z1
  refine Hold.go (TF.sup_method (N₂ _ (.head _)).1 (X₁.keeps F₂.keep) (N₂ _ (.tail _ (.head _))).1 e68 (TF.along w) (by decide +kernel) C₁.hh C₁.hG (by show A.depth + 1 + 1 ≤ 890; omega) (by show A.units + _ + 3 ≤ 4990; have : Code.cUnits (.builtin "type.__call__" ⟨[.ref 68, .str msg t], []⟩) ≤ 20 := Nat.le_of_ble_eq_true (by with_unfolding_all rfl); omega) fun q h₃ tk₃ hk hq0 hq1 => ?_)
  dsimp only
  refine callWith_M (x := e) ?_
  have F₃ := F₂.keeps hk
  have N₃ := fun b hb => (⟨hk _ _ (N₂ b hb).1, (N₂ b hb).2⟩ : h₃.get? b.1 = some b.2 ∧ b.1 ≠ L' ∧ g'.get? b.1 = none)
  clear N₂
  have N₃' : News g' L' h₃ _ := N₃
  k_steps

  rename News _ _ _ _ => N₄
  refine TF.mw_call (X₁.keeps F₃.keep 68 _ (by k_is)) rfl hq1 (N₄ _ (.tail _ (.head _))).1 rfl rfl fun h₄ t' tk₄ hk4 ⟨o4, e4, c4, d4, f4⟩ => ?_
  obtain ⟨F₅, K₅⟩ := upd_x F₃ N₄ (.tail _ (.head _)) hk4
  have N₆ : News g' L' h₄ ((e, o4) :: news) := fun q hq => by
    revert q; refine fa_cons ?_ fun q hq => ?_
    · exact ⟨e4, (N₄ _ (.tail _ (.head _))).2⟩
    · exact K₅ q (.tail _ (.tail _ hq)) (offe q hq)
  clear N₄ K₅ N₃
  refine PySem.wpAt_of_wpAny ?_
  k_steps
  have nc4 : ∀ c, o4.data ≠ .cls c := fun c z => by rw [f4] at z; cases z
  refine Hold.go (TF.store_attr2 (ns := []) PySem.F.store_Exception (X₁.keeps F₅.keep 68 _ (by k_is)) (looks_findIn (X₁.keeps F₅.keep) (by k_is)) (looks_findIn (X₁.keeps F₅.keep) (by k_is)) ⟨o4, e4, c4, nc4, .inl ⟨d4, fun _ => rfl⟩⟩ (fun h₅ tk₅ I₅ hk5 hs5 => ?_) Within.nil (by simp))
  obtain ⟨o5, e5, c5, f5, d5⟩ := hs5 o4 e4
  have hk5' : ∀ b ob, b ≠ e → h₄.get? b = some ob → h₅.get? b = some ob := fun b ob hb ge => hk5 b ob hb (fun o₀ dx h0 hdx => by
    rw [e4] at h0; cases h0
    have d4' : o4.dict = none := d4
    rw [d4'] at hdx; cases hdx) ge
  obtain ⟨F₆, K₆⟩ := upd_x F₅ N₆ (.head _) hk5'
  have N₇ : News g' L' h₅ ((e, o5) :: news) := fun q hq => by
    revert q; refine fa_cons ?_ fun q hq => ?_
    · exact ⟨e5, (N₆ _ (.head _)).2⟩
    · exact K₆ q (.tail _ hq) (offe q hq)
  clear K₆
  dsimp only
  k_steps
  refine Hold.go (TF.store_attr2 (ns := [_]) PySem.F.store_Exception (X₁.keeps F₆.keep 68 _ (by k_is)) (looks_findIn (X₁.keeps F₆.keep) (by k_is)) (looks_findIn (X₁.keeps F₆.keep) (by k_is)) I₅ (fun h₆ tk₆ I₆ hk6 hs6 => ?_) (Within.cons _ _ Within.nil) (by simp))
  obtain ⟨o6, e6, c6, f6, d6⟩ := hs6 o5 e5
  have hk6' : ∀ b ob, b ≠ e → h₄.get? b = some ob → h₆.get? b = some ob := fun b ob hb ge => hk6 b ob hb (fun o₀ dx h0 hdx z => by
    rw [e5] at h0; cases h0
    rcases d5 dx hdx with q | q
    · have d4' : o4.dict = none := d4
      rw [d4'] at q; cases q
    · rw [← z, ge] at q; cases q) (hk5' b ob hb ge)
  obtain ⟨F₇, K₇⟩ := upd_x F₅ N₆ (.head _) hk6'
  have N₈ : News g' L' h₆ ((e, o6) :: news) := fun q hq => by
    revert q; refine fa_cons ?_ fun q hq => ?_
    · exact ⟨e6, (N₆ _ (.head _)).2⟩
    · exact K₇ q (.tail _ hq) (offe q hq)
  dsimp only
  k_steps
  refine ⟨_, _, _, F₇, N₈, fun Ff Nf => ⟨rfl, ?_⟩⟩
  have cc : o6.cls = .ref 68 := c6.trans (c5.trans c4)
  have dd : o6.data = .fields (#[.ref t0, .none, .none, .none, .bool false, .none].setIfInBounds 0 (.ref t')) := f6.trans (f5.trans f4)
  obtain ⟨oc, odt, oda, osl⟩ := o6
  cases cc
  cases dd
  exact hret e odt _ osl _ _ Ff Nf (by rw [Array.size_setIfInBounds]; show 1 < 6; decide) rfl offe hm.new
end
end Mine
end TextE3
section TextE4
open PySem PySem.W PyProof.Rows PySem.Calls PySem.Spec
set_option Elab.async false
set_option maxRecDepth 100000
set_option maxHeartbeats 1000000
namespace Mine
section
variable {M : Model} {A : Around} {E : Value → Shared → Prop} {env : Env}
variable {nm q : Str} {C N : Addr} {bs bm : List Value} {hdct : Bool} {sn : List Str} {sub : List Value} {ab : Bool} {col : Option Bool} {dd : Option Addr} {k0 k1 k2 k3 k5 : Option Value} {newId : String}
theorem raise_made {s : Shared} {x : Sem Value} {Q : Flow → Shared → Prop} (hh : A.handled = none)
    (h : wpAny M A x (fun v s₁ => ∃ e od vs sl nm q C N bs bm hdct sn sub ab col dd k0 k1 k2 k3 k5 newId, v = .ref e ∧ bm.contains (.type "BaseException") = true ∧ s₁.heap.get? C = some (excClassObj nm q C N bs bm hdct sn sub ab col dd k0 k1 k2 k3 k5 newId) ∧
      s₁.heap.get? e = some ⟨.ref C, od, .fields vs, sl⟩ ∧ vs[1]? = some .none ∧ E (.ref e) s₁) E s) :
    wpAny M A (raiseStmt env (some x) none) Q E s := by
  unfold raiseStmt
  refine wpAny_bind (wpAny_mono h (fun v s₁ h₁ => ?_) fun _ _ x => x)
  obtain ⟨e, od, vs, sl, nm, q, C, N, bs, bm, hdct, sn, sub, ab, col, dd, k0, k1, k2, k3, k5, newId, rfl, hbase, hC, he, hv, hE⟩ := h₁
  have hcB : (Value.ref C :: bm).contains (.type "BaseException") = true := by rw [List.contains_cons, hbase, Bool.or_true]
  obtain ⟨hp, g, d, tk, os⟩ := s₁
  repeat (first | with_reducible refine wpAny_loadPart_at he ?_ | with_reducible refine wpAny_loadPart_at hC ?_ | with_reducible refine wpAny_field he rfl hv ?_ | (with_reducible refine wpAny_isSubtype_exc hC ?_; rw [hcB]) | wp_step)
  exact wpAny_raiseNew_none hh hE
end
theorem fillE4 {w : World} {A : Around} {Q : Value → Shared → Prop} {E : Value → Shared → Prop} {s : Shared} (h : (hd0.heap_1 w.params).In s.heap → wpAny (model PySem.Challenge.rw_pb0182_01.row.prog w) A (call .none []) Q E s) :
    (hd0.heap_1 w.params).In s.heap → wpAny (model PySem.Challenge.rw_pb0182_01.row.prog w) A (call .none []) Q E s := by
  k_fill
  w_top off
  intro hX
  try walk1
  exact h hX
section
variable {w : World} {p : Program} {loose : List Str} {mean : ExcName → Option Value} {mg mb : Str → Option Value} {A A₀ : Around} {env : Env} {outer : List Env} {base h₀ : Heap} {L : Addr} {m : Str → Option Value} {news : List (Addr × Obj)}
theorem raise_tf {M : Model} {E : Value → Shared → Prop} {s : Shared} {x : Sem Value} {Q : Flow → Shared → Prop} (hh : A.handled = none)
    (h : wpAny M A x (fun v s₁ => ∃ e od vs sl, v = .ref e ∧ (hd0.heap_1 w.params).In s₁.heap ∧
      s₁.heap.get? e = some ⟨.ref 68, od, .fields vs, sl⟩ ∧ vs[1]? = some .none ∧ E (.ref e) s₁) E s) :
    wpAny M A (raiseStmt env (some x) none) Q E s := by
  refine raise_made hh (wpAny_mono h (fun _ _ H => ?_) fun _ _ x => x)
  obtain ⟨e, od, vs, sl, h1, h2, h3, h4, h5⟩ := H
  have hC := h2 68 _ (by k_is)
  refine ⟨e, od, vs, sl, _, _, _, _, _, _, _, _, _, _, _, _, _, _, _, _, _, _, h1, ?_, hC, h3, h4, h5⟩
  decide
theorem exc_made {H g h : Heap} {e : Addr} {m' : Str → Option Value} {news' : List (Addr × Obj)} {ms : List Addr} {c : Value} {od : Option Addr} {vs : Array Value} {sl : Array (Option Value)}
    (C' : Cx w p loose mean mg mb A A₀ env outer base g L) (F' : Fr g L h m') (N' : News g L h ((e, ⟨c, od, .fields vs, sl⟩) :: news')) (U : Upto ms H h) (hHe : H.get? e = none) (hsz : 1 < vs.size) (hv : vs[1]? = some .none) :
    Exc H ms base (env :: outer) e c h := by
  refine ⟨U, hHe, fun b o q => F'.keep b o (C'.B.stays b o q), ?_, (pushX C'.B F' C'.hf C'.hk).frames, _, vs, (N' _ (.head _)).1, rfl, rfl, hsz, .inl hv⟩
  cases q : base.get? e with
  | none => rfl
  | some o => have := C'.B.stays e o q; rw [(N' _ (.head _)).2.2] at this; cases this
end
end Mine
end TextE4
section TextF1
open PySem PySem.W PyProof.Rows PySem.Calls PySem.Spec
set_option Elab.async false
set_option maxRecDepth 100000
set_option maxHeartbeats 1000000
namespace Mine
theorem fillK1 {w : World} {A : Around} {Q : Value → Shared → Prop} {E : Value → Shared → Prop} {s : Shared} (h : (hd0.heap_1 w.params).In s.heap → wpAny (model PySem.Challenge.rw_pb0182_01.row.prog w) A (call .none []) Q E s) :
    (hd0.heap_1 w.params).In s.heap → wpAny (model PySem.Challenge.rw_pb0182_01.row.prog w) A (call .none []) Q E s := by
  k_fill
  w_top off
  intro hX
  try walk1
  exact h hX
section
variable {w : World} {p : Program} {loose : List Str} {mean : ExcName → Option Value} {mg mb : Str → Option Value} {A A₀ : Around} {env : Env} {outer : List Env} {base h₀ : Heap} {L : Addr} {m : Str → Option Value} {news : List (Addr × Obj)} {s : Shared}
  {Q E : Value → Shared → Prop}
theorem number_octets_ok {n : Int} {tk tk2 : Tok} (C : Cx w p loose mean mg mb A A₀ env outer base h₀ L) (F : Fr h₀ L s.heap m) (N : News h₀ L s.heap news)
   (hd : A.depth ≤ 885) (hu : A.units ≤ 4850) (hn0 : 0 ≤ n) (hn2 : n < 10 ^ 9)
   (hexc : 65536 ≤ n → ∀ x h' tk', Exc s.heap [] base (env :: outer) x (.ref 68) h' → E (.ref x) { s with heap := h', toks := tk' })
   (hret : n < 65536 → ∀ t h' tk', Fr h₀ L h' m → News h₀ L h' news → Q (.bytes (byteArr [n / 256, n % 256]) t) { s with heap := h', toks := tk' }) :
   wpAny (model PySem.Challenge.rw_pb0182_01.row.prog w) A (call (.ref 75) [.int n tk, .int 2 tk2]) Q E s := by
  have st0 : Stop "eval ListComp" := .mk
  have st1 : Stop "exec Raise some none" := .mk
  have st2 : Stop "call ref" := .mk
  have st3 : Stop "mem 2" := .mk
  refine wpAny_call ?_
  k_dflt (refine' enter_cells C F N ?k6 ?k7 ?k8 ?k9 ?kB ?kD ?_ ?c2 ?c3 ?c4)
  case k6 => k_is
  case k7 => k_is
  case k8 => exact Nat.lt_of_le_of_lt hd (by decide)
  case k9 => exact BindsTo.of_eq rfl
  case kB => exact rfl
  case kD => decide +kernel
  case c2 => exact rfl
  case c3 => exact rfl
  case c4 => exact rfl
  intro g' L' h' tk' cells' C' F' N' Y' G' l1
  try k_fold
  have X' := C'.X
  have T' := C'.T
  have B' := C'.B
  first | (refine foldA ?_; intro qC eC) | (refine foldC ?_; intro qC eC)
  k_cells Y'; (try simp only [List.cons_append, List.nil_append] at N'); (try dsimp only)
  iterate 21 (first | (k_unfold; (try dsimp only)) | (k_end; wrow_close) | walk1 | (dsimp only; walk1))
  have hsh : decide (0 < n.fdiv (2 ^ (8 * 2 : Int).toNat)) = decide (65536 ≤ n) := by
    have : (2:Int) ^ (8*2 : Int).toNat = 65536 := by decide
    rw [this, Int.fdiv_eq_ediv_of_nonneg _ (by decide)]
    congr 1
    apply propext
    omega
  rw [hsh]
  by_cases hn : 65536 ≤ n
  · rw [decide_eq_true hn]
    try k_fold
    k_steps
    refine Hold.go ?_
    rw [arm_exec_Raise]
    rw [arm_evalOpt_some]
    simp only [Option.map]
    refine wpAny_bind (wpAny_standAt (raise_tf (w := w) C'.hh ?_))
    refine wpAny_bind ?_
    try k_fold
    k_steps
    have Ux : Upto [] s.heap _ := upto_of G' N F' N' (fun p hp => .inr (by k_mem))
    refine Hold.go (tf_new C' F' N' (by show A.depth + 1 ≤ 888; omega) (by show A.units + _ ≤ 4890; omega) fun e od vs sl h2 tk2 F2 N2 hsz hv off hnone => wpAny_bind (wpAny_standAt (wpAny_pure ⟨e, od, vs, sl, rfl, X'.keeps F2.keep, (N2 _ (.head _)).1, hv, ?_⟩)))
    refine exc_leaving (Around.frames_deeper C.hA) (exc_made (H := s.heap) (ms := []) C' F2 N2 (upto_of G' N F2 N2 (fun p hp => .inr (by k_mem))) (Ux.none hnone) hsz hv) fun h'' e' => hexc hn _ _ _ e'.exc
  · rw [decide_eq_false hn]
    try k_fold
    k_steps
    refine Hold.go ?_
    refine comp_range F' C'.hh (by with_unfolding_all rfl) (by decide) (by rfl) (by decide) (by rfl) ?_
    try k_fold
    k_steps
    refine Hold.go ⟨_, _, _, _, _, _, _, 2, _, fun i ys nw => nw = _ ∧ IntsAre ys ([n / 256, n % 256].take i), rfl, by assumption, rfl, rfl, by decide, by assumption, by assumption, ⟨rfl, .nil⟩, fun s₂ hs₂ up₂ => ⟨?_, ?_⟩⟩
    · obtain ⟨g, rfl⟩ := hs₂
      intro i v ys nw I oI C oC D m₂ h tk E' hi hy hP hJ hoC hv F₁ N₁ off hIC hID hCD
      try k_fold
      obtain ⟨rfl, hys⟩ := hJ
      obtain ⟨t, rfl⟩ := hP
      try k_fold
      k_steps
      refine ⟨h, _, _, rfl, F₁, N₁, off, rfl, ?_⟩
      rw [bitAnd_m8]
      rcases (by omega : i = 0 ∨ i = 1) with rfl | rfl
      · have e : n.fdiv (2 ^ (8 * (2 - 1 + ((0 : Nat) : Int) * -1)).toNat) % 256 = n / 256 := by
          have : (2 : Int) ^ (8 * (2 - 1 + ((0 : Nat) : Int) * -1)).toNat = 256 := by decide
          rw [this, Int.fdiv_eq_ediv_of_nonneg _ (by decide)]; exact ar_hi hn0 (Int.not_le.mp hn)
        rw [e]
        exact hys.append (.cons _ _ .nil)
      · have e : n.fdiv (2 ^ (8 * (2 - 1 + ((1 : Nat) : Int) * -1)).toNat) % 256 = n % 256 := by
          have : (2 : Int) ^ (8 * (2 - 1 + ((1 : Nat) : Int) * -1)).toNat = 1 := by decide
          rw [this, Int.fdiv_eq_ediv_of_nonneg _ (by decide), Int.ediv_one]
        rw [e]
        exact hys.append (.cons _ _ .nil)
    · obtain ⟨g, rfl⟩ := hs₂
      intro D h tk ys nw F₁ N₁ off hy hJ
      try k_fold
      obtain ⟨rfl, hys⟩ := hJ
      try k_fold
      k_steps
      refine bytes_K F₁ N₁ ⟨_, (N₁ _ (.head _)).1, rfl, _, rfl⟩ hys (fun x hx => ?_) (by rw [hy]; decide) C'.hh fun h₂ t k F₂ N₂ _ => ?_
      · simp only [List.take, List.mem_cons, List.not_mem_nil, or_false] at hx
        exact ar_byte hn0 (Int.not_le.mp hn) hx
      · exact ⟨_, _, news, F₂, fun p hp => N₂ p (.tail _ (.tail _ hp)), fun F₃ N₃ => hret (by omega) _ _ _ F₃ N₃⟩
end
end Mine
end TextF1
section TextS2
open PySem PySem.W PyProof.Rows PySem.Calls PySem.Spec
set_option Elab.async false
set_option maxRecDepth 100000
set_option maxHeartbeats 1000000
namespace Mine
theorem fillS2 {w : World} {A : Around} {Q : Value → Shared → Prop} {E : Value → Shared → Prop} {s : Shared} (h : (hd0.heap_1 w.params).In s.heap → wpAny (model PySem.Challenge.rw_pb0182_01.row.prog w) A (call .none []) Q E s) :
    (hd0.heap_1 w.params).In s.heap → wpAny (model PySem.Challenge.rw_pb0182_01.row.prog w) A (call .none []) Q E s := by
  k_fill
  w_top off
  intro hX
  try walk1
  exact h hX
namespace BA
theorem plainAttrs : PlainAttrs "bytearray" :=
  ⟨⟨"bytearray.__getattribute__", by rw [typeLookup_type, builtinLookup_eq_fast]; kernel_rfl, by decide +kernel⟩, by rw [typeLookup_type, builtinLookup_eq_fast]; kernel_rfl⟩
theorem type_extend : typeOf (.builtin "bytearray.extend") = pure (.type "method_descriptor") := by show builtinType _ = _; rw [builtinType_eq_fast]; kernel_rfl
section
variable {prog : Program} {w : World} {A : Around} {E : Value → Shared → Prop} {s : Shared} {b : Addr} {arr c : Array UInt8} {h₀ : Heap} {L : Addr} {m : Str → Option Value} {rest : List (Addr × Obj)} {t : Tok} {env : Env}
theorem extend_K {Q : Value → Shared → Prop} (hg : A.guards = some []) (F : Fr h₀ L s.heap m) (N : News h₀ L s.heap ((b, ba arr) :: rest)) (nb : ∀ p ∈ rest, p.1 ≠ b) (hz : arr.size + c.size ≤ 16777216)
    (h : ∀ h', Fr h₀ L h' m → News h₀ L h' ((b, ba (arr ++ c)) :: rest) → Q .none { s with heap := h' }) : wpC (model prog w) A (call (.builtin "bytearray.extend") [.ref b, .bytes c t]) Q E s := by
  obtain ⟨ho, hL, hn⟩ := N _ (.head _)
  refine extend hg ho hz fun h' e ho' => ?_
  have sb : Heap.SameBut b s.heap h' := e ▸ Heap.SameBut.update ..
  refine h h' (F.change sb hL hn) fun p hp => ?_
  revert p; refine fa_cons ?_ fun p hp => ?_
  · exact ⟨ho', hL, hn⟩
  · exact ⟨sb.extBut _ _ (nb p hp) (N p (.tail _ hp)).1, (N p (.tail _ hp)).2⟩
theorem get_extend {pl : Sem Bool} {Q : Value × List Value → Shared → Prop} (ho : s.heap.get? b = some (ba arr)) (h : Q (.builtin "bytearray.extend", [.ref b]) s) : wpAny (model prog w) A (getMethod (.ref b) "extend" pl) Q E s :=
  getMethod_builtin ⟨_, ho, rfl⟩ plainAttrs slot_extend type_extend (fun a e => by cases e; exact ⟨_, ho, rfl⟩) h
/-- the statement o.extend(arg) -/
theorem extend_stmt {o arg : Expr} {apos pos pos2 : Pos} {Q : Flow → Shared → Prop} {pl : Sem Bool} (hg : A.guards = some [])
    (h : wpAny (model prog w) A (eval o env) (fun ov s₁ => Hold (∃ b arr, ov = .ref b ∧ s₁.heap.get? b = some (ba arr) ∧ wpAny (model prog w) A (spliced (backTo pos (starEach [arg] env))) (fun vs s₂ => Hold (∃ c t arr rest m, vs = [.bytes c t] ∧ Fr h₀ L s₂.heap m ∧ News h₀ L s₂.heap ((b, ba arr) :: rest) ∧ (∀ p ∈ rest, p.1 ≠ b) ∧ arr.size + c.size ≤ 16777216 ∧
      ∀ h', Fr h₀ L h' m → News h₀ L h' ((b, ba (arr ++ c)) :: rest) → Q .next { s₂ with heap := h' })) E s₁)) E s)
    (he : eval (.Call (.Attribute o "extend" apos) [arg] [] pos) env = (do
      let ov ← eval o env
      standAt apos.atName
      let (f, first) ← holding [ov] (getMethod ov "extend" pl)
      callWith pos f first (backTo pos (starEach [arg] env)) []) := by rfl)
    (hplain : (backTo pos (starEach [arg] env)).any (·.1) = false := by rfl)
    (hi : interactive env = false := by rfl) (hs : swapsWith (.Call (.Attribute o "extend" apos) [arg] [] pos) none pos2.line env = pure false := by rfl) :
    wpC (model prog w) A (exec (.Expr (.Call (.Attribute o "extend" apos) [arg] [] pos) pos2) env) Q E s := by
  refine exprC (methodC (wpAny_mono h (fun ov s₁ h₁ => ?_) fun _ _ x => x) he) hi hs
  obtain ⟨b, arr, rfl, ho, h₁⟩ := h₁
  refine get_extend ho (callWithC (P := fun _ => True) hplain (fun h _ => ⟨.machine, .inr (.inl rfl), Looks.of_pure rfl⟩) (wpC_any (wpAny_mono h₁ (fun vs s₂ h₂ => ⟨trivial, ?_⟩) fun _ _ x => x)))
  obtain ⟨c, t, arr, rest, m, rfl, F, N, nb, hz, k⟩ := h₂
  exact extend_K hg F N nb hz k
end
end BA
section
variable {w : World} {p : Program} {loose : List Str} {mean : ExcName → Option Value} {mg mb : Str → Option Value} {A A₀ : Around} {env : Env} {outer : List Env} {base h₀ : Heap} {L : Addr} {m : Str → Option Value} {news rest : List (Addr × Obj)} {s : Shared}
  {Q E : Value → Shared → Prop}
theorem body_exc2 {prog : Program} {H : Heap} {ms : List Addr} {cls : Value} {env' : Env} {x : Addr} {Ex : Shared → Prop} {Q₂ : Value → Shared → Prop} (hA : A.frames = some (env :: outer)) (e : Exc H ms base (env' :: env :: outer) x cls s.heap)
    (hE : ∀ h', Exc H ms base (env :: outer) x cls h' → Ex { s with heap := h' }) :
    wpAny (model prog w) (A.deeper env') (leaving env' (.ref x)) (fun _ s'' => Ex s'') Q₂ s :=
  exc_leaving (Around.frames_deeper hA) e fun h'' e' => hE h'' e'.exc
theorem u16_ok {n : Int} {tk tt : Tok} {x dx b : Addr} {arr : Array UInt8} (C : Cx w p loose mean mg mb A A₀ env outer base h₀ L) (F : Fr h₀ L s.heap m) (N : News h₀ L s.heap ((b, BA.ba arr) :: rest))
   (hx : (x, instObj 160 dx) ∈ rest) (hdx : (dx, outD w b tt) ∈ rest) (nb : ∀ p ∈ rest, p.1 ≠ b) (hd : A.depth ≤ 880) (hu : A.units ≤ 4800) (hn0 : 0 ≤ n) (hn2 : n < 10 ^ 9) (hz : arr.size + 2 ≤ 16777216)
   (hexc : 65536 ≤ n → ∀ x h' tk', Exc s.heap [] base (env :: outer) x (.ref 68) h' → E (.ref x) { s with heap := h', toks := tk' })
   (hret : n < 65536 → ∀ h' tk', Fr h₀ L h' m → News h₀ L h' ((b, BA.ba (arr ++ byteArr [n / 256, n % 256])) :: rest) → Q .none { s with heap := h', toks := tk' }) :
   wpC (model PySem.Challenge.rw_pb0182_01.row.prog w) A (call (.ref 103) [.ref x, .int n tk]) Q E s := by
  have st0 : Stop "mem 1" := .mk
  have st1 : Stop "call ref" := .mk
  refine wpC_call ?_
  k_dflt (refine' enterC_plain C F N ?k6 ?k7 ?k8 ?k9 ?kB ?_ ?c2 ?c3 ?c4 ?c5)
  case k6 => k_is
  case k7 => k_is
  case k8 => exact Nat.lt_of_le_of_lt hd (by decide)
  case k9 => exact BindsTo.of_eq rfl
  case c5 => decide
  case kB => exact locs rfl
  case c2 => exact rfl
  case c3 => exact rfl
  case c4 => exact rfl
  intro g' L' h₁ C₁ F₁ N₁ G₁ l1
  have X₁ := C₁.X
  have T₁ := C₁.T
  have B₁ := C₁.B
  first | (refine foldA ?_; intro qC eC) | (refine foldC ?_; intro qC eC)
  refine execsC_cons (BA.extend_stmt (h₀ := g') (L := L') C₁.hG ?_)
  k_steps
  refine Hold.go ⟨b, arr, rfl, (N₁ _ (.head _)).1, ?_⟩
  k_steps
  refine Hold.go ?_
  refine number_octets_ok C₁ (by assumption) N₁ (Nat.le_trans (Nat.add_le_add_right hd 1) (by decide)) (Nat.le_trans (Nat.add_le_add_right hu 3) (by decide)) hn0 hn2 (fun hn x' h' tk' e => ?_) (fun hn t' h' tk' F₂ N₂ => ?_)
  · exact body_exc2 C.hA (e.weaken (upto_of G₁ N (by assumption) N₁ fun p hp => .inr hp) (fun b hb => by cases hb)) fun h' e => hexc hn x' h' tk' e
  · k_steps
    refine Hold.go ⟨_, _, arr, rest, _, rfl, F₂, N₂, nb, by rw [byteArr_size]; exact hz, fun h' F₃ N₃ => ?_⟩
    exact execsC_nil ⟨_, _, _, F₃, N₃, fun Ff Nf => hret hn _ _ Ff Nf⟩
end
end Mine
end TextS2
section TextS3
open PySem PySem.W PyProof.Rows PySem.Calls PySem.Spec
set_option Elab.async false
set_option maxRecDepth 100000
set_option maxHeartbeats 1000000
namespace Mine
theorem fillS3 {w : World} {A : Around} {Q : Value → Shared → Prop} {E : Value → Shared → Prop} {s : Shared} (h : (hd0.heap_1 w.params).In s.heap → wpAny (model PySem.Challenge.rw_pb0182_01.row.prog w) A (call .none []) Q E s) :
    (hd0.heap_1 w.params).In s.heap → wpAny (model PySem.Challenge.rw_pb0182_01.row.prog w) A (call .none []) Q E s := by
  k_fill
  w_top off
  intro hX
  try walk1
  exact h hX
/-- the two octets of a number -/
noncomputable def two (n : Int) : List UInt8 := [n / 256, n % 256].map fun n => n.toNat.toUInt8
theorem two_arr (n : Int) : byteArr [n / 256, n % 256] = (two n).toArray := rfl
section
variable {w : World} {p : Program} {loose : List Str} {mean : ExcName → Option Value} {mg mb : Str → Option Value} {A A₀ : Around} {env : Env} {outer : List Env} {base h₀ : Heap} {L : Addr} {m : Str → Option Value} {news rest : List (Addr × Obj)} {s : Shared}
  {Q E : Value → Shared → Prop}
end
section
noncomputable def P_rows_ok (w : World) (p : Program) (loose : List Str) (mean : ExcName → Option Value) (mg : Str → Option Value) (mb : Str → Option Value) (A : Around) (A₀ : Around) (env : Env) (outer : List Env) (base : Heap) (h₀ : Heap) (L : Addr) (m : Str → Option Value) (rest : List (Addr × Obj)) (s : Shared) (Q : Value → Shared → Prop) (E : Value → Shared → Prop) (ns : List Int) (vs : List Value) (k : Nat) (ln : Addr) (tt : Tok) (x : Addr) (dx : Addr) (b : Addr) (arr : Array UInt8) : Prop := ∀ (C : Cx w p loose mean mg mb A A₀ env outer base h₀ L) (F : Fr h₀ L s.heap m) (N : News h₀ L s.heap ((b, BA.ba arr) :: rest)) (hx : (x, instObj 160 dx) ∈ rest) (hdx : (dx, outD w b tt) ∈ rest) (nb : ∀ p ∈ rest, p.1 ≠ b) (hln : (ln, ({ cls := .type "list", data := .seq vs.toArray k } : Obj)) ∈ rest) (hi : IntsAre vs ns) (hns : ∀ n ∈ ns, 0 ≤ n ∧ n < 10 ^ 9) (hlen : ns.length ≤ 1000) (hd : A.depth ≤ 880) (hu : A.units ≤ 4800) (hz : arr.size + 2 * ns.length ≤ 16777216) (hexc : (¬ ∀ n ∈ ns, n < 65536) → ∀ x h' tk', Exc s.heap [] base (env :: outer) x (.ref 68) h' → E (.ref x) { s with heap := h', toks := tk' }) (hret : (∀ n ∈ ns, n < 65536) → ∀ h' tk', Fr h₀ L h' m → News h₀ L h' ((b, BA.ba (arr ++ ((ns.map two).flatten).toArray)) :: rest) → Q .none { s with heap := h', toks := tk' }),
    wpC (model PySem.Challenge.rw_pb0182_01.row.prog w) A (call (.ref 136) [.ref x, .ref ln]) Q E s
noncomputable def c_rows_ok := @Classical.epsilon ((World) × (Program) × (List Str) × (ExcName → Option Value) × (Str → Option Value) × (Str → Option Value) × (Around) × (Around) × (Env) × (List Env) × (Heap) × (Heap) × (Addr) × (Str → Option Value) × (List (Addr × Obj)) × (Shared) × (Value → Shared → Prop) × (Value → Shared → Prop) × (List Int) × (List Value) × (Nat) × (Addr) × (Tok) × (Addr) × (Addr) × (Addr) × (Array UInt8)) ⟨(wDef, default, [], fun _ => none, fun _ => none, fun _ => none, callerA, callerA, default, [], default, default, 0, fun _ => none, [], (PySem.start default).1, fun _ _ => True, fun _ _ => True, [], [], 0, 0, 0, 0, 0, 0, default)⟩ fun v => ¬ P_rows_ok v.1 v.2.1 v.2.2.1 v.2.2.2.1 v.2.2.2.2.1 v.2.2.2.2.2.1 v.2.2.2.2.2.2.1 v.2.2.2.2.2.2.2.1 v.2.2.2.2.2.2.2.2.1 v.2.2.2.2.2.2.2.2.2.1 v.2.2.2.2.2.2.2.2.2.2.1 v.2.2.2.2.2.2.2.2.2.2.2.1 v.2.2.2.2.2.2.2.2.2.2.2.2.1 v.2.2.2.2.2.2.2.2.2.2.2.2.2.1 v.2.2.2.2.2.2.2.2.2.2.2.2.2.2.1 v.2.2.2.2.2.2.2.2.2.2.2.2.2.2.2.1 v.2.2.2.2.2.2.2.2.2.2.2.2.2.2.2.2.1 v.2.2.2.2.2.2.2.2.2.2.2.2.2.2.2.2.2.1 v.2.2.2.2.2.2.2.2.2.2.2.2.2.2.2.2.2.2.1 v.2.2.2.2.2.2.2.2.2.2.2.2.2.2.2.2.2.2.2.1 v.2.2.2.2.2.2.2.2.2.2.2.2.2.2.2.2.2.2.2.2.1 v.2.2.2.2.2.2.2.2.2.2.2.2.2.2.2.2.2.2.2.2.2.1 v.2.2.2.2.2.2.2.2.2.2.2.2.2.2.2.2.2.2.2.2.2.2.1 v.2.2.2.2.2.2.2.2.2.2.2.2.2.2.2.2.2.2.2.2.2.2.2.1 v.2.2.2.2.2.2.2.2.2.2.2.2.2.2.2.2.2.2.2.2.2.2.2.2.1 v.2.2.2.2.2.2.2.2.2.2.2.2.2.2.2.2.2.2.2.2.2.2.2.2.2.1 v.2.2.2.2.2.2.2.2.2.2.2.2.2.2.2.2.2.2.2.2.2.2.2.2.2.2
namespace K_rows_ok
@[irreducible] noncomputable def w : World := c_rows_ok.1
@[irreducible] noncomputable def p : Program := c_rows_ok.2.1
@[irreducible] noncomputable def loose : List Str := c_rows_ok.2.2.1
@[irreducible] noncomputable def mean : ExcName → Option Value := c_rows_ok.2.2.2.1
@[irreducible] noncomputable def mg : Str → Option Value := c_rows_ok.2.2.2.2.1
@[irreducible] noncomputable def mb : Str → Option Value := c_rows_ok.2.2.2.2.2.1
@[irreducible] noncomputable def A : Around := c_rows_ok.2.2.2.2.2.2.1
@[irreducible] noncomputable def A₀ : Around := c_rows_ok.2.2.2.2.2.2.2.1
@[irreducible] noncomputable def env : Env := c_rows_ok.2.2.2.2.2.2.2.2.1
@[irreducible] noncomputable def outer : List Env := c_rows_ok.2.2.2.2.2.2.2.2.2.1
@[irreducible] noncomputable def base : Heap := c_rows_ok.2.2.2.2.2.2.2.2.2.2.1
@[irreducible] noncomputable def h₀ : Heap := c_rows_ok.2.2.2.2.2.2.2.2.2.2.2.1
@[irreducible] noncomputable def L : Nat := c_rows_ok.2.2.2.2.2.2.2.2.2.2.2.2.1
@[irreducible] noncomputable def m : Str → Option Value := c_rows_ok.2.2.2.2.2.2.2.2.2.2.2.2.2.1
@[irreducible] noncomputable def rest : List (Addr × Obj) := c_rows_ok.2.2.2.2.2.2.2.2.2.2.2.2.2.2.1
@[irreducible] noncomputable def s : Shared := c_rows_ok.2.2.2.2.2.2.2.2.2.2.2.2.2.2.2.1
@[irreducible] noncomputable def Q : Value → Shared → Prop := c_rows_ok.2.2.2.2.2.2.2.2.2.2.2.2.2.2.2.2.1
@[irreducible] noncomputable def E : Value → Shared → Prop := c_rows_ok.2.2.2.2.2.2.2.2.2.2.2.2.2.2.2.2.2.1
@[irreducible] noncomputable def ns : List Int := c_rows_ok.2.2.2.2.2.2.2.2.2.2.2.2.2.2.2.2.2.2.1
@[irreducible] noncomputable def vs : List Value := c_rows_ok.2.2.2.2.2.2.2.2.2.2.2.2.2.2.2.2.2.2.2.1
@[irreducible] noncomputable def k : Nat := c_rows_ok.2.2.2.2.2.2.2.2.2.2.2.2.2.2.2.2.2.2.2.2.1
@[irreducible] noncomputable def ln : Nat := c_rows_ok.2.2.2.2.2.2.2.2.2.2.2.2.2.2.2.2.2.2.2.2.2.1
@[irreducible] noncomputable def tt : Tok := c_rows_ok.2.2.2.2.2.2.2.2.2.2.2.2.2.2.2.2.2.2.2.2.2.2.1
@[irreducible] noncomputable def x : Nat := c_rows_ok.2.2.2.2.2.2.2.2.2.2.2.2.2.2.2.2.2.2.2.2.2.2.2.1
@[irreducible] noncomputable def dx : Nat := c_rows_ok.2.2.2.2.2.2.2.2.2.2.2.2.2.2.2.2.2.2.2.2.2.2.2.2.1
@[irreducible] noncomputable def b : Nat := c_rows_ok.2.2.2.2.2.2.2.2.2.2.2.2.2.2.2.2.2.2.2.2.2.2.2.2.2.1
@[irreducible] noncomputable def arr : Array UInt8 := c_rows_ok.2.2.2.2.2.2.2.2.2.2.2.2.2.2.2.2.2.2.2.2.2.2.2.2.2.2
noncomputable def body : { P : Heap → Addr → Heap → Prop // ∀ (C : Cx w p loose mean mg mb A A₀ env outer base h₀ L) (F : Fr h₀ L s.heap m) (N : News h₀ L s.heap ((b, BA.ba arr) :: rest)) (hx : (x, instObj 160 dx) ∈ rest) (hdx : (dx, outD w b tt) ∈ rest) (nb : ∀ p ∈ rest, p.1 ≠ b) (hln : (ln, ({ cls := .type "list", data := .seq vs.toArray k } : Obj)) ∈ rest) (hi : IntsAre vs ns) (hns : ∀ n ∈ ns, 0 ≤ n ∧ n < 10 ^ 9) (hlen : ns.length ≤ 1000) (hd : A.depth ≤ 880) (hu : A.units ≤ 4800) (hz : arr.size + 2 * ns.length ≤ 16777216) (hexc : (¬ ∀ n ∈ ns, n < 65536) → ∀ x h' tk', Exc s.heap [] base (env :: outer) x (.ref 68) h' → E (.ref x) { s with heap := h', toks := tk' }) (hret : (∀ n ∈ ns, n < 65536) → ∀ h' tk', Fr h₀ L h' m → News h₀ L h' ((b, BA.ba (arr ++ ((ns.map two).flatten).toArray)) :: rest) → Q .none { s with heap := h', toks := tk' }), (∀ g' L' h₁, P g' L' h₁) →
    wpC (model PySem.Challenge.rw_pb0182_01.row.prog w) A (call (.ref 136) [.ref x, .ref ln]) Q E s } := by
  refine' ⟨_, _⟩
  rotate_left
  intro C F N hx hdx nb hln hi hns hlen hd hu hz hexc hret hBody
  refine wpC_call ?_
  k_dflt (refine' enterC_plain C F N ?k6 ?k7 ?k8 ?k9 ?kB ?_ ?c2 ?c3 ?c4 ?c5)
  case k6 => k_is
  case k7 => k_is
  case k8 => exact Nat.lt_of_le_of_lt hd (by decide)
  case k9 => exact BindsTo.of_eq rfl
  case c5 => decide
  case kB => exact locs rfl
  case c2 => exact rfl
  case c3 => exact rfl
  case c4 => exact rfl
  exact hBody
noncomputable def PB (v : Heap × Addr × Heap) : Prop := ∀ (C : Cx w p loose mean mg mb A A₀ env outer base h₀ L) (F : Fr h₀ L s.heap m) (N : News h₀ L s.heap ((b, BA.ba arr) :: rest)) (hx : (x, instObj 160 dx) ∈ rest) (hdx : (dx, outD w b tt) ∈ rest) (nb : ∀ p ∈ rest, p.1 ≠ b) (hln : (ln, ({ cls := .type "list", data := .seq vs.toArray k } : Obj)) ∈ rest) (hi : IntsAre vs ns) (hns : ∀ n ∈ ns, 0 ≤ n ∧ n < 10 ^ 9) (hlen : ns.length ≤ 1000) (hd : A.depth ≤ 880) (hu : A.units ≤ 4800) (hz : arr.size + 2 * ns.length ≤ 16777216) (hexc : (¬ ∀ n ∈ ns, n < 65536) → ∀ x h' tk', Exc s.heap [] base (env :: outer) x (.ref 68) h' → E (.ref x) { s with heap := h', toks := tk' }) (hret : (∀ n ∈ ns, n < 65536) → ∀ h' tk', Fr h₀ L h' m → News h₀ L h' ((b, BA.ba (arr ++ ((ns.map two).flatten).toArray)) :: rest) → Q .none { s with heap := h', toks := tk' }), body.1 v.1 v.2.1 v.2.2
noncomputable def cb := @Classical.epsilon (Heap × Addr × Heap) ⟨(default, 0, default)⟩ fun v => ¬ PB v
@[irreducible] noncomputable def g' : Heap := cb.1
@[irreducible] noncomputable def L' : Nat := cb.2.1
@[irreducible] noncomputable def h₁ : Heap := cb.2.2
theorem inner : PB (g', L', h₁) := by
  have st0 : Stop "mem 1" := .mk
  have st1 : Stop "call ref" := .mk
  have st2 : Stop "eval ListComp" := .mk
  have st3 : Stop "call builtin:bytes.join" := .mk
  have st4 : Stop "join" := .mk
  unfold PB
  intro C F N hx hdx nb hln hi hns hlen hd hu hz hexc hret
  delta body
  dsimp only
  intro C₁ F₁ N₁ G₁ l1
  try k_fold
  have X₁ := C₁.X
  have T₁ := C₁.T
  have B₁ := C₁.B
  first | (refine foldA ?_; intro qC eC) | (refine foldC ?_; intro qC eC)
  refine execsC_cons (BA.extend_stmt (h₀ := g') (L := L') C₁.hG ?_)
  try k_fold
  k_steps
  refine Hold.go ⟨b, arr, rfl, (N₁ _ (.head _)).1, ?_⟩
  try k_fold
  k_steps
  refine Hold.go ?_
  refine comp_listE (H := s.heap) (ms := []) (cls := .ref 68) (¬ ∀ n ∈ ns, n < 65536) F₁ C₁.hh C₁.B C₁.hA C₁.hf (by with_unfolding_all rfl) (by decide) (by rfl) (by decide) (by rfl) ?_
  try k_fold
  k_steps
  have hlen' := hi.length
  refine Hold.go ⟨ln, vs.toArray, (b, BA.ba arr) :: rest, fun i ys nw => nw = (b, BA.ba arr) :: rest ∧ BytesAre ys ((ns.take i).map two) ∧ (∀ n ∈ ns.take i, n < 65536), rfl, by assumption, N₁, by rw [sizeLine_eq, List.size_toArray]; omega, ⟨rfl, .nil, by simp⟩,
    (fun k ys nw z => by obtain ⟨rfl, _⟩ := z; exact .inr ⟨_, .tail _ hln, rfl, _, rfl⟩), upto_of G₁ N (by assumption) N₁ fun p hp => .inr hp, (fun bad x' h' tk' e => ?_), (fun h nw ys i Fh Nh z => by obtain ⟨rfl, _⟩ := z; exact upto_of G₁ N Fh Nh fun p hp => .inr hp), fun s₂ hs₂ up₂ => ⟨?_, ?_⟩⟩
  · exact body_exc2 C.hA e fun h' e => hexc bad x' h' tk' e
  · obtain ⟨g, rfl⟩ := hs₂
    intro i v ys nw I oI oC CC D m₂ h tk E' hE hi' hy hP hJ hoC hv F₂ N₂ off hIC hID hCD
    try k_fold
    obtain ⟨rfl, hys, hall⟩ := hJ
    try k_fold
    obtain ⟨n, t, rfl, hn⟩ := IntsAre.at hi i v (by simpa using hP)
    have hns' := hns n (List.mem_of_getElem? hn)
    try k_fold
    k_steps
    refine Hold.go ?_
    refine number_octets_ok C₁ (by assumption) N₂ (Nat.le_trans (Nat.add_le_add_right hd 1) (by decide)) (Nat.le_trans (Nat.add_le_add_right hu 3) (by decide)) hns'.1 hns'.2 (fun hb x' h' tk' e => ?_) (fun hb t' h' tk' F₃ N₃ => ?_)
    · exact hE (fun z => absurd (z n (List.mem_of_getElem? hn)) (by omega)) x' h' tk' e
    · refine ⟨h', _, _, rfl, F₃, N₃, off, rfl, ?_, ?_⟩
      · rw [List.take_add_one, hn]
        simp only [Option.toList, List.map_append, List.map_cons, List.map_nil]
        exact hys.append (.cons _ _ .nil)
      · rw [List.take_add_one, hn]
        intro z hz
        rcases List.mem_append.mp hz with hz | hz
        · exact hall z hz
        · simp at hz; subst hz; exact hb
  · obtain ⟨g, rfl⟩ := hs₂
    intro D h tk ys nw F₂ N₂ off hy hJ
    try k_fold
    obtain ⟨rfl, hys, hall⟩ := hJ
    simp only [List.size_toArray, hlen', List.take_length] at hys hall
    have hfl : ∀ l : List Int, ((l.map two).flatten).length = 2 * l.length := by
      intro l
      induction l with
      | nil => rfl
      | cons a r ih => rw [List.map_cons, List.flatten_cons, List.length_append, ih]; simp [two]; omega
    have hsz : (((ns.map two).flatten).toArray).size = 2 * ns.length := by rw [List.size_toArray, hfl]
    try k_fold
    k_steps
    refine Hold.go (BJ.call_join ⟨_, (N₂ _ (.head _)).1, rfl, _, rfl⟩ hys (by rw [hfl]; omega) fun t' k' => ?_)
    try k_fold
    k_steps
    refine Hold.go ⟨_, _, arr, rest, _, rfl, F₂, fun p hp => N₂ p (.tail _ hp), nb, (by rw [hsz]; exact hz), fun h' F₃ N₃ => ?_⟩
    exact execsC_nil ⟨_, _, _, F₃, N₃, fun Ff Nf => hret hall _ _ Ff Nf⟩
theorem core : P_rows_ok w p loose mean mg mb A A₀ env outer base h₀ L m rest s Q E ns vs k ln tt x dx b arr := by
  unfold P_rows_ok
  intro C F N hx hdx nb hln hi hns hlen hd hu hz hexc hret
  exact body.2 C F N hx hdx nb hln hi hns hlen hd hu hz hexc hret fun g' L' h₁ => eps_all (P := PB) (by with_unfolding_all exact inner) (g', L', h₁) C F N hx hdx nb hln hi hns hlen hd hu hz hexc hret
end K_rows_ok
theorem rows_ok {w : World} {p : Program} {loose : List Str} {mean : ExcName → Option Value} {mg : Str → Option Value} {mb : Str → Option Value} {A : Around} {A₀ : Around} {env : Env} {outer : List Env} {base : Heap} {h₀ : Heap} {L : Addr} {m : Str → Option Value} {rest : List (Addr × Obj)} {s : Shared} {Q : Value → Shared → Prop} {E : Value → Shared → Prop} {ns : List Int} {vs : List Value} {k : Nat} {ln : Addr} {tt : Tok} {x dx b : Addr} {arr : Array UInt8} (C : Cx w p loose mean mg mb A A₀ env outer base h₀ L) (F : Fr h₀ L s.heap m) (N : News h₀ L s.heap ((b, BA.ba arr) :: rest)) (hx : (x, instObj 160 dx) ∈ rest) (hdx : (dx, outD w b tt) ∈ rest) (nb : ∀ p ∈ rest, p.1 ≠ b) (hln : (ln, ({ cls := .type "list", data := .seq vs.toArray k } : Obj)) ∈ rest) (hi : IntsAre vs ns) (hns : ∀ n ∈ ns, 0 ≤ n ∧ n < 10 ^ 9) (hlen : ns.length ≤ 1000) (hd : A.depth ≤ 880) (hu : A.units ≤ 4800) (hz : arr.size + 2 * ns.length ≤ 16777216) (hexc : (¬ ∀ n ∈ ns, n < 65536) → ∀ x h' tk', Exc s.heap [] base (env :: outer) x (.ref 68) h' → E (.ref x) { s with heap := h', toks := tk' }) (hret : (∀ n ∈ ns, n < 65536) → ∀ h' tk', Fr h₀ L h' m → News h₀ L h' ((b, BA.ba (arr ++ ((ns.map two).flatten).toArray)) :: rest) → Q .none { s with heap := h', toks := tk' }) :
    wpC (model PySem.Challenge.rw_pb0182_01.row.prog w) A (call (.ref 136) [.ref x, .ref ln]) Q E s :=
  eps_all (P := fun v => P_rows_ok v.1 v.2.1 v.2.2.1 v.2.2.2.1 v.2.2.2.2.1 v.2.2.2.2.2.1 v.2.2.2.2.2.2.1 v.2.2.2.2.2.2.2.1 v.2.2.2.2.2.2.2.2.1 v.2.2.2.2.2.2.2.2.2.1 v.2.2.2.2.2.2.2.2.2.2.1 v.2.2.2.2.2.2.2.2.2.2.2.1 v.2.2.2.2.2.2.2.2.2.2.2.2.1 v.2.2.2.2.2.2.2.2.2.2.2.2.2.1 v.2.2.2.2.2.2.2.2.2.2.2.2.2.2.1 v.2.2.2.2.2.2.2.2.2.2.2.2.2.2.2.1 v.2.2.2.2.2.2.2.2.2.2.2.2.2.2.2.2.1 v.2.2.2.2.2.2.2.2.2.2.2.2.2.2.2.2.2.1 v.2.2.2.2.2.2.2.2.2.2.2.2.2.2.2.2.2.2.1 v.2.2.2.2.2.2.2.2.2.2.2.2.2.2.2.2.2.2.2.1 v.2.2.2.2.2.2.2.2.2.2.2.2.2.2.2.2.2.2.2.2.1 v.2.2.2.2.2.2.2.2.2.2.2.2.2.2.2.2.2.2.2.2.2.1 v.2.2.2.2.2.2.2.2.2.2.2.2.2.2.2.2.2.2.2.2.2.2.1 v.2.2.2.2.2.2.2.2.2.2.2.2.2.2.2.2.2.2.2.2.2.2.2.1 v.2.2.2.2.2.2.2.2.2.2.2.2.2.2.2.2.2.2.2.2.2.2.2.2.1 v.2.2.2.2.2.2.2.2.2.2.2.2.2.2.2.2.2.2.2.2.2.2.2.2.2.1 v.2.2.2.2.2.2.2.2.2.2.2.2.2.2.2.2.2.2.2.2.2.2.2.2.2.2) (by with_unfolding_all exact K_rows_ok.core) (w, p, loose, mean, mg, mb, A, A₀, env, outer, base, h₀, L, m, rest, s, Q, E, ns, vs, k, ln, tt, x, dx, b, arr) C F N hx hdx nb hln hi hns hlen hd hu hz hexc hret
end
end Mine
end TextS3
section TextS4
open PySem PySem.W PyProof.Rows PySem.Calls PySem.Spec
set_option Elab.async false
set_option maxRecDepth 100000
set_option maxHeartbeats 1000000
namespace Mine
theorem fillS4 {w : World} {A : Around} {Q : Value → Shared → Prop} {E : Value → Shared → Prop} {s : Shared} (h : (hd0.heap_1 w.params).In s.heap → wpAny (model PySem.Challenge.rw_pb0182_01.row.prog w) A (call .none []) Q E s) :
    (hd0.heap_1 w.params).In s.heap → wpAny (model PySem.Challenge.rw_pb0182_01.row.prog w) A (call .none []) Q E s := by
  k_fill
  w_top off
  intro hX
  try walk1
  exact h hX
section
variable {w : World} {p : Program} {loose : List Str} {mean : ExcName → Option Value} {mg mb : Str → Option Value} {A A₀ : Around} {env : Env} {outer : List Env} {base h₀ : Heap} {L : Addr} {m : Str → Option Value} {news rest : List (Addr × Obj)} {s : Shared}
  {Q E : Value → Shared → Prop}
theorem bytes_of {b : Addr} {arr : Array UInt8} (X : (hd0.heap_1 w.params).In s.heap) (hh : A.handled = none) (hG : A.guards = some []) (hd : A.depth ≤ 900) (hu : A.units ≤ 5000) (ho : s.heap.get? b = some (BA.ba arr)) (hz : arr.size ≤ 16777216)
    (h : ∀ t tk', Q (.bytes arr t) { s with toks := tk' }) : wpAny (model PySem.Challenge.rw_pb0182_01.row.prog w) A (call (.type "bytes") [.ref b]) Q E s :=
  wp_AX hh hG hd hu (wpAny_mono (ba_bytes0 s b arr _ hz X ho) (fun v s' z => by obtain ⟨t, tk, rfl, rfl⟩ := z; exact h t tk) fun _ _ x => x.elim)
theorem add_ok {c : Array UInt8} {tk tt : Tok} {x dx b : Addr} {arr : Array UInt8} (C : Cx w p loose mean mg mb A A₀ env outer base h₀ L) (F : Fr h₀ L s.heap m) (N : News h₀ L s.heap ((b, BA.ba arr) :: rest))
   (hx : (x, instObj 160 dx) ∈ rest) (hdx : (dx, outD w b tt) ∈ rest) (nb : ∀ p ∈ rest, p.1 ≠ b) (hd : A.depth ≤ 880) (hu : A.units ≤ 4800) (hz : arr.size + c.size ≤ 16777216)
   (hret : ∀ h' tk', Fr h₀ L h' m → News h₀ L h' ((b, BA.ba (arr ++ c)) :: rest) → Q .none { s with heap := h', toks := tk' }) :
   wpC (model PySem.Challenge.rw_pb0182_01.row.prog w) A (call (.ref 143) [.ref x, .bytes c tk]) Q E s := by
  have st0 : Stop "mem 1" := .mk
  have st1 : Stop "call ref" := .mk
  have st2 : Stop "call type:bytes" := .mk
  refine wpC_call ?_
  k_dflt (refine' enterC_plain C F N ?k6 ?k7 ?k8 ?k9 ?kB ?_ ?c2 ?c3 ?c4 ?c5)
  case k6 => k_is
  case k7 => k_is
  case k8 => exact Nat.lt_of_le_of_lt hd (by decide)
  case k9 => exact BindsTo.of_eq rfl
  case c5 => decide
  case kB => exact locs rfl
  case c2 => exact rfl
  case c3 => exact rfl
  case c4 => exact rfl
  intro g' L' h₁ C₁ F₁ N₁ G₁ l1
  have X₁ := C₁.X
  have T₁ := C₁.T
  have B₁ := C₁.B
  first | (refine foldA ?_; intro qC eC) | (refine foldC ?_; intro qC eC)
  refine execsC_cons (BA.extend_stmt (h₀ := g') (L := L') C₁.hG ?_)
  try k_fold
  k_steps
  refine Hold.go ⟨b, arr, rfl, (N₁ _ (.head _)).1, ?_⟩
  try k_fold
  k_steps
  refine Hold.go ⟨_, _, arr, rest, _, rfl, by assumption, N₁, nb, hz, fun h' F₃ N₃ => ?_⟩
  exact execsC_nil ⟨_, _, _, F₃, N₃, fun Ff Nf => hret _ _ Ff Nf⟩
theorem octets_ok {tt : Tok} {x dx b : Addr} {arr : Array UInt8} (C : Cx w p loose mean mg mb A A₀ env outer base h₀ L) (F : Fr h₀ L s.heap m) (N : News h₀ L s.heap ((b, BA.ba arr) :: rest))
   (hx : (x, instObj 160 dx) ∈ rest) (hdx : (dx, outD w b tt) ∈ rest) (hd : A.depth ≤ 880) (hu : A.units ≤ 4800) (hz : arr.size ≤ 16777216)
   (hret : ∀ t h' tk', Fr h₀ L h' m → News h₀ L h' ((b, BA.ba arr) :: rest) → Q (.bytes arr t) { s with heap := h', toks := tk' }) :
   wpAny (model PySem.Challenge.rw_pb0182_01.row.prog w) A (call (.ref 157) [.ref x]) Q E s := by
  have st0 : Stop "mem 1" := .mk
  have st1 : Stop "call ref" := .mk
  have st2 : Stop "call type:bytes" := .mk
  refine wpAny_call ?_
  k_dflt (refine' enter_plain C F N ?k6 ?k7 ?k8 ?k9 ?kB ?_ ?c2 ?c3 ?c4 ?c5)
  case k6 => k_is
  case k7 => k_is
  case k8 => exact Nat.lt_of_le_of_lt hd (by decide)
  case k9 => exact BindsTo.of_eq rfl
  case c5 => decide
  case kB => exact locs rfl
  case c2 => exact rfl
  case c3 => exact rfl
  case c4 => exact rfl
  intro g' L' h₁ C₁ F₁ N₁ G₁ l1
  have X₁ := C₁.X
  have T₁ := C₁.T
  have B₁ := C₁.B
  first | (refine foldA ?_; intro qC eC) | (refine foldC ?_; intro qC eC)
  try k_fold
  k_steps
  refine Hold.go (bytes_of (X₁.keeps F₁.keep) C₁.hh C₁.hG (Nat.le_trans (Nat.add_le_add_right hd 1) (by decide)) (Nat.le_trans (Nat.add_le_add_right hu 3) (by decide)) (N₁ _ (.head _)).1 hz fun t tk' => ?_)
  try k_fold
  k_steps
  exact ⟨_, _, _, by assumption, N₁, fun Ff Nf => hret _ _ _ Ff Nf⟩
theorem put_counted_ok {ns : List Int} {vs : List Value} {k : Nat} {ln : Addr} {tt : Tok} {x dx b : Addr} {arr : Array UInt8} (C : Cx w p loose mean mg mb A A₀ env outer base h₀ L) (F : Fr h₀ L s.heap m) (N : News h₀ L s.heap ((b, BA.ba arr) :: rest))
   (hx : (x, instObj 160 dx) ∈ rest) (hdx : (dx, outD w b tt) ∈ rest) (nb : ∀ p ∈ rest, p.1 ≠ b) (hln : (ln, ({ cls := .type "list", data := .seq vs.toArray k } : Obj)) ∈ rest) (hi : IntsAre vs ns) (hns : ∀ n ∈ ns, 0 ≤ n ∧ n < 10 ^ 9) (hlen : ns.length ≤ 1000)
   (hd : A.depth ≤ 870) (hu : A.units ≤ 4700) (hz : arr.size + 2 * ns.length + 2 ≤ 16777216)
   (hexc : (¬ ∀ n ∈ ns, n < 65536) → ∀ x h' tk', Exc s.heap [b] base (env :: outer) x (.ref 68) h' → E (.ref x) { s with heap := h', toks := tk' })
   (hret : (∀ n ∈ ns, n < 65536) → ∀ h' tk', Fr h₀ L h' m → News h₀ L h' ((b, BA.ba (arr ++ (two ns.length ++ (ns.map two).flatten).toArray)) :: rest) → Q .none { s with heap := h', toks := tk' }) :
   wpC (model PySem.Challenge.rw_pb0182_01.row.prog w) A (call (.ref 28) [.ref x, .ref ln]) Q E s := by
  have st0 : Stop "mem 1" := .mk
  have st1 : Stop "call ref" := .mk
  have st2 : Stop "call type:bytes" := .mk
  refine wpC_call ?_
  k_dflt (refine' enterC_plain C F N ?k6 ?k7 ?k8 ?k9 ?kB ?_ ?c2 ?c3 ?c4 ?c5)
  case k6 => k_is
  case k7 => k_is
  case k8 => exact Nat.lt_of_le_of_lt hd (by decide)
  case k9 => exact BindsTo.of_eq rfl
  case c5 => decide
  case kB => exact locs rfl
  case c2 => exact rfl
  case c3 => exact rfl
  case c4 => exact rfl
  intro g' L' h₁ C₁ F₁ N₁ G₁ l1
  have X₁ := C₁.X
  have T₁ := C₁.T
  have B₁ := C₁.B
  first | (refine foldA ?_; intro qC eC) | (refine foldC ?_; intro qC eC)
  have hlen' := hi.length
  have hln₁ : h₁.IsList ln vs.toArray := ⟨_, (N₁ _ (.tail _ hln)).1, rfl, _, rfl⟩
  refine execsC_cons (exprC (methodC ?_))
  try k_fold
  k_steps
  refine callWithC (P := fun h => (hd0.heap_1 w.params).In h) (by rfl) (keeps_K (by k_is)) (wpC_any ?_)
  try k_fold
  k_steps
  refine u16_ok C₁ (by assumption) N₁ hx hdx nb (Nat.le_trans (Nat.add_le_add_right hd 1) (by decide)) (Nat.le_trans (Nat.add_le_add_right hu 3) (by decide)) (by omega) (by omega) (by omega) (fun hb => absurd hb (by omega)) (fun _ h₂ tk₂ F₂ N₂ => ?_)
  try dsimp only
  refine execsC_cons (exprC (methodC ?_))
  try k_fold
  k_steps
  refine callWithC (P := fun h => (hd0.heap_1 w.params).In h) (by rfl) (keeps_K (by k_is)) (wpC_any ?_)
  try k_fold
  k_steps
  refine rows_ok (ns := ns) (vs := vs) C₁ (by assumption) N₂ hx hdx nb hln hi hns hlen (Nat.le_trans (Nat.add_le_add_right hd 1) (by decide)) (Nat.le_trans (Nat.add_le_add_right hu 3) (by decide)) (by rw [Array.size_append, byteArr_size]; simp only [List.length_cons, List.length_nil]; omega) (fun hb x' h' tk' e => ?_) (fun hall h₃ tk₃ F₃ N₃ => ?_)
  · refine body_exc2 C.hA (e.weaken (upto_of G₁ N F₂ N₂ fun p hp => ?_) (fun b hb => by cases hb)) fun h' e => hexc hb x' h' tk' e
    revert p; refine fa_cons ?_ fun p hp => ?_
    · exact .inl ⟨.head _, _, .head _⟩
    · exact .inr (.tail _ hp)
  · dsimp only
    refine execsC_nil ⟨_, _, _, F₃, N₃, fun Ff Nf => hret hall _ _ Ff ?_⟩
    rw [two_arr, Array.append_assoc] at Nf
    simpa using Nf
end
end Mine
end TextS4
section TextS5
open PySem PySem.W PyProof.Rows PySem.Calls PySem.Spec
set_option Elab.async false
set_option maxRecDepth 100000
set_option maxHeartbeats 1000000
namespace Mine
theorem fillS5 {w : World} {A : Around} {Q : Value → Shared → Prop} {E : Value → Shared → Prop} {s : Shared} (h : (hd0.heap_1 w.params).In s.heap → wpAny (model PySem.Challenge.rw_pb0182_01.row.prog w) A (call .none []) Q E s) :
    (hd0.heap_1 w.params).In s.heap → wpAny (model PySem.Challenge.rw_pb0182_01.row.prog w) A (call .none []) Q E s := by
  k_fill
  w_top off
  intro hX
  try walk1
  exact h hX
/-- the dict of a Coverage -/
noncomputable abbrev covD (w : World) (tg : Addr) (tt : Tok) : Obj := dictOf [⟨PyData.keyHash w.params "glyphs", .str "glyphs" tt, .ref tg⟩] 1
section
variable {w : World} {p : Program} {loose : List Str} {mean : ExcName → Option Value} {mg mb : Str → Option Value} {A A₀ : Around} {env : Env} {outer : List Env} {base h₀ : Heap} {L : Addr} {m : Str → Option Value} {news rest : List (Addr × Obj)} {s : Shared}
  {Q E : Value → Shared → Prop}
section
theorem cov_new {tg : Addr} (C : Cx w p loose mean mg mb A A₀ env outer base h₀ L) (F : Fr h₀ L s.heap m) (N : News h₀ L s.heap news)
   (hd : A.depth ≤ 870) (hu : A.units ≤ 4700) (h : ∀ x dx tt h' tk, Fr h₀ L h' m → News h₀ L h' ((x, instObj 210 dx) :: (dx, covD w tg tt) :: news) → x ≠ dx → (∀ p ∈ news, p.1 ≠ dx ∧ p.1 ≠ x) → Q (.ref x) { s with heap := h', toks := tk }) :
   wpAny (model PySem.Challenge.rw_pb0182_01.row.prog w) A (call (.ref 210) [.ref tg]) Q E s := by
  have st0 : Stop "all 1" := .mk
  refine wpAny_call (make_K (fI := 186) F N (C.X.keeps F.keep) (by k_is) (by k_is) (by k_is) fun x dx h' F₀ N₀ l1 l2 => ?_)
  have N₀' : News h₀ L h' ((x, instObj 210 dx) :: (dx, dictOf [] 0) :: news) := N₀
  k_dflt (refine' enter_plain (C.under (by rfl) (by rfl)) F₀ N₀' ?k6 ?k7 ?k8 ?k9 ?kB ?_ ?c2 ?c3 ?c4 ?c5)
  case k6 => k_is
  case k7 => k_is
  case k8 => exact Nat.lt_of_le_of_lt (Nat.add_le_add_right hd _) (show 870 + 1 < recursionLimit by decide)
  case k9 => exact BindsTo.of_eq rfl
  case c5 => decide
  case kB => exact locs rfl
  case c2 => exact rfl
  case c3 => exact rfl
  case c4 => exact rfl
  intro g' L' h₁ C₁ F₁ N₁ G₁ l3
  try k_fold
  have X₁ := C₁.X
  have T₁ := C₁.T
  have B₁ := C₁.B
  first | (refine foldA ?_; intro qC eC) | (refine foldC ?_; intro qC eC)
  have n2 : x ≠ dx := Ne.symm (Nat.ne_of_lt l2)
  have n3 : ∀ p ∈ news, p.1 ≠ dx := fun p hp => Nat.ne_of_lt (l1 p hp)
  try k_fold
  k_steps
  refine ⟨_, _, _, by assumption, by assumption, fun Ff Nf => ⟨rfl, ?_⟩⟩
  exact h x dx _ _ _ Ff Nf n2 fun p hp => ⟨n3 p hp, Nat.ne_of_lt (Nat.lt_trans (l1 p hp) l2)⟩
end
noncomputable def CJ (d lg : Addr) (w : World) (gs : List Int) (news : List (Addr × Obj)) (i : Nat) (m : Str → Option Value) (nw : List (Addr × Obj)) : Prop :=
  (∃ v : Option Value, m = fun y => if y = ("glyph" : Str) then v else if y = ("found" : Str) then some (Value.ref d) else if y = ("glyphs" : Str) then some (Value.ref lg) else none) ∧
  ∃ o, nw = (d, o) :: news ∧ o.IsDictOf (PySem.intKind PySem.Challenge.rw_pb0182_01.row.prog w) ((gs.take i).map fun g => (g, Value.bool true))
theorem tuple_new {l : Addr} {vs : List Value} {prog : Program} (F : Fr h₀ L s.heap m) (N : News h₀ L s.heap news) (hl : s.heap.IsList l vs.toArray)
    (hQ : ∀ (D : Addr) h', Fr h₀ L h' m → News h₀ L h' ((D, { cls := .type "tuple", data := .seq vs.toArray }) :: news) → (∀ p ∈ news, p.1 < D) → Q (.ref D) { s with heap := h' }) (hsz : vs.length ≤ 1000) :
    wpAny (model prog w) A (call (.type "tuple") [.ref l]) Q E s := by
  refine call_tuple_list hl (fun h' hk => ?_) (by rw [List.size_toArray, sizeLine_eq]; omega)
  have F' : Fr h₀ L h' m := F.keeps hk
  have N' : News h₀ L h' news := fun p hp => ⟨hk _ _ (N p hp).1, (N p hp).2⟩
  exact hQ _ _ (F'.push _) (N'.push F' _) fun p hp => Heap.lt_size (N' p hp).1
theorem stored_new {gs : List Int} {g : Int} (h : g ∉ gs) : stored (gs.map fun g => (g, Value.bool true)) g (.bool true) = (gs ++ [g]).map fun g => (g, Value.bool true) := by
  unfold stored
  rw [if_neg]
  · simp
  · simp only [List.any_map, List.any_eq_true, Function.comp, decide_eq_true_eq, not_exists, not_and]
    rintro x hx rfl
    exact h hx
theorem coverage_of_ok {lg : Addr} {ol : Obj} {vs : List Value} {gs : List Int} {k : Nat} (C : Cx w p loose mean mg mb A A₀ env outer base h₀ L) (F : Fr h₀ L s.heap m) (N : News h₀ L s.heap news)
   (hlg : (lg, ol) ∈ news) (hoc : ol.cls = .type "list") (hod : ol.data = .seq vs.toArray k) (hi : IntsAre vs gs) (hlen : gs.length < 64) (hsorted : gs.Pairwise (· < ·))
   (hd : A.depth ≤ 860) (hu : A.units ≤ 4600)
   (hret : ∀ x dx tg og tt G h' tk', Fr h₀ L h' m → News h₀ L h' ((x, instObj 210 dx) :: (dx, covD w tg tt) :: (tg, og) :: (G ++ news)) → x ≠ dx → x ≠ tg → dx ≠ tg → (∀ p ∈ G ++ news, p.1 ≠ dx ∧ p.1 ≠ x ∧ p.1 ≠ tg) →
     og.cls = .type "tuple" → (∃ vs' k', og.data = .seq vs'.toArray k' ∧ IntsAre vs' gs) → Q (.ref x) { s with heap := h', toks := tk' }) :
   wpAny (model PySem.Challenge.rw_pb0182_01.row.prog w) A (call (.ref 221) [.ref lg]) Q E s := by
  have st0 : Stop "exec For Name Name cons nil" := .mk
  have st1 : Stop "setItem" := .mk
  have st2 : Stop "call ref" := .mk
  have st3 : Stop "call builtin:sorted" := .mk
  have st4 : Stop "call type:tuple" := .mk
  refine wpAny_call ?_
  k_dflt (refine' enter_plain C F N ?k6 ?k7 ?k8 ?k9 ?kB ?_ ?c2 ?c3 ?c4 ?c5)
  case k6 => k_is
  case k7 => k_is
  case k8 => exact Nat.lt_of_le_of_lt hd (by decide)
  case k9 => exact BindsTo.of_eq rfl
  case c5 => decide
  case kB => exact locs rfl
  case c2 => exact rfl
  case c3 => exact rfl
  case c4 => exact rfl
  intro g' L' h₁ C₁ F₁ N₁ G₁ l1
  try k_fold
  have X₁ := C₁.X
  have T₁ := C₁.T
  have B₁ := C₁.B
  first | (refine foldA ?_; intro qC eC) | (refine foldC ?_; intro qC eC)
  have hlen' := hi.length
  try k_fold
  k_steps
  rename_i d hA od l2 lo hsd fsd hid fid hB FB NB
  have offd : ∀ p ∈ news, p.1 ≠ d := fun p hp => Nat.ne_of_lt (l2 p hp)
  refine Hold.go (forA_list (h₀ := g') (L := L') C₁.hh ?_ (by passes_own))
  try k_fold
  k_steps
  refine Hold.go ⟨lg, vs.toArray, _, (d, od) :: news, CJ d lg w gs news, rfl, by assumption, NB, ?_, ?_, ?_⟩
  · refine ⟨⟨none, ?_⟩, od, rfl, hid⟩
    funext y
    show (if y = ("found" : Str) then some (Value.ref d) else List.lookup y [("glyphs", Value.ref lg)]) = _
    rw [look_one]
    by_cases h : y = ("glyph" : Str)
    · subst h; rfl
    · rw [if_neg h]
  · intro k m nw hp1
    try k_fold
    obtain ⟨_, o, rfl, _⟩ := hp1
    exact ⟨ol, _, .tail _ hlg, hoc, hod⟩
  · rintro s₂ ⟨g₂, rfl⟩
    refine ⟨?_, ?_⟩
    · intro i v m₁ nw I oI h tk hv hp1 F₂ N₂ offI
      try k_fold
      obtain ⟨⟨v0, rfl⟩, o, rfl, ho⟩ := hp1
      try k_fold
      obtain ⟨gl, t, rfl, hg⟩ := IntsAre.at hi i v (by simpa using hv)
      try k_fold
      k_steps
      rename News _ _ _ _ => N₃
      rename Fr _ _ _ _ => F₃
      have hig : gl ∉ gs.take i := fun hm => by
        try k_fold
        obtain ⟨j, hj, e⟩ := List.getElem_of_mem hm
        have hji : j < i := by rw [List.length_take] at hj; omega
        rw [List.getElem_take] at e
        have hi' : i < gs.length := by
          rcases Nat.lt_or_ge i gs.length with z | z
          · exact z
          · rw [List.getElem?_eq_none z] at hg; cases hg
        have := List.pairwise_iff_getElem.mp hsorted j i (by omega) hi' hji
        rw [e] at this
        rw [List.getElem?_eq_getElem hi'] at hg
        cases hg
        omega
      refine Hold.go (kda_set (knd := PySem.intKind PySem.Challenge.rw_pb0182_01.row.prog w) (k := gl) F₃ N₃ (.tail (Ne.symm (offI _ (.head _))) (.head offd)) ho (by show Value.isInt gl (Value.int gl t) = true; simp [Value.isInt]) (by rw [List.length_map, sizeLine_eq, List.length_take]; omega) fun h₅ o₅ F₅ N₅ hd₅ => ?_)
      try k_fold
      k_steps
      try dsimp only
      exact Hold.go ⟨h₅, _, _, (d, o₅) :: news, rfl, upd_upd ▸ F₅, N₅, (fun p hp => by
        revert p; refine fa_cons ?_ fun p hp => ?_
        · exact offI (d, o) (.head _)
        · exact offI p (.tail _ hp)), ⟨_, rfl⟩, o₅, rfl, by
        rw [stored_new hig] at hd₅
        rw [List.take_add_one, hg]; exact hd₅⟩
    · intro h tk m₁ nw F₂ N₂ hp1
      try k_fold
      obtain ⟨⟨v0, rfl⟩, o, rfl, ho⟩ := hp1
      simp only [List.size_toArray, hlen', List.take_length] at ho
      try k_fold
      k_steps
      refine Hold.go (sorted_dict C₁.hh (by assumption) N₂ (.head _) ho lo (by rw [List.length_map]; exact hlen) fun D vs' ns' c h₃ tk₃ F₃ N₃ l3 hI perm pw => ?_)
      have hns : ns' = gs := by
        refine ksm_same ?_ pw (hsorted.imp Int.le_of_lt)
        have e : (gs.map fun g => (g, Value.bool true)).map (·.1) = gs := by rw [List.map_map]; exact List.map_id' gs
        rw [e] at perm; exact perm
      subst hns
      try k_fold
      k_steps
      refine Hold.go (tuple_new F₃ N₃ ⟨_, (N₃ _ (.head _)).1, rfl, _, rfl⟩ (fun Dt h₄ F₄ N₄ k4 => ?_) (by rw [hI.length]; omega))
      have hsz : ∀ p ∈ (D, W.listOf vs'.toArray c) :: (d, o) :: news, p.1 ≠ Dt := fun p hp => Nat.ne_of_lt (k4 p hp)
      try k_fold
      k_steps
      refine Hold.go (cov_new C₁ F₄ N₄ (Nat.le_trans (Nat.add_le_add_right hd 1) (by decide)) (Nat.le_trans (Nat.add_le_add_right hu 3) (by decide)) fun x dx tt h₅ tk₅ F₅ N₅ n1 n2 => ?_)
      try k_fold
      k_steps
      exact ⟨_, _, _, F₅, N₅, fun Ff Nf => hret x dx Dt _ tt [(D, W.listOf vs'.toArray c), (d, o)] _ _ Ff Nf n1 (Ne.symm (n2 _ (.head _)).2) (Ne.symm (n2 _ (.head _)).1) (fun p hp => ⟨(n2 p (.tail _ hp)).1, (n2 p (.tail _ hp)).2, hsz p hp⟩) rfl ⟨vs', _, rfl, hI⟩⟩
end
end Mine
end TextS5
section TextS6
open PySem PySem.W PyProof.Rows PySem.Calls PySem.Spec
set_option Elab.async false
set_option maxRecDepth 100000
set_option maxHeartbeats 1000000
namespace Mine
theorem fillS6 {w : World} {A : Around} {Q : Value → Shared → Prop} {E : Value → Shared → Prop} {s : Shared} (h : (hd0.heap_1 w.params).In s.heap → wpAny (model PySem.Challenge.rw_pb0182_01.row.prog w) A (call .none []) Q E s) :
    (hd0.heap_1 w.params).In s.heap → wpAny (model PySem.Challenge.rw_pb0182_01.row.prog w) A (call .none []) Q E s := by
  k_fill
  w_top off
  intro hX
  try walk1
  exact h hX
noncomputable def spanStep (acc : List UInt8 × Int) (r : Int × Int) : List UInt8 × Int := (acc.1 ++ (two r.1 ++ two r.2 ++ two acc.2), acc.2 + r.2 - r.1 + 1)
/-- the octets of spans, and the index behind them -/
noncomputable def spans (rs : List (Int × Int)) : List UInt8 × Int := rs.foldl spanStep ([], 0)
theorem spans_snoc (rs : List (Int × Int)) (r : Int × Int) : spans (rs ++ [r]) = spanStep (spans rs) r := by simp [spans]
theorem spans_size (rs : List (Int × Int)) : (spans rs).1.length = 6 * rs.length := by
  have key : ∀ (l : List (Int × Int)) (acc : List UInt8 × Int), (l.foldl spanStep acc).1.length = acc.1.length + 6 * l.length := by
    intro l
    induction l with
    | nil => intro acc; simp
    | cons a r ih => intro acc; rw [List.foldl_cons, ih]; simp [spanStep, two]; omega
  simpa [spans] using key rs ([], 0)
noncomputable def runLen (r : Int × Int) : Int := r.2 - r.1 + 1
theorem spans_idx (rs : List (Int × Int)) : (spans rs).2 = (rs.map runLen).sum := by
  have key : ∀ (l : List (Int × Int)) (acc : List UInt8 × Int), (l.foldl spanStep acc).2 = acc.2 + (l.map runLen).sum := by
    intro l
    induction l with
    | nil => intro acc; simp
    | cons a r ih => intro acc; rw [List.foldl_cons, ih]; simp [spanStep, runLen]; omega
  simpa [spans] using key rs ([], 0)
theorem runs_facts (gs : List Int) : (∀ r ∈ runs gs, r.1 ∈ gs ∧ r.2 ∈ gs ∧ r.1 ≤ r.2) ∧ ((runs gs).map runLen).sum = (gs.length : Int) ∧ ∀ g ∈ gs, ∃ r ∈ runs gs, g ≤ r.2 := by
  have key : ∀ l : List Int, (∀ r ∈ runs l.reverse, r.1 ∈ l.reverse ∧ r.2 ∈ l.reverse ∧ r.1 ≤ r.2) ∧ ((runs l.reverse).map runLen).sum = (l.reverse.length : Int) ∧ ∀ g ∈ l.reverse, ∃ r ∈ runs l.reverse, g ≤ r.2 := by
    intro l
    induction l with
    | nil => exact ⟨(fun r h => by cases h), rfl, (fun g h => by cases h)⟩
    | cons a l ih =>
      try k_fold
      obtain ⟨i1, i2, i3⟩ := ih
      rw [List.reverse_cons, runs_snoc]
      generalize hR : runs l.reverse = R at i1 i2 i3
      unfold runStep
      rcases List.eq_nil_or_concat R with rfl | ⟨R', q, rfl⟩
      · simp only [List.getLast?_nil]
        refine ⟨fun r h => ?_, ?_, fun g h => ?_⟩
        · simp at h; subst h; simp
        · simp at i2
          simp [runLen, ← i2]
        · rcases List.mem_append.mp h with h | h
          · try k_fold
            obtain ⟨r, hr, _⟩ := i3 g h; cases hr
          · simp at h; subst h; exact ⟨_, .head _, Int.le_refl _⟩
      · rw [List.concat_eq_append] at *
        simp only [List.getLast?_append, List.getLast?_singleton, Option.some_or, List.dropLast_concat]
        have q1 := i1 q (by simp)
        split
        · rename_i hq
          refine ⟨fun r h => ?_, ?_, fun g h => ?_⟩
          · rcases List.mem_append.mp h with h | h
            · have := i1 r (by simp [h]); exact ⟨by simp [this.1], by simp [this.2.1], this.2.2⟩
            · simp at h; subst h; exact ⟨by simp [q1.1], by simp, by simp; omega⟩
          · simp only [List.map_append, List.sum_append, List.map_cons, List.map_nil, List.sum_cons, List.sum_nil, List.length_append, List.length_cons, List.length_nil, runLen] at i2 ⊢
            omega
          · rcases List.mem_append.mp h with h | h
            · try k_fold
              obtain ⟨r, hr, hle⟩ := i3 g h
              rcases List.mem_append.mp hr with hr | hr
              · exact ⟨r, List.mem_append.mpr (.inl hr), hle⟩
              · simp at hr; subst hr; exact ⟨_, List.mem_append.mpr (.inr (.head _)), by simp; omega⟩
            · simp at h; subst h; exact ⟨_, List.mem_append.mpr (.inr (.head _)), Int.le_refl _⟩
        · refine ⟨fun r h => ?_, ?_, fun g h => ?_⟩
          · rcases List.mem_append.mp h with h | h
            · have := i1 r h; exact ⟨by simp [this.1], by simp [this.2.1], this.2.2⟩
            · simp at h; subst h; simp
          · simp only [List.map_append, List.sum_append, List.map_cons, List.map_nil, List.sum_cons, List.sum_nil, List.length_append, List.length_cons, List.length_nil, runLen] at i2 ⊢
            omega
          · rcases List.mem_append.mp h with h | h
            · try k_fold
              obtain ⟨r, hr, hle⟩ := i3 g h
              exact ⟨r, List.mem_append.mpr (.inl hr), hle⟩
            · simp at h; subst h; exact ⟨_, List.mem_append.mpr (.inr (.head _)), Int.le_refl _⟩
  have := key gs.reverse
  rwa [List.reverse_reverse] at this
/-- the index ahead of each span -/
theorem spans_bound (gs : List Int) (i : Nat) : 0 ≤ (spans ((runs gs).take i)).2 ∧ (spans ((runs gs).take i)).2 ≤ gs.length := by
  try k_fold
  obtain ⟨f1, f2, _⟩ := runs_facts gs
  rw [spans_idx]
  have hs : ((runs gs).map runLen).sum = (((runs gs).take i).map runLen).sum + (((runs gs).drop i).map runLen).sum := by
    rw [← List.sum_append, ← List.map_append, List.take_append_drop]
  have pos : ∀ l : List (Int × Int), (∀ r ∈ l, r.1 ≤ r.2) → 0 ≤ (l.map runLen).sum := by
    intro l
    induction l with
    | nil => intro _; simp
    | cons a r ih =>
      intro h
      rw [List.map_cons, List.sum_cons]
      unfold runLen
      have := h a (.head _)
      have := ih fun r hr => h r (.tail _ hr)
      unfold runLen at this
      omega
  have p1 := pos ((runs gs).take i) fun r hr => (f1 r (List.mem_of_mem_take hr)).2.2
  have p2 := pos ((runs gs).drop i) fun r hr => (f1 r (List.mem_of_mem_drop hr)).2.2
  omega
noncomputable def coverBytes (gs : List Int) : List UInt8 :=
  if 2 * gs.length ≤ 6 * (runs gs).length then two 1 ++ two gs.length ++ (gs.map two).flatten
  else two 2 ++ two (runs gs).length ++ (spans (runs gs)).1
section
variable {w : World} {p : Program} {loose : List Str} {mean : ExcName → Option Value} {mg mb : Str → Option Value} {A A₀ : Around} {env : Env} {outer : List Env} {base h₀ : Heap} {L : Addr} {m : Str → Option Value} {news rest : List (Addr × Obj)} {s : Shared}
  {Q E : Value → Shared → Prop}
theorem news_swap {h₀ h : Heap} {L : Addr} {a c : Addr × Obj} {l : List (Addr × Obj)} (N : News h₀ L h (a :: c :: l)) : News h₀ L h (c :: a :: l) := fun p hp => N p (by
  revert p; refine fa_cons ?_ fun p hp => ?_
  · exact .tail _ (.head _)
  · revert p; refine fa_cons ?_ fun p hp => ?_
    · exact .head _
    · exact .tail _ (.tail _ hp))
theorem off_head {I a : Addr} {o o' : Obj} {l : List (Addr × Obj)} (h : ∀ p ∈ (a, o) :: l, p.1 ≠ I) : ∀ p ∈ (a, o') :: l, p.1 ≠ I := fun p hp => by
  revert p; refine fa_cons ?_ fun p hp => ?_
  · exact h (a, o) (.head _)
  · exact h p (.tail _ hp)
theorem flat_two : ∀ l : List Int, ((l.map two).flatten).length = 2 * l.length
  | [] => rfl
  | a :: r => by rw [List.map_cons, List.flatten_cons, List.length_append, flat_two r]; simp [two]; omega
theorem lenT {prog : Program} {x : Addr} {its : Array Value} {n : Nat} (ht : IsTup s.heap x its) (hn : its.size = n) (hz : n ≤ 1000) (h : Q (.int n (s.toks + 1)) { s with toks := s.toks + 1 + 1 }) : wpAny (model prog w) A (call (.builtin "len") [.ref x]) Q E s := by
  subst hn
  exact PyProof.Rows.len_tuple ht (by omega) h
theorem lenL {prog : Program} {x : Addr} {its : Array Value} {n : Nat} (ht : s.heap.IsList x its) (hn : its.size = n) (hz : n ≤ 1000) (h : Q (.int n (s.toks + 1)) { s with toks := s.toks + 1 + 1 }) : wpAny (model prog w) A (call (.builtin "len") [.ref x]) Q E s := by
  subst hn
  exact PyProof.Rows.len_list ht (by omega) h
end
section
noncomputable def P_write_coverage_ok (w : World) (p : Program) (loose : List Str) (mean : ExcName → Option Value) (mg : Str → Option Value) (mb : Str → Option Value) (A : Around) (A₀ : Around) (env : Env) (outer : List Env) (base : Heap) (h₀ : Heap) (L : Addr) (m : Str → Option Value) (news : List (Addr × Obj)) (s : Shared) (Q : Value → Shared → Prop) (E : Value → Shared → Prop) (cv : Addr) (dx : Addr) (tt : Tok) (k : Nat) : Prop := ∀ (tg : Addr) (og : Obj) (vs : List Value) (gs : List Int) (C : Cx w p loose mean mg mb A A₀ env outer base h₀ L) (F : Fr h₀ L s.heap m) (N : News h₀ L s.heap news) (hcv : (cv, instObj 210 dx) ∈ news) (hdx : (dx, covD w tg tt) ∈ news) (htg : (tg, og) ∈ news) (hoc : og.cls = .type "tuple") (hod : og.data = .seq vs.toArray k) (hi : IntsAre vs gs) (hlen : gs.length ≤ 60) (hgs : ∀ g ∈ gs, 0 ≤ g ∧ g < 10 ^ 6) (hd : A.depth ≤ 850) (hu : A.units ≤ 4500) (hexc : (¬ ∀ g ∈ gs, g < 65536) → ∀ x h' tk', Exc s.heap [] base (env :: outer) x (.ref 68) h' → E (.ref x) { s with heap := h', toks := tk' }) (hret : (∀ g ∈ gs, g < 65536) → ∀ t G h' tk', Fr h₀ L h' m → News h₀ L h' (G ++ news) → Q (.bytes (coverBytes gs).toArray t) { s with heap := h', toks := tk' }),
    wpC (model PySem.Challenge.rw_pb0182_01.row.prog w) A (call (.ref 236) [.ref cv]) Q E s
noncomputable def c_write_coverage_ok := @Classical.epsilon ((World) × (Program) × (List Str) × (ExcName → Option Value) × (Str → Option Value) × (Str → Option Value) × (Around) × (Around) × (Env) × (List Env) × (Heap) × (Heap) × (Addr) × (Str → Option Value) × (List (Addr × Obj)) × (Shared) × (Value → Shared → Prop) × (Value → Shared → Prop) × (Addr) × (Addr) × (Tok) × (Nat)) ⟨(wDef, default, [], fun _ => none, fun _ => none, fun _ => none, callerA, callerA, default, [], default, default, 0, fun _ => none, [], (PySem.start default).1, fun _ _ => True, fun _ _ => True, 0, 0, 0, 0)⟩ fun v => ¬ P_write_coverage_ok v.1 v.2.1 v.2.2.1 v.2.2.2.1 v.2.2.2.2.1 v.2.2.2.2.2.1 v.2.2.2.2.2.2.1 v.2.2.2.2.2.2.2.1 v.2.2.2.2.2.2.2.2.1 v.2.2.2.2.2.2.2.2.2.1 v.2.2.2.2.2.2.2.2.2.2.1 v.2.2.2.2.2.2.2.2.2.2.2.1 v.2.2.2.2.2.2.2.2.2.2.2.2.1 v.2.2.2.2.2.2.2.2.2.2.2.2.2.1 v.2.2.2.2.2.2.2.2.2.2.2.2.2.2.1 v.2.2.2.2.2.2.2.2.2.2.2.2.2.2.2.1 v.2.2.2.2.2.2.2.2.2.2.2.2.2.2.2.2.1 v.2.2.2.2.2.2.2.2.2.2.2.2.2.2.2.2.2.1 v.2.2.2.2.2.2.2.2.2.2.2.2.2.2.2.2.2.2.1 v.2.2.2.2.2.2.2.2.2.2.2.2.2.2.2.2.2.2.2.1 v.2.2.2.2.2.2.2.2.2.2.2.2.2.2.2.2.2.2.2.2.1 v.2.2.2.2.2.2.2.2.2.2.2.2.2.2.2.2.2.2.2.2.2
namespace K_write_coverage_ok
@[irreducible] noncomputable def w : World := c_write_coverage_ok.1
@[irreducible] noncomputable def p : Program := c_write_coverage_ok.2.1
@[irreducible] noncomputable def loose : List Str := c_write_coverage_ok.2.2.1
@[irreducible] noncomputable def mean : ExcName → Option Value := c_write_coverage_ok.2.2.2.1
@[irreducible] noncomputable def mg : Str → Option Value := c_write_coverage_ok.2.2.2.2.1
@[irreducible] noncomputable def mb : Str → Option Value := c_write_coverage_ok.2.2.2.2.2.1
@[irreducible] noncomputable def A : Around := c_write_coverage_ok.2.2.2.2.2.2.1
@[irreducible] noncomputable def A₀ : Around := c_write_coverage_ok.2.2.2.2.2.2.2.1
@[irreducible] noncomputable def env : Env := c_write_coverage_ok.2.2.2.2.2.2.2.2.1
@[irreducible] noncomputable def outer : List Env := c_write_coverage_ok.2.2.2.2.2.2.2.2.2.1
@[irreducible] noncomputable def base : Heap := c_write_coverage_ok.2.2.2.2.2.2.2.2.2.2.1
@[irreducible] noncomputable def h₀ : Heap := c_write_coverage_ok.2.2.2.2.2.2.2.2.2.2.2.1
@[irreducible] noncomputable def L : Nat := c_write_coverage_ok.2.2.2.2.2.2.2.2.2.2.2.2.1
@[irreducible] noncomputable def m : Str → Option Value := c_write_coverage_ok.2.2.2.2.2.2.2.2.2.2.2.2.2.1
@[irreducible] noncomputable def news : List (Addr × Obj) := c_write_coverage_ok.2.2.2.2.2.2.2.2.2.2.2.2.2.2.1
@[irreducible] noncomputable def s : Shared := c_write_coverage_ok.2.2.2.2.2.2.2.2.2.2.2.2.2.2.2.1
@[irreducible] noncomputable def Q : Value → Shared → Prop := c_write_coverage_ok.2.2.2.2.2.2.2.2.2.2.2.2.2.2.2.2.1
@[irreducible] noncomputable def E : Value → Shared → Prop := c_write_coverage_ok.2.2.2.2.2.2.2.2.2.2.2.2.2.2.2.2.2.1
@[irreducible] noncomputable def cv : Nat := c_write_coverage_ok.2.2.2.2.2.2.2.2.2.2.2.2.2.2.2.2.2.2.1
@[irreducible] noncomputable def dx : Nat := c_write_coverage_ok.2.2.2.2.2.2.2.2.2.2.2.2.2.2.2.2.2.2.2.1
@[irreducible] noncomputable def tt : Tok := c_write_coverage_ok.2.2.2.2.2.2.2.2.2.2.2.2.2.2.2.2.2.2.2.2.1
@[irreducible] noncomputable def k : Nat := c_write_coverage_ok.2.2.2.2.2.2.2.2.2.2.2.2.2.2.2.2.2.2.2.2.2
noncomputable def body : { P : Heap → Addr → Heap → Prop // ∀ (tg : Addr) (og : Obj) (vs : List Value) (gs : List Int) (C : Cx w p loose mean mg mb A A₀ env outer base h₀ L) (F : Fr h₀ L s.heap m) (N : News h₀ L s.heap news) (hcv : (cv, instObj 210 dx) ∈ news) (hdx : (dx, covD w tg tt) ∈ news) (htg : (tg, og) ∈ news) (hoc : og.cls = .type "tuple") (hod : og.data = .seq vs.toArray k) (hi : IntsAre vs gs) (hlen : gs.length ≤ 60) (hgs : ∀ g ∈ gs, 0 ≤ g ∧ g < 10 ^ 6) (hd : A.depth ≤ 850) (hu : A.units ≤ 4500) (hexc : (¬ ∀ g ∈ gs, g < 65536) → ∀ x h' tk', Exc s.heap [] base (env :: outer) x (.ref 68) h' → E (.ref x) { s with heap := h', toks := tk' }) (hret : (∀ g ∈ gs, g < 65536) → ∀ t G h' tk', Fr h₀ L h' m → News h₀ L h' (G ++ news) → Q (.bytes (coverBytes gs).toArray t) { s with heap := h', toks := tk' }), (∀ g' L' h₁, P g' L' h₁) →
    wpC (model PySem.Challenge.rw_pb0182_01.row.prog w) A (call (.ref 236) [.ref cv]) Q E s } := by
  refine' ⟨_, _⟩
  rotate_left
  intro tg og vs gs C F N hcv hdx htg hoc hod hi hlen hgs hd hu hexc hret hBody
  refine wpC_call ?_
  k_dflt (refine' enterC_plain C F N ?k6 ?k7 ?k8 ?k9 ?kB ?_ ?c2 ?c3 ?c4 ?c5)
  case k6 => k_is
  case k7 => k_is
  case k8 => exact Nat.lt_of_le_of_lt hd (by decide)
  case k9 => first | exact BindsTo.of_eq rfl | exact binds_K (C.X.keeps F.keep) rfl (by k_is) rfl rfl rfl
  case c5 => decide
  case kB => exact locs rfl
  case c2 => exact rfl
  case c3 => exact rfl
  case c4 => exact rfl
  exact hBody
noncomputable def PB (v : Heap × Addr × Heap) : Prop := ∀ (tg : Addr) (og : Obj) (vs : List Value) (gs : List Int) (C : Cx w p loose mean mg mb A A₀ env outer base h₀ L) (F : Fr h₀ L s.heap m) (N : News h₀ L s.heap news) (hcv : (cv, instObj 210 dx) ∈ news) (hdx : (dx, covD w tg tt) ∈ news) (htg : (tg, og) ∈ news) (hoc : og.cls = .type "tuple") (hod : og.data = .seq vs.toArray k) (hi : IntsAre vs gs) (hlen : gs.length ≤ 60) (hgs : ∀ g ∈ gs, 0 ≤ g ∧ g < 10 ^ 6) (hd : A.depth ≤ 850) (hu : A.units ≤ 4500) (hexc : (¬ ∀ g ∈ gs, g < 65536) → ∀ x h' tk', Exc s.heap [] base (env :: outer) x (.ref 68) h' → E (.ref x) { s with heap := h', toks := tk' }) (hret : (∀ g ∈ gs, g < 65536) → ∀ t G h' tk', Fr h₀ L h' m → News h₀ L h' (G ++ news) → Q (.bytes (coverBytes gs).toArray t) { s with heap := h', toks := tk' }), body.1 v.1 v.2.1 v.2.2
noncomputable def cb := @Classical.epsilon (Heap × Addr × Heap) ⟨(default, 0, default)⟩ fun v => ¬ PB v
@[irreducible] noncomputable def g' : Heap := cb.1
@[irreducible] noncomputable def L' : Nat := cb.2.1
@[irreducible] noncomputable def h₁ : Heap := cb.2.2
theorem inner : PB (g', L', h₁) := by
  have st0 : Stop "mem 1" := .mk
  have st1 : Stop "name ld" := .mk
  have st2 : Stop "call ref" := .mk
  have st3 : Stop "exec For Name Name cons nil" := .mk
  have st4 : Stop "call builtin:len" := .mk
  unfold PB
  intro tg og vs gs C F N hcv hdx htg hoc hod hi hlen hgs hd hu hexc hret
  delta body
  dsimp only
  intro C₁ F₁ N₁ G₁ l1
  try k_fold
  have X₁ := C₁.X
  have T₁ := C₁.T
  have B₁ := C₁.B
  first | (refine foldA ?_; intro qC eC) | (refine foldC ?_; intro qC eC)
  have hlen' := hi.length
  refine execsC_any ?_
  try k_fold
  k_steps
  refine Hold.go (ranges_ok C₁ (by assumption) N₁ htg hoc hod hi (by omega) (Nat.le_trans (Nat.add_le_add_right hd 1) (by decide)) (Nat.le_trans (Nat.add_le_add_right hu 3) (by decide)) fun lr rs T kk h₂ tk₂ F₂ N₂ offl offT P => ?_)
  try k_fold
  k_steps
  rename News _ _ _ _ => N₃
  rename Fr _ _ _ _ => F₃
  have hrs : rs.length = (runs gs).length := P.1
  have hrl : (runs gs).length ≤ 60 := Nat.le_trans (runs_length gs) hlen
  have hcv' : (cv, instObj 210 dx) ∈ (lr, ({ cls := .type "list", data := .seq rs.toArray kk } : Obj)) :: (T ++ news) := .tail _ (List.mem_append.mpr (.inr hcv))
  have hdx' : (dx, covD w tg tt) ∈ (lr, ({ cls := .type "list", data := .seq rs.toArray kk } : Obj)) :: (T ++ news) := .tail _ (List.mem_append.mpr (.inr hdx))
  have htg' : (tg, og) ∈ (lr, ({ cls := .type "list", data := .seq rs.toArray kk } : Obj)) :: (T ++ news) := .tail _ (List.mem_append.mpr (.inr htg))
  refine Hold.go (execsC_any ?_)
  by_cases hform : 2 * gs.length ≤ 6 * (runs gs).length
  · have hform' : 2 * (gs.length : Int) ≤ 6 * ((runs gs).length : Int) := by omega
    try k_fold
    k_steps
    refine Hold.go (lenT (tup_src N₃ htg' hoc hod) (by rw [List.size_toArray, hlen']) (by omega) ?_)
    try k_fold
    k_steps
    refine Hold.go (lenL ⟨_, (N₃ _ (.head _)).1, rfl, _, rfl⟩ (by rw [List.size_toArray, hrs]) (by omega) ?_)
    try k_fold
    k_steps
    try dsimp only
    refine Hold.go (execsC_cons (assignC (callNameC ?_)))
    try k_fold
    k_steps
    rename News _ _ _ _ => N₄
    rename Fr _ _ _ _ => F₄
    refine callWithC (P := fun h => (hd0.heap_1 w.params).In h) (by rfl) (keeps_K (by k_is)) (splicedC_nil ⟨X₁.keeps F₄.keep, ?_⟩)
    refine out_new C₁ F₄ N₄ (Nat.le_trans (Nat.add_le_add_right hd 1) (by decide)) (Nat.le_trans (Nat.add_le_add_right hu 3) (by decide)) fun x dxo b tto h₅ tk₅ F₅ N₅ n1 n2 n3 offo => ?_
    try k_fold
    k_steps
    try dsimp only
    rename News _ _ _ _ => N₆
    rename Fr _ _ _ _ => F₆
    refine execsC_cons (exprC (methodC ?_))
    try k_fold
    k_steps
    refine callWithC (P := fun h => (hd0.heap_1 w.params).In h) (by rfl) (keeps_K (by k_is)) (wpC_any ?_)
    try k_fold
    k_steps
    have nb : ∀ p ∈ (x, instObj 160 dxo) :: (dxo, outD w b tto) :: (lr, ({ cls := .type "list", data := .seq rs.toArray kk } : Obj)) :: (T ++ news), p.1 ≠ b := fun p hp => by
      revert p; refine fa_cons ?_ fun p hp => ?_
      · exact Ne.symm n2
      · revert p; refine fa_cons ?_ fun p hp => ?_
        · exact Ne.symm n1
        · exact (offo p hp).2.2
    refine u16_ok C₁ (by assumption) N₆ (.head _) (.tail _ (.head _)) nb (Nat.le_trans (Nat.add_le_add_right hd 1) (by decide)) (Nat.le_trans (Nat.add_le_add_right hu 3) (by decide)) (by omega) (by omega) (by decide) (fun hb => absurd hb (by omega)) (fun _ h₇ tk₇ F₇ N₇ => ?_)
    try dsimp only
    refine execsC_cons (ifC (wpC_any ?_))
    try k_fold
    k_steps
    generalize hrest : (x, instObj 160 dxo) :: (dxo, outD w b tto) :: (lr, ({ cls := .type "list", data := .seq rs.toArray kk } : Obj)) :: (T ++ news) = rest at N₇ nb
    have r1 : (x, instObj 160 dxo) ∈ rest := hrest ▸ .head _
    have r2 : (dxo, outD w b tto) ∈ rest := hrest ▸ .tail _ (.head _)
    have r3 : ∀ p ∈ news, p ∈ rest := fun p hp => hrest ▸ .tail _ (.tail _ (.tail _ (List.mem_append.mpr (.inr hp))))
    have r4 := r3 _ hcv
    have r5 := r3 _ hdx
    have r6 := r3 _ htg
    refine execsC_cons (exprC (methodC ?_))
    try k_fold
    k_steps
    refine callWithC (P := fun h => (hd0.heap_1 w.params).In h) (by rfl) (keeps_K (by k_is)) (wpC_any ?_)
    try k_fold
    k_steps
    refine Hold.go (lenT (tup_src N₇ (.tail _ r6) hoc hod) (by rw [List.size_toArray, hlen']) (by omega) ?_)
    try k_fold
    k_steps
    refine u16_ok C₁ (by assumption) N₇ r1 r2 nb (Nat.le_trans (Nat.add_le_add_right hd 1) (by decide)) (Nat.le_trans (Nat.add_le_add_right hu 3) (by decide)) (by omega) (by omega) (by decide) (fun hb => absurd hb (by omega)) (fun _ h₈ tk₈ F₈ N₈ => ?_)
    try dsimp only
    refine execsC_cons (forC_tup (h₀ := g') (L := L') C₁.hh ?_ (by passes_own))
    try k_fold
    k_steps
    refine Hold.go ⟨tg, vs.toArray, _, _, fun i m nw => (m ("out" : Str) = some (.ref x)) ∧ (∀ g ∈ gs.take i, g < 65536) ∧ nw = (b, BA.ba (two 1 ++ two gs.length ++ ((gs.take i).map two).flatten).toArray) :: rest, rfl, by assumption, N₈, ?_, ?_, ?_⟩
    · refine ⟨rfl, by simp, ?_⟩
      rw [two_arr, two_arr]
      simp
    · intro k m nw hp1
      try k_fold
      obtain ⟨_, _, rfl⟩ := hp1
      exact ⟨og, _, .tail _ r6, hoc, hod⟩
    · rintro s₂ ⟨g₂, rfl⟩
      refine ⟨?_, ?_⟩
      · intro i v m₁ nw I oI h tk hv hp1 F₉ N₉ offI
        try k_fold
        obtain ⟨hmo, hall, rfl⟩ := hp1
        try k_fold
        obtain ⟨gl, t, rfl, hg⟩ := IntsAre.at hi i v (by simpa using hv)
        try k_fold
        k_steps
        rename News _ _ _ _ => N₉
        rename Fr _ _ _ _ => F₉
        have hglm : gl ∈ gs := List.mem_of_getElem? hg
        have hgl := hgs gl hglm
        have Nb := news_swap N₉
        have nbI : ∀ p ∈ (I, oI) :: rest, p.1 ≠ b := fun p hp => by
          revert p; refine fa_cons ?_ fun p hp => ?_
          · exact Ne.symm (offI _ (.head _))
          · exact nb p hp
        refine execsC_cons (exprC (methodC ?_))
        try k_fold
        k_steps
        refine callWithC (P := fun h => (hd0.heap_1 w.params).In h) (by rfl) (keeps_K (by k_is)) (wpC_any ?_)
        try k_fold
        k_steps
        refine u16_ok C₁ (by assumption) Nb (.tail _ r1) (.tail _ r2) nbI (Nat.le_trans (Nat.add_le_add_right hd 1) (by decide)) (Nat.le_trans (Nat.add_le_add_right hu 3) (by decide)) (by omega) (by omega) (by rw [List.size_toArray, List.length_append, flat_two, List.length_take]; simp [two]; omega) (fun hb x' h' tk' e => ?_) (fun hb h' tk' F₁₀ N₁₀ => ?_)
        · exact body_exc2 C.hA (e.weaken (upto_of G₁ N F₉ N₉ fun p hp => .inr (.tail _ (.tail _ (r3 p hp)))) (fun b hb => by cases hb)) fun h' e => hexc (fun z => absurd (z gl hglm) (by omega)) x' h' tk' e
        · dsimp only
          refine execsC_nil (Hold.go ⟨h', tk', _, (b, BA.ba ((two 1 ++ two gs.length ++ ((gs.take i).map two).flatten).toArray ++ byteArr [gl / 256, gl % 256])) :: rest, rfl, F₁₀, news_swap N₁₀, off_head offI, hmo, ?_, ?_⟩)
          · rw [List.take_add_one, hg]
            intro z hz
            rcases List.mem_append.mp hz with hz | hz
            · exact hall z hz
            · simp at hz; subst hz; exact hb
          · rw [List.take_add_one, hg, two_arr]
            simp [List.append_assoc]
      · intro h tk m₁ nw F₉ N₉ hp1
        try k_fold
        obtain ⟨hmo, hall, rfl⟩ := hp1
        simp only [List.size_toArray, hlen', List.take_length] at hall N₉
        try dsimp only
        refine execsC_nil ?_
        try dsimp only
        refine execsC_any ?_
        try k_fold
        k_steps
        have hz : (two 1 ++ two gs.length ++ (gs.map two).flatten).toArray.size ≤ 16777216 := by
          rw [List.size_toArray, List.length_append, flat_two]; simp [two]; omega
        refine Hold.go (octets_ok C₁ (by assumption) N₉ r1 r2 (Nat.le_trans (Nat.add_le_add_right hd 1) (by decide)) (Nat.le_trans (Nat.add_le_add_right hu 3) (by decide)) hz fun t h' tk' F₁₀ N₁₀ => ?_)
        try k_fold
        k_steps
        refine ⟨_, _, _, F₁₀, N₁₀, fun Ff Nf => ?_⟩
        have e : coverBytes gs = two 1 ++ two gs.length ++ (gs.map two).flatten := by unfold coverBytes; rw [if_pos hform]
        rw [← e] at Nf ⊢
        subst hrest
        exact hret hall t ((b, _) :: (x, instObj 160 dxo) :: (dxo, outD w b tto) :: (lr, _) :: T) _ _ Ff (by simpa using Nf)
  · have hform' : ¬ 2 * (gs.length : Int) ≤ 6 * ((runs gs).length : Int) := by omega
    try k_fold
    obtain ⟨f1, f2, f3⟩ := runs_facts gs
    try k_fold
    k_steps
    refine Hold.go (lenT (tup_src N₃ htg' hoc hod) (by rw [List.size_toArray, hlen']) (by omega) ?_)
    try k_fold
    k_steps
    refine Hold.go (lenL ⟨_, (N₃ _ (.head _)).1, rfl, _, rfl⟩ (by rw [List.size_toArray, hrs]) (by omega) ?_)
    try k_fold
    k_steps
    try dsimp only
    refine Hold.go (execsC_cons (assignC (callNameC ?_)))
    try k_fold
    k_steps
    rename News _ _ _ _ => N₄
    rename Fr _ _ _ _ => F₄
    refine callWithC (P := fun h => (hd0.heap_1 w.params).In h) (by rfl) (keeps_K (by k_is)) (splicedC_nil ⟨X₁.keeps F₄.keep, ?_⟩)
    refine out_new C₁ F₄ N₄ (Nat.le_trans (Nat.add_le_add_right hd 1) (by decide)) (Nat.le_trans (Nat.add_le_add_right hu 3) (by decide)) fun x dxo b tto h₅ tk₅ F₅ N₅ n1 n2 n3 offo => ?_
    try k_fold
    k_steps
    try dsimp only
    rename News _ _ _ _ => N₆
    rename Fr _ _ _ _ => F₆
    refine execsC_cons (exprC (methodC ?_))
    try k_fold
    k_steps
    refine callWithC (P := fun h => (hd0.heap_1 w.params).In h) (by rfl) (keeps_K (by k_is)) (wpC_any ?_)
    try k_fold
    k_steps
    have nb : ∀ p ∈ (x, instObj 160 dxo) :: (dxo, outD w b tto) :: (lr, ({ cls := .type "list", data := .seq rs.toArray kk } : Obj)) :: (T ++ news), p.1 ≠ b := fun p hp => by
      revert p; refine fa_cons ?_ fun p hp => ?_
      · exact Ne.symm n2
      · revert p; refine fa_cons ?_ fun p hp => ?_
        · exact Ne.symm n1
        · exact (offo p hp).2.2
    refine u16_ok C₁ (by assumption) N₆ (.head _) (.tail _ (.head _)) nb (Nat.le_trans (Nat.add_le_add_right hd 1) (by decide)) (Nat.le_trans (Nat.add_le_add_right hu 3) (by decide)) (by omega) (by omega) (by decide) (fun hb => absurd hb (by omega)) (fun _ h₇ tk₇ F₇ N₇ => ?_)
    try dsimp only
    refine execsC_cons (ifC (wpC_any ?_))
    try k_fold
    k_steps
    generalize hrest : (x, instObj 160 dxo) :: (dxo, outD w b tto) :: (lr, ({ cls := .type "list", data := .seq rs.toArray kk } : Obj)) :: (T ++ news) = rest at N₇ nb
    have r1 : (x, instObj 160 dxo) ∈ rest := hrest ▸ .head _
    have r2 : (dxo, outD w b tto) ∈ rest := hrest ▸ .tail _ (.head _)
    have rl : (lr, ({ cls := .type "list", data := .seq rs.toArray kk } : Obj)) ∈ rest := hrest ▸ .tail _ (.tail _ (.head _))
    have rT : ∀ p ∈ T, p ∈ rest := fun p hp => hrest ▸ .tail _ (.tail _ (.tail _ (List.mem_append.mpr (.inl hp))))
    have r3 : ∀ p ∈ news, p ∈ rest := fun p hp => hrest ▸ .tail _ (.tail _ (.tail _ (List.mem_append.mpr (.inr hp))))
    refine execsC_cons (ifC (wpC_any ?_))
    try k_fold
    k_steps
    refine execsC_cons (exprC (methodC ?_))
    try k_fold
    k_steps
    refine callWithC (P := fun h => (hd0.heap_1 w.params).In h) (by rfl) (keeps_K (by k_is)) (wpC_any ?_)
    try k_fold
    k_steps
    refine Hold.go (lenL ⟨_, (N₇ _ (.tail _ rl)).1, rfl, _, rfl⟩ (by rw [List.size_toArray, hrs]) (by omega) ?_)
    try k_fold
    k_steps
    refine u16_ok C₁ (by assumption) N₇ r1 r2 nb (Nat.le_trans (Nat.add_le_add_right hd 1) (by decide)) (Nat.le_trans (Nat.add_le_add_right hu 3) (by decide)) (by omega) (by omega) (by decide) (fun hb => absurd hb (by omega)) (fun _ h₈ tk₈ F₈ N₈ => ?_)
    try dsimp only
    refine execsC_any ?_
    try k_fold
    k_steps
    try dsimp only
    rename News _ _ _ _ => N₉
    refine Hold.go (execsC_cons (forC_list (h₀ := g') (L := L') C₁.hh ?_ (by passes_own)))
    try k_fold
    k_steps
    have sp0 : (spans ((runs gs).take 0)).1 = [] := rfl
    refine Hold.go ⟨lr, rs.toArray, _, _, fun i m nw => (m ("out" : Str) = some (.ref x)) ∧ (∃ t, m ("index" : Str) = some (.int (spans ((runs gs).take i)).2 t)) ∧ (∀ r ∈ (runs gs).take i, r.2 < 65536) ∧ nw = (b, BA.ba (two 2 ++ two (runs gs).length ++ (spans ((runs gs).take i)).1).toArray) :: rest, rfl, by assumption, N₉, ?_, ?_, ?_⟩
    · refine ⟨rfl, ⟨_, rfl⟩, by simp, ?_⟩
      rw [two_arr, two_arr, sp0]
      simp
    · intro k m nw hp1
      try k_fold
      obtain ⟨_, _, _, rfl⟩ := hp1
      exact ⟨_, _, .tail _ rl, rfl, rfl⟩
    · rintro s₂ ⟨g₂, rfl⟩
      refine ⟨?_, ?_⟩
      · intro i v m₁ nw I oI h tk hv hp1 Fa Na offI
        try k_fold
        obtain ⟨hmo, ⟨ti, hmi⟩, hall, rfl⟩ := hp1
        have hil : i < (runs gs).length := by
          rcases Nat.lt_or_ge i rs.length with z | z
          · rw [← hrs]; exact z
          · rw [List.getElem?_toArray, List.getElem?_eq_none z] at hv; cases hv
        obtain ⟨ra, rb, hr⟩ : ∃ ra rb, (runs gs)[i]? = some (ra, rb) := ⟨_, _, List.getElem?_eq_getElem hil⟩
        try k_fold
        obtain ⟨xa, xo, hx1, hx2, hx3, ta, tb, kx, hx4⟩ := P.2 _ _ _ hr
        rw [List.getElem?_toArray, hx1] at hv
        obtain rfl := Option.some.inj hv
        have hrm : (ra, rb) ∈ runs gs := List.mem_of_getElem? hr
        try k_fold
        obtain ⟨g1, g2, g3⟩ := f1 _ hrm
        have hga := hgs _ g1
        have hgb := hgs _ g2
        have hxt : IsTup _ xa _ := tup_src Na (.tail _ (.tail _ (rT _ hx2))) hx3 hx4
        have hsb := spans_bound gs i
        have hss := spans_size ((runs gs).take i)
        rw [List.length_take] at hss
        have nbI : ∀ p ∈ (I, oI) :: rest, p.1 ≠ b := fun p hp => by
          revert p; refine fa_cons ?_ fun p hp => ?_
          · exact Ne.symm (offI _ (.head _))
          · exact nb p hp
        dsimp only at g1 g2 g3 hga hgb
        refine unpackN_ Fa Na hxt C₁.hh (by rfl) (by rfl) fun ha Fa' Na' => ?_
        try k_fold
        k_steps
        rename News _ _ _ _ => Nb
        have Nc := news_swap Nb
        refine execsC_cons (exprC (methodC ?_))
        try k_fold
        k_steps
        refine callWithC (P := fun h => (hd0.heap_1 w.params).In h) (by rfl) (keeps_K (by k_is)) (wpC_any ?_)
        try k_fold
        k_steps
        refine u16_ok C₁ (by assumption) Nc (.tail _ r1) (.tail _ r2) nbI (Nat.le_trans (Nat.add_le_add_right hd 1) (by decide)) (Nat.le_trans (Nat.add_le_add_right hu 3) (by decide)) (by omega) (by omega) (by rw [List.size_toArray, List.length_append, hss]; simp [two]; omega) (fun hb x' h' tk' e => ?_) (fun hb1 hFd tkFd Fd Nd => ?_)
        · exact body_exc2 C.hA (e.weaken (upto_of G₁ N (by assumption) Nc fun p hp => .inr (.tail _ (.tail _ (r3 p hp)))) (fun b hb => by cases hb)) fun h' e => hexc (fun z => absurd (z _ g1) (by omega)) x' h' tk' e
        try dsimp only
        refine execsC_cons (exprC (methodC ?_))
        try k_fold
        k_steps
        refine callWithC (P := fun h => (hd0.heap_1 w.params).In h) (by rfl) (keeps_K (by k_is)) (wpC_any ?_)
        try k_fold
        k_steps
        refine u16_ok C₁ (by assumption) Nd (.tail _ r1) (.tail _ r2) nbI (Nat.le_trans (Nat.add_le_add_right hd 1) (by decide)) (Nat.le_trans (Nat.add_le_add_right hu 3) (by decide)) (by omega) (by omega) (by rw [Array.size_append, byteArr_size, List.size_toArray, List.length_append, hss]; simp [two]; omega) (fun hb x' h' tk' e => ?_) (fun hb2 hFe tkFe Fe Ne₁ => ?_)
        · exact body_exc2 C.hA (e.weaken (upto_of G₁ N (by assumption) Nd fun p hp => .inr (.tail _ (.tail _ (r3 p hp)))) (fun b hb => by cases hb)) fun h' e => hexc (fun z => absurd (z _ g2) (by omega)) x' h' tk' e
        try dsimp only
        refine execsC_cons (exprC (methodC ?_))
        try k_fold
        k_steps
        refine callWithC (P := fun h => (hd0.heap_1 w.params).In h) (by rfl) (keeps_K (by k_is)) (wpC_any ?_)
        try k_fold
        k_steps
        refine u16_ok C₁ (by assumption) Ne₁ (.tail _ r1) (.tail _ r2) nbI (Nat.le_trans (Nat.add_le_add_right hd 1) (by decide)) (Nat.le_trans (Nat.add_le_add_right hu 3) (by decide)) (by omega) (by omega) (by rw [Array.size_append, Array.size_append, byteArr_size, byteArr_size, List.size_toArray, List.length_append, hss]; simp [two]; omega) (fun hb => absurd hb (by omega)) (fun _ hFf tkFf Ff Nf => ?_)
        try dsimp only
        refine execsC_any ?_
        try k_fold
        k_steps
        try dsimp only
        rename News _ _ _ _ => Ng
        rename Fr _ _ _ _ => Fg
        refine execsC_nil (Hold.go ⟨_, _, _, (b, BA.ba (((two 2 ++ two (runs gs).length ++ (spans ((runs gs).take i)).1).toArray ++ byteArr [ra / 256, ra % 256]) ++ byteArr [rb / 256, rb % 256] ++ byteArr [(spans ((runs gs).take i)).2 / 256, (spans ((runs gs).take i)).2 % 256])) :: rest, rfl, Fg, news_swap Ng, off_head offI, hmo, ?_, ?_, ?_⟩)
        · rw [List.take_add_one, hr]
          simp only [Option.toList_some, spans_snoc, spanStep]
          exact ⟨_, rfl⟩
        · rw [List.take_add_one, hr]
          intro z hz
          rcases List.mem_append.mp hz with hz | hz
          · exact hall z hz
          · simp at hz; subst hz; exact hb2
        · rw [List.take_add_one, hr]
          simp only [Option.toList_some, spans_snoc, spanStep]
          rw [two_arr, two_arr, two_arr]
          simp [List.append_assoc]
      · intro h tk m₁ nw Fa Na hp1
        try k_fold
        obtain ⟨hmo, _, hall, rfl⟩ := hp1
        simp only [List.size_toArray, hrs, List.take_length] at hall Na
        have hall' : ∀ g ∈ gs, g < 65536 := fun g hg => by
          try k_fold
          obtain ⟨r, hr, hle⟩ := f3 g hg
          have := hall r hr
          omega
        try dsimp only
        refine execsC_nil ?_
        try dsimp only
        refine execsC_nil ?_
        try dsimp only
        refine execsC_any ?_
        try k_fold
        k_steps
        have hz : (two 2 ++ two (runs gs).length ++ (spans (runs gs)).1).toArray.size ≤ 16777216 := by
          rw [List.size_toArray, List.length_append, spans_size]; simp [two]; omega
        refine Hold.go (octets_ok C₁ (by assumption) Na r1 r2 (Nat.le_trans (Nat.add_le_add_right hd 1) (by decide)) (Nat.le_trans (Nat.add_le_add_right hu 3) (by decide)) hz fun t h' tk' F₁₀ N₁₀ => ?_)
        try k_fold
        k_steps
        refine ⟨_, _, _, F₁₀, N₁₀, fun Ff Nf => ?_⟩
        have e : coverBytes gs = two 2 ++ two (runs gs).length ++ (spans (runs gs)).1 := by unfold coverBytes; rw [if_neg hform]
        rw [← e] at Nf ⊢
        subst hrest
        exact hret hall' t ((b, _) :: (x, instObj 160 dxo) :: (dxo, outD w b tto) :: (lr, _) :: T) _ _ Ff (by simpa using Nf)
theorem core : P_write_coverage_ok w p loose mean mg mb A A₀ env outer base h₀ L m news s Q E cv dx tt k := by
  unfold P_write_coverage_ok
  intro tg og vs gs C F N hcv hdx htg hoc hod hi hlen hgs hd hu hexc hret
  exact body.2 tg og vs gs C F N hcv hdx htg hoc hod hi hlen hgs hd hu hexc hret fun g' L' h₁ => eps_all (P := PB) (by with_unfolding_all exact inner) (g', L', h₁) tg og vs gs C F N hcv hdx htg hoc hod hi hlen hgs hd hu hexc hret
end K_write_coverage_ok
theorem write_coverage_ok {w : World} {p : Program} {loose : List Str} {mean : ExcName → Option Value} {mg : Str → Option Value} {mb : Str → Option Value} {A : Around} {A₀ : Around} {env : Env} {outer : List Env} {base : Heap} {h₀ : Heap} {L : Addr} {m : Str → Option Value} {news : List (Addr × Obj)} {s : Shared} {Q : Value → Shared → Prop} {E : Value → Shared → Prop} {cv dx tg : Addr} {tt : Tok} {og : Obj} {vs : List Value} {gs : List Int} {k : Nat} (C : Cx w p loose mean mg mb A A₀ env outer base h₀ L) (F : Fr h₀ L s.heap m) (N : News h₀ L s.heap news) (hcv : (cv, instObj 210 dx) ∈ news) (hdx : (dx, covD w tg tt) ∈ news) (htg : (tg, og) ∈ news) (hoc : og.cls = .type "tuple") (hod : og.data = .seq vs.toArray k) (hi : IntsAre vs gs) (hlen : gs.length ≤ 60) (hgs : ∀ g ∈ gs, 0 ≤ g ∧ g < 10 ^ 6) (hd : A.depth ≤ 850) (hu : A.units ≤ 4500) (hexc : (¬ ∀ g ∈ gs, g < 65536) → ∀ x h' tk', Exc s.heap [] base (env :: outer) x (.ref 68) h' → E (.ref x) { s with heap := h', toks := tk' }) (hret : (∀ g ∈ gs, g < 65536) → ∀ t G h' tk', Fr h₀ L h' m → News h₀ L h' (G ++ news) → Q (.bytes (coverBytes gs).toArray t) { s with heap := h', toks := tk' }) :
    wpC (model PySem.Challenge.rw_pb0182_01.row.prog w) A (call (.ref 236) [.ref cv]) Q E s :=
  eps_all (P := fun v => P_write_coverage_ok v.1 v.2.1 v.2.2.1 v.2.2.2.1 v.2.2.2.2.1 v.2.2.2.2.2.1 v.2.2.2.2.2.2.1 v.2.2.2.2.2.2.2.1 v.2.2.2.2.2.2.2.2.1 v.2.2.2.2.2.2.2.2.2.1 v.2.2.2.2.2.2.2.2.2.2.1 v.2.2.2.2.2.2.2.2.2.2.2.1 v.2.2.2.2.2.2.2.2.2.2.2.2.1 v.2.2.2.2.2.2.2.2.2.2.2.2.2.1 v.2.2.2.2.2.2.2.2.2.2.2.2.2.2.1 v.2.2.2.2.2.2.2.2.2.2.2.2.2.2.2.1 v.2.2.2.2.2.2.2.2.2.2.2.2.2.2.2.2.1 v.2.2.2.2.2.2.2.2.2.2.2.2.2.2.2.2.2.1 v.2.2.2.2.2.2.2.2.2.2.2.2.2.2.2.2.2.2.1 v.2.2.2.2.2.2.2.2.2.2.2.2.2.2.2.2.2.2.2.1 v.2.2.2.2.2.2.2.2.2.2.2.2.2.2.2.2.2.2.2.2.1 v.2.2.2.2.2.2.2.2.2.2.2.2.2.2.2.2.2.2.2.2.2) (by with_unfolding_all exact K_write_coverage_ok.core) (w, p, loose, mean, mg, mb, A, A₀, env, outer, base, h₀, L, m, news, s, Q, E, cv, dx, tt, k) tg og vs gs C F N hcv hdx htg hoc hod hi hlen hgs hd hu hexc hret
end
end Mine
end TextS6
section TextP1
open PySem PySem.W PyProof.Rows PySem.Calls PySem.Spec
set_option Elab.async false
set_option maxRecDepth 100000
set_option maxHeartbeats 1000000
namespace Mine
namespace BA
theorem look_len : typeLookup (.type "bytearray") "__len__" = pure (some (.builtin "bytearray.__len__")) := by rw [typeLookup_type, builtinLookup_eq_fast]; kernel_rfl
theorem slot_len : Slot "bytearray" "__len__" "bytearray.__len__" :=
  .of (owner := "bytearray") (n := "__len__") look_len (by decide +kernel) (by decide +kernel) (by decide +kernel)
    (by first | exact .inl (by decide +kernel) | exact .inr (by decide +kernel)) sub
theorem len_args (v : Value) : argsOk "bytearray.__len__" ⟨[v], []⟩ := by unfold argsOk; kernel_rfl
theorem entry_blen : entryFor table "bytearray.__len__" = some Builtin.«bytearray.__len__» := entryFor_of_tree (by kernel_rfl)
section
variable {prog : Program} {w : World} {A : Around} {E : Value → Shared → Prop} {s : Shared} {b : Addr} {arr : Array UInt8}
theorem len {Q : Value → Shared → Prop} (ho : s.heap.get? b = some (ba arr)) (hz : arr.size ≤ 16777216) (h : Q (.int arr.size (s.toks + 1)) { s with toks := s.toks + 1 + 1 }) :
    wpAny (model prog w) A (call (.builtin "len") [.ref b]) Q E s := by
  have hT : s.TypeIs (.ref b) "bytearray" := ⟨_, ho, rfl⟩
  refine Calls.call_function_entry kind_len plain_len entry_len (args_len1 _) ?_
  unfold Builtin.«len»
  refine wpAny_bind (m := oneArg "len" _) (wpAny_pure ?_)
  refine wpAny_bind (m := callSpecial? (.ref b) (Str.ofString "__len__")) (wpAny_callSpecial?_slot (name := Str.ofString "__len__") hT slot_len
    (wpAny_call_entry slot_len hT entry_blen ?_ (len_args _)))
  unfold Builtin.«bytearray.__len__» slotArgs
  simp only [List.isEmpty_nil, Bool.not_true, Bool.false_eq_true, ↓reduceIte, bind_assoc, List.length_nil, bne_self_eq_false]
  refine wpAny_bind (wpAny_pure ?_)
  dsimp only
  try refine wpAny_bind (wpAny_pure ?_)
  refine wpAny_bind (payload ho ?_)
  unfold retInt
  refine wpAny_bind (wpAny_mkInt (wpAny_pure ⟨_, rfl, ?_⟩))
  refine wpAny_bind (wpAny_holding (wpAny_pure ?_))
  refine wpAny_bind (wpAny_letGo ?_)
  show wpAny _ _ (if ((arr.size : Nat) : Int) < 0 then _ else _) _ _ _
  rw [if_neg (by omega)]
  show wpAny _ _ (if ((arr.size : Nat) : Int) ≥ 2 ^ 63 then _ else _) _ _ _
  rw [if_neg (by omega)]
  exact wpAny_bind (wpAny_mkInt (wpAny_pure ⟨_, rfl, h⟩))
end
end BA
end Mine
end TextP1
section TextP2
open PySem PySem.W PyProof.Rows PySem.Calls PySem.Spec
set_option Elab.async false
set_option maxRecDepth 100000
set_option maxHeartbeats 1000000
namespace Mine
theorem fillP2 {w : World} {A : Around} {Q : Value → Shared → Prop} {E : Value → Shared → Prop} {s : Shared} (h : (hd0.heap_1 w.params).In s.heap → wpAny (model PySem.Challenge.rw_pb0182_01.row.prog w) A (call .none []) Q E s) :
    (hd0.heap_1 w.params).In s.heap → wpAny (model PySem.Challenge.rw_pb0182_01.row.prog w) A (call .none []) Q E s := by
  k_fill
  w_top off
  intro hX
  try walk1
  exact h hX
noncomputable abbrev LaidSt := List Int × List (List UInt8 × Int) × List UInt8
noncomputable def laidStep (bg : Int) (st : LaidSt) (b : List UInt8) : LaidSt :=
  match st.2.1.find? fun p => p.1 = b with
  | some p => (st.1 ++ [p.2], st.2.1, st.2.2)
  | none => (st.1 ++ [bg + st.2.2.length], st.2.1 ++ [(b, bg + st.2.2.length)], st.2.2 ++ b)
noncomputable def laidS (bg : Int) (bs : List (List UInt8)) : LaidSt := bs.foldl (laidStep bg) ([], [], [])
theorem laidS_snoc (bg : Int) (bs : List (List UInt8)) (b : List UInt8) : laidS bg (bs ++ [b]) = laidStep bg (laidS bg bs) b := by simp [laidS]
/-- a table of places, its ints with tokens -/
noncomputable def KvInts : List (List UInt8 × Value) → List (List UInt8 × Int) → Prop
  | [], [] => True
  | (k, v) :: r, (k', n) :: r' => k = k' ∧ (∃ t, v = .int n t) ∧ KvInts r r'
  | _, _ => False
theorem KvInts.snoc {k : List UInt8} {n : Int} {t : Tok} {a : List (List UInt8 × Value)} : ∀ {b : List (List UInt8 × Int)}, KvInts a b → KvInts (a ++ [(k, .int n t)]) (b ++ [(k, n)]) := by
  induction a with
  | nil =>
    intro b h
    cases b with
    | nil => exact ⟨rfl, ⟨t, rfl⟩, trivial⟩
    | cons _ _ => cases h
  | cons x r ih =>
    intro b h
    cases b with
    | nil => cases h
    | cons y q =>
      obtain ⟨x1, x2⟩ := x; obtain ⟨y1, y2⟩ := y
      exact ⟨h.1, h.2.1, ih h.2.2⟩
theorem KvInts.find {k : List UInt8} {a : List (List UInt8 × Value)} : ∀ {b : List (List UInt8 × Int)}, KvInts a b → match b.find? fun p => p.1 = k with | some p => ∃ t, valueAt a k = some (.int p.2 t) | none => valueAt a k = none ∧ a.any (fun kv => kv.1 = k) = false := by
  induction a with
  | nil =>
    intro b h
    cases b with
    | nil => exact ⟨rfl, rfl⟩
    | cons _ _ => cases h
  | cons x r ih =>
    intro b h
    cases b with
    | nil => cases h
    | cons y q =>
      obtain ⟨x, v⟩ := x; obtain ⟨x', n⟩ := y
      obtain ⟨h1, ⟨t, h2⟩, h3⟩ := h
      subst h1; subst h2
      have ih := ih h3
      unfold valueAt at ih ⊢
      by_cases e : x = k
      · simp [e]
      · simp only [List.find?_cons, e, decide_false, List.any_cons, Bool.false_or] at ih ⊢
        exact ih
theorem KvInts.length {a : List (List UInt8 × Value)} : ∀ {b : List (List UInt8 × Int)}, KvInts a b → a.length = b.length := by
  induction a with
  | nil =>
    intro b h
    cases b with
    | nil => rfl
    | cons _ _ => cases h
  | cons x r ih =>
    intro b h
    cases b with
    | nil => cases h
    | cons y q =>
      obtain ⟨x1, x2⟩ := x; obtain ⟨y1, y2⟩ := y
      exact congrArg (· + 1) (ih h.2.2)
theorem laid_sizes (bg : Int) : ∀ (bs : List (List UInt8)), (laidS bg bs).1.length = bs.length ∧ (laidS bg bs).2.1.length ≤ bs.length ∧ (laidS bg bs).2.2.length ≤ bs.flatten.length := by
  have key : ∀ l : List (List UInt8), (laidS bg l.reverse).1.length = l.length ∧ (laidS bg l.reverse).2.1.length ≤ l.length ∧ (laidS bg l.reverse).2.2.length ≤ l.reverse.flatten.length := by
    intro l
    induction l with
    | nil => exact ⟨rfl, Nat.le_refl _, Nat.le_refl _⟩
    | cons a r ih =>
      rw [List.reverse_cons, laidS_snoc]
      unfold laidStep
      split
      · simp at ih ⊢; omega
      · simp at ih ⊢; omega
  intro bs
  have := key bs.reverse
  simpa using this
section
variable {w : World} {p : Program} {loose : List Str} {mean : ExcName → Option Value} {mg mb : Str → Option Value} {A A₀ : Around} {env : Env} {outer : List Env} {base h₀ : Heap} {L : Addr} {m : Str → Option Value} {news rest : List (Addr × Obj)} {s : Shared}
  {Q E : Value → Shared → Prop}
theorem dict_nil {K K' : Type} [DecidableEq K] [DecidableEq K'] {prog : Program} {w : World} {knd : KeyKind prog w K} {knd' : KeyKind prog w K'} {o : Obj} (h : o.IsDictOf knd []) : o.IsDictOf knd' [] := by
  try k_fold
  obtain ⟨es, ep, h1, h2, h3, h4, h5⟩ := h
  have e : es.toList = [] := by
    generalize es.toList = l at h4
    cases h4; rfl
  have e' : es = #[] := by
    cases es; simpa using e
  subst e'
  exact ⟨_, _, h1, h2, (fun e he => by simp at he), .nil, List.nodup_nil⟩
end
section
noncomputable def P_laid_ok (w : World) (p : Program) (loose : List Str) (mean : ExcName → Option Value) (mg : Str → Option Value) (mb : Str → Option Value) (A : Around) (A₀ : Around) (env : Env) (outer : List Env) (base : Heap) (h₀ : Heap) (L : Addr) (m : Str → Option Value) (news : List (Addr × Obj)) (s : Shared) (Q : Value → Shared → Prop) (E : Value → Shared → Prop) (lp : Addr) (op : Obj) (vs : List Value) (bs : List (List UInt8)) (k : Nat) (bg : Int) (tk : Tok) : Prop := ∀ (C : Cx w p loose mean mg mb A A₀ env outer base h₀ L) (F : Fr h₀ L s.heap m) (N : News h₀ L s.heap news) (hlp : (lp, op) ∈ news) (hoc : op.cls = .type "list") (hod : op.data = .seq vs.toArray k) (hb : BytesAre vs bs) (hlen : bs.length ≤ 100) (hbg : 0 ≤ bg) (hbg2 : bg ≤ 1000) (hsz : bs.flatten.length ≤ 10000) (hd : A.depth ≤ 850) (hu : A.units ≤ 4500) (hret : ∀ x kx lo offs ko t G h' tk', Fr h₀ L h' m → News h₀ L h' ((x, ({ cls := .type "tuple", data := .seq #[.ref lo, .bytes (laidS bg bs).2.2.toArray t] kx } : Obj)) :: (lo, ({ cls := .type "list", data := .seq offs.toArray ko } : Obj)) :: (G ++ news)) → IntsAre offs (laidS bg bs).1 → Q (.ref x) { s with heap := h', toks := tk' }),
    wpC (model PySem.Challenge.rw_pb0182_01.row.prog w) A (call (.ref 172) [.int bg tk, .ref lp]) Q E s
noncomputable def c_laid_ok := @Classical.epsilon ((World) × (Program) × (List Str) × (ExcName → Option Value) × (Str → Option Value) × (Str → Option Value) × (Around) × (Around) × (Env) × (List Env) × (Heap) × (Heap) × (Addr) × (Str → Option Value) × (List (Addr × Obj)) × (Shared) × (Value → Shared → Prop) × (Value → Shared → Prop) × (Addr) × (Obj) × (List Value) × (List (List UInt8)) × (Nat) × (Int) × (Tok)) ⟨(wDef, default, [], fun _ => none, fun _ => none, fun _ => none, callerA, callerA, default, [], default, default, 0, fun _ => none, [], (PySem.start default).1, fun _ _ => True, fun _ _ => True, 0, default, [], [], 0, 0, 0)⟩ fun v => ¬ P_laid_ok v.1 v.2.1 v.2.2.1 v.2.2.2.1 v.2.2.2.2.1 v.2.2.2.2.2.1 v.2.2.2.2.2.2.1 v.2.2.2.2.2.2.2.1 v.2.2.2.2.2.2.2.2.1 v.2.2.2.2.2.2.2.2.2.1 v.2.2.2.2.2.2.2.2.2.2.1 v.2.2.2.2.2.2.2.2.2.2.2.1 v.2.2.2.2.2.2.2.2.2.2.2.2.1 v.2.2.2.2.2.2.2.2.2.2.2.2.2.1 v.2.2.2.2.2.2.2.2.2.2.2.2.2.2.1 v.2.2.2.2.2.2.2.2.2.2.2.2.2.2.2.1 v.2.2.2.2.2.2.2.2.2.2.2.2.2.2.2.2.1 v.2.2.2.2.2.2.2.2.2.2.2.2.2.2.2.2.2.1 v.2.2.2.2.2.2.2.2.2.2.2.2.2.2.2.2.2.2.1 v.2.2.2.2.2.2.2.2.2.2.2.2.2.2.2.2.2.2.2.1 v.2.2.2.2.2.2.2.2.2.2.2.2.2.2.2.2.2.2.2.2.1 v.2.2.2.2.2.2.2.2.2.2.2.2.2.2.2.2.2.2.2.2.2.1 v.2.2.2.2.2.2.2.2.2.2.2.2.2.2.2.2.2.2.2.2.2.2.1 v.2.2.2.2.2.2.2.2.2.2.2.2.2.2.2.2.2.2.2.2.2.2.2.1 v.2.2.2.2.2.2.2.2.2.2.2.2.2.2.2.2.2.2.2.2.2.2.2.2
namespace K_laid_ok
@[irreducible] noncomputable def w : World := c_laid_ok.1
@[irreducible] noncomputable def p : Program := c_laid_ok.2.1
@[irreducible] noncomputable def loose : List Str := c_laid_ok.2.2.1
@[irreducible] noncomputable def mean : ExcName → Option Value := c_laid_ok.2.2.2.1
@[irreducible] noncomputable def mg : Str → Option Value := c_laid_ok.2.2.2.2.1
@[irreducible] noncomputable def mb : Str → Option Value := c_laid_ok.2.2.2.2.2.1
@[irreducible] noncomputable def A : Around := c_laid_ok.2.2.2.2.2.2.1
@[irreducible] noncomputable def A₀ : Around := c_laid_ok.2.2.2.2.2.2.2.1
@[irreducible] noncomputable def env : Env := c_laid_ok.2.2.2.2.2.2.2.2.1
@[irreducible] noncomputable def outer : List Env := c_laid_ok.2.2.2.2.2.2.2.2.2.1
@[irreducible] noncomputable def base : Heap := c_laid_ok.2.2.2.2.2.2.2.2.2.2.1
@[irreducible] noncomputable def h₀ : Heap := c_laid_ok.2.2.2.2.2.2.2.2.2.2.2.1
@[irreducible] noncomputable def L : Nat := c_laid_ok.2.2.2.2.2.2.2.2.2.2.2.2.1
@[irreducible] noncomputable def m : Str → Option Value := c_laid_ok.2.2.2.2.2.2.2.2.2.2.2.2.2.1
@[irreducible] noncomputable def news : List (Addr × Obj) := c_laid_ok.2.2.2.2.2.2.2.2.2.2.2.2.2.2.1
@[irreducible] noncomputable def s : Shared := c_laid_ok.2.2.2.2.2.2.2.2.2.2.2.2.2.2.2.1
@[irreducible] noncomputable def Q : Value → Shared → Prop := c_laid_ok.2.2.2.2.2.2.2.2.2.2.2.2.2.2.2.2.1
@[irreducible] noncomputable def E : Value → Shared → Prop := c_laid_ok.2.2.2.2.2.2.2.2.2.2.2.2.2.2.2.2.2.1
@[irreducible] noncomputable def lp : Nat := c_laid_ok.2.2.2.2.2.2.2.2.2.2.2.2.2.2.2.2.2.2.1
@[irreducible] noncomputable def op : Obj := c_laid_ok.2.2.2.2.2.2.2.2.2.2.2.2.2.2.2.2.2.2.2.1
@[irreducible] noncomputable def vs : List Value := c_laid_ok.2.2.2.2.2.2.2.2.2.2.2.2.2.2.2.2.2.2.2.2.1
@[irreducible] noncomputable def bs : List (List UInt8) := c_laid_ok.2.2.2.2.2.2.2.2.2.2.2.2.2.2.2.2.2.2.2.2.2.1
@[irreducible] noncomputable def k : Nat := c_laid_ok.2.2.2.2.2.2.2.2.2.2.2.2.2.2.2.2.2.2.2.2.2.2.1
@[irreducible] noncomputable def bg : Int := c_laid_ok.2.2.2.2.2.2.2.2.2.2.2.2.2.2.2.2.2.2.2.2.2.2.2.1
@[irreducible] noncomputable def tk : Tok := c_laid_ok.2.2.2.2.2.2.2.2.2.2.2.2.2.2.2.2.2.2.2.2.2.2.2.2
noncomputable def body : { P : Heap → Addr → Heap → Prop // ∀ (C : Cx w p loose mean mg mb A A₀ env outer base h₀ L) (F : Fr h₀ L s.heap m) (N : News h₀ L s.heap news) (hlp : (lp, op) ∈ news) (hoc : op.cls = .type "list") (hod : op.data = .seq vs.toArray k) (hb : BytesAre vs bs) (hlen : bs.length ≤ 100) (hbg : 0 ≤ bg) (hbg2 : bg ≤ 1000) (hsz : bs.flatten.length ≤ 10000) (hd : A.depth ≤ 850) (hu : A.units ≤ 4500) (hret : ∀ x kx lo offs ko t G h' tk', Fr h₀ L h' m → News h₀ L h' ((x, ({ cls := .type "tuple", data := .seq #[.ref lo, .bytes (laidS bg bs).2.2.toArray t] kx } : Obj)) :: (lo, ({ cls := .type "list", data := .seq offs.toArray ko } : Obj)) :: (G ++ news)) → IntsAre offs (laidS bg bs).1 → Q (.ref x) { s with heap := h', toks := tk' }), (∀ g' L' h₁, P g' L' h₁) →
    wpC (model PySem.Challenge.rw_pb0182_01.row.prog w) A (call (.ref 172) [.int bg tk, .ref lp]) Q E s } := by
  refine' ⟨_, _⟩
  rotate_left
  intro C F N hlp hoc hod hb hlen hbg hbg2 hsz hd hu hret hBody
  refine wpC_call ?_
  k_dflt (refine' enterC_plain C F N ?k6 ?k7 ?k8 ?k9 ?kB ?_ ?c2 ?c3 ?c4 ?c5)
  case k6 => k_is
  case k7 => k_is
  case k8 => exact Nat.lt_of_le_of_lt hd (by decide)
  case k9 => first | exact BindsTo.of_eq rfl | exact binds_K (C.X.keeps F.keep) rfl (by k_is) rfl rfl rfl
  case c5 => decide
  case kB => exact locs rfl
  case c2 => exact rfl
  case c3 => exact rfl
  case c4 => exact rfl
  exact hBody
noncomputable def PB (v : Heap × Addr × Heap) : Prop := ∀ (C : Cx w p loose mean mg mb A A₀ env outer base h₀ L) (F : Fr h₀ L s.heap m) (N : News h₀ L s.heap news) (hlp : (lp, op) ∈ news) (hoc : op.cls = .type "list") (hod : op.data = .seq vs.toArray k) (hb : BytesAre vs bs) (hlen : bs.length ≤ 100) (hbg : 0 ≤ bg) (hbg2 : bg ≤ 1000) (hsz : bs.flatten.length ≤ 10000) (hd : A.depth ≤ 850) (hu : A.units ≤ 4500) (hret : ∀ x kx lo offs ko t G h' tk', Fr h₀ L h' m → News h₀ L h' ((x, ({ cls := .type "tuple", data := .seq #[.ref lo, .bytes (laidS bg bs).2.2.toArray t] kx } : Obj)) :: (lo, ({ cls := .type "list", data := .seq offs.toArray ko } : Obj)) :: (G ++ news)) → IntsAre offs (laidS bg bs).1 → Q (.ref x) { s with heap := h', toks := tk' }), body.1 v.1 v.2.1 v.2.2
noncomputable def cb := @Classical.epsilon (Heap × Addr × Heap) ⟨(default, 0, default)⟩ fun v => ¬ PB v
@[irreducible] noncomputable def g' : Heap := cb.1
@[irreducible] noncomputable def L' : Nat := cb.2.1
@[irreducible] noncomputable def h₁ : Heap := cb.2.2
theorem inner : PB (g', L', h₁) := by
  have st0 : Stop "mem 1" := .mk
  have st1 : Stop "name ld" := .mk
  have st2 : Stop "call ref" := .mk
  have st3 : Stop "exec For Name Name cons nil" := .mk
  have st4 : Stop "call builtin:len" := .mk
  have st5 : Stop "call builtin:list.append" := .mk
  have st6 : Stop "subscriptTail" := .mk
  have st7 : Stop "setItem" := .mk
  have st8 : Stop "call type:bytes" := .mk
  have st9 : Stop "compareOp In bytes ref" := .mk
  unfold PB
  intro C F N hlp hoc hod hb hlen hbg hbg2 hsz hd hu hret
  delta body
  dsimp only
  intro C₁ F₁ N₁ G₁ l1
  try k_fold
  have X₁ := C₁.X
  have T₁ := C₁.T
  have B₁ := C₁.B
  first | (refine foldA ?_; intro qC eC) | (refine foldC ?_; intro qC eC)
  have hlen' := hb.length
  refine execsC_any ?_
  try k_fold
  k_steps
  refine Hold.go (execsC_any ?_)
  try k_fold
  k_steps
  rename_i lo hA l2 hB dp hC od lod hsd fsd hid fid l3 hD FD ND
  try dsimp only
  refine Hold.go (execsC_cons (assignC (callNameC ?_)))
  try k_fold
  k_steps
  refine callWithC (P := fun _ => True) rfl (fun h _ => ⟨.machine, .inr (.inl rfl), Looks.of_pure rfl⟩) (splicedC_nil ⟨trivial, ?_⟩)
  refine BA.new C₁.hG (by assumption) ND fun b h₂ tk₂ F₂ N₂ l4 => ?_
  try k_fold
  k_steps
  try dsimp only
  rename News _ _ _ _ => N₃
  rename Fr _ _ _ _ => F₃
  have nlo : ∀ p ∈ news, p.1 ≠ lo := fun p hp => Nat.ne_of_lt (l2 p hp)
  have ndp : ∀ p ∈ news, p.1 ≠ dp := fun p hp => by
    have : ∀ l : List (Addr × Obj), AllLt dp l → ∀ p ∈ l, p.1 < dp := by
      intro l
      induction l with
      | nil => intro _ p hp; cases hp
      | cons q r ih =>
        intro z p hp
        rcases List.mem_cons.mp hp with rfl | hp
        · exact z.1
        · exact ih z.2 p hp
    exact Nat.ne_of_lt (this _ l3.2 p hp)
  have dlo : lo ≠ dp := Nat.ne_of_lt l3.1
  have bdp : dp ≠ b := Nat.ne_of_lt (l4 _ (.head _))
  have blo : lo ≠ b := Nat.ne_of_lt (l4 _ (.tail _ (.head _)))
  have nb : ∀ p ∈ news, p.1 ≠ b := fun p hp => Nat.ne_of_lt (l4 p (.tail _ (.tail _ hp)))
  have N₃' := fun (p : Addr × Obj) (hp : p ∈ (lo, W.listOf ([] : List Value).toArray 0) :: (dp, od) :: (b, BA.ba #[]) :: news) => N₃ p (by
    rcases List.mem_cons.mp hp with rfl | hp
    · exact .tail _ (.tail _ (.head _))
    · rcases List.mem_cons.mp hp with rfl | hp
      · exact .tail _ (.head _)
      · rcases List.mem_cons.mp hp with rfl | hp
        · exact .head _
        · exact .tail _ (.tail _ (.tail _ hp)))
  refine execsC_cons (forC_list (h₀ := g') (L := L') C₁.hh ?_ (by passes_own))
  try k_fold
  k_steps
  refine Hold.go ⟨lp, vs.toArray, _, _, fun i m nw => (∃ t, m ("begin" : Str) = some (.int bg t)) ∧ m ("is_shared" : Str) = some (.bool true) ∧ (∃ t, m ("most" : Str) = some (.int 65535 t)) ∧ m ("offsets" : Str) = some (.ref lo) ∧ m ("places" : Str) = some (.ref dp) ∧ m ("out" : Str) = some (.ref b) ∧
    ∃ offs n od kvs, nw = (lo, W.listOf offs.toArray n) :: (dp, od) :: (b, BA.ba (laidS bg (bs.take i)).2.2.toArray) :: news ∧ IntsAre offs (laidS bg (bs.take i)).1 ∧ od.IsDictOf (bytesKind PySem.Challenge.rw_pb0182_01.row.prog w) kvs ∧ KvInts kvs (laidS bg (bs.take i)).2.1, rfl, by assumption, N₃', ?_, ?_, ?_⟩
  · refine ⟨⟨_, rfl⟩, rfl, ⟨_, rfl⟩, rfl, rfl, rfl, [], 0, od, [], rfl, .nil, dict_nil hid, trivial⟩
  · intro k m nw hp1
    try k_fold
    obtain ⟨_, _, _, _, _, _, offs, n, od, kvs, rfl, _⟩ := hp1
    exact ⟨op, _, .tail _ (.tail _ (.tail _ hlp)), hoc, hod⟩
  · rintro s₂ ⟨g₂, rfl⟩
    refine ⟨?_, ?_⟩
    · intro i v m₁ nw I oI h tk hv hp1 Fa Na offI
      try k_fold
      obtain ⟨⟨tb, m1⟩, m2, ⟨tm, m3⟩, m4, m5, m6, offs, n, od, kvs, rfl, hI, hK, hV⟩ := hp1
      try k_fold
      obtain ⟨c, tc, rfl, hc⟩ := BytesAre.at hb (i := i) (by simpa using hv)
      have hsi := laid_sizes bg (bs.take i)
      have hfl : (bs.take i).flatten.length ≤ bs.flatten.length := by
        have e : bs.flatten.length = (bs.take i).flatten.length + (bs.drop i).flatten.length := by rw [← List.length_append, ← List.flatten_append, List.take_append_drop]
        omega
      have hbig : (laidS bg (bs.take i)).2.2.length ≤ 16777216 := by omega
      try k_fold
      k_steps
      refine execsC_cons (ifC (wpC_any ?_))
      try k_fold
      k_steps
      refine execsC_cons (ifC (wpC_any ?_))
      try k_fold
      k_steps
      rename News _ _ _ _ => Nb
      rename Fr _ _ _ _ => Fb
      have hf := KvInts.find (k := c) hV
      have hkc : (bytesKind PySem.Challenge.rw_pb0182_01.row.prog w).is c (.bytes c.toArray tc) = true := by simp [PySem.W.bytesKind, PySem.W.isBytes]
      have nI : ∀ p ∈ (lo, W.listOf offs.toArray n) :: (dp, od) :: (b, BA.ba (laidS bg (bs.take i)).2.2.toArray) :: news, p.1 ≠ I := offI
      cases hfd : ((laidS bg (bs.take i)).2.1.find? fun p => p.1 = c) with
      | some q =>
        rw [hfd] at hf
        obtain ⟨tq, hq⟩ := hf
        refine Hold.go (kda_in (knd := bytesKind PySem.Challenge.rw_pb0182_01.row.prog w) (k := c) Nb (.tail _ (.tail _ (.head _))) hK lod hkc true (by rw [hq]; rfl) ?_)
        try k_fold
        k_steps
        refine execsC_any ?_
        try k_fold
        k_steps
        refine Hold.go (kda_item (knd := bytesKind PySem.Challenge.rw_pb0182_01.row.prog w) (k := c) Nb (.tail _ (.tail _ (.head _))) hK hkc hq ?_)
        try k_fold
        k_steps
        have hst : laidS bg (bs.take (i + 1)) = ((laidS bg (bs.take i)).1 ++ [q.2], (laidS bg (bs.take i)).2.1, (laidS bg (bs.take i)).2.2) := by
          rw [List.take_add_one, hc]
          simp only [Option.toList_some, laidS_snoc, laidStep, hfd]
        refine Hold.go (append_K Fb Nb (.tail (Ne.symm (offI _ (.head _))) (.head (fun p hp => ?_))) fun h₅ F₅ N₅ => ?_) 
        · rcases List.mem_cons.mp hp with rfl | hp
          · exact Ne.symm dlo
          · rcases List.mem_cons.mp hp with rfl | hp
            · exact Ne.symm blo
            · exact nlo p hp
        · try k_fold
          k_steps
          refine Hold.go (execsC_nil ?_)
          try dsimp only
          refine execsC_nil ?_
          try dsimp only
          refine execsC_nil ?_
          try dsimp only
          refine Hold.go ⟨h₅, _, _, (lo, W.listOf (offs ++ [Value.int q.2 tq]).toArray (n + 1)) :: (dp, od) :: (b, BA.ba (laidS bg (bs.take i)).2.2.toArray) :: news, rfl, F₅, by simpa using N₅, (fun p hp => ?_), ⟨_, m1⟩, m2, ⟨_, m3⟩, m4, m5, m6, offs ++ [Value.int q.2 tq], n + 1, od, kvs, by rw [hst], ?_, hK, ?_⟩
          · rcases List.mem_cons.mp hp with rfl | hp
            · exact offI (lo, W.listOf offs.toArray n) (.head _)
            · exact offI p (.tail _ hp)
          · rw [hst]; exact IntsAre.append hI (.cons _ _ .nil)
          · rw [hst]; exact hV
      | none =>
        rw [hfd] at hf
        refine Hold.go (kda_in (knd := bytesKind PySem.Challenge.rw_pb0182_01.row.prog w) (k := c) Nb (.tail _ (.tail _ (.head _))) hK lod hkc false (by rw [hf.1]; rfl) ?_)
        try k_fold
        k_steps
        refine execsC_any ?_
        try k_fold
        k_steps
        refine Hold.go (BA.len (Nb _ (.tail _ (.tail _ (.tail _ (.head _))))).1 (by rw [List.size_toArray]; exact hbig) ?_)
        try k_fold
        k_steps
        try dsimp only
        refine Hold.go (execsC_cons (ifC (wpC_any ?_)))
        try k_fold
        k_steps
        refine execsC_nil ?_
        try dsimp only
        refine execsC_any ?_
        try k_fold
        k_steps
        rename News _ _ _ _ => Nc
        rename Fr _ _ _ _ => Fc
        refine Hold.go (kda_set (knd := PySem.W.bytesKind PySem.Challenge.rw_pb0182_01.row.prog w) (k := c) Fc Nc (.tail (Ne.symm (offI _ (.tail _ (.head _)))) (.tail dlo (.head fun p hp => ?_))) hK hkc (by rw [hV.length, sizeLine_eq]; rw [List.length_take] at hsi; omega) fun h₅ o₅ F₅ N₅ hd₅ => ?_)
        · rcases List.mem_cons.mp hp with rfl | hp
          · exact Ne.symm bdp
          · exact ndp p hp
        try k_fold
        k_steps
        refine Hold.go (execsC_any ?_)
        try k_fold
        k_steps
        refine Hold.go (append_K F₅ N₅ (.tail (Ne.symm (offI _ (.head _))) (.head (fun p hp => ?_))) fun h₆ F₆ N₆ => ?_)
        · rcases List.mem_cons.mp hp with rfl | hp
          · exact Ne.symm dlo
          · rcases List.mem_cons.mp hp with rfl | hp
            · exact Ne.symm blo
            · exact nlo p hp
        try k_fold
        k_steps
        try dsimp only
        obtain ⟨tv, N₆⟩ : ∃ tv, News g' L' h₆ ((I, oI) :: (lo, W.listOf (offs ++ [Value.int (bg + ↑(laidS bg (bs.take i)).2.2.length) tv]).toArray (n + 1)) :: (dp, o₅) :: (b, BA.ba (laidS bg (bs.take i)).2.2.toArray) :: news) := ⟨_, by simpa using N₆⟩
        have Nd : News g' L' h₆ ((b, BA.ba (laidS bg (bs.take i)).2.2.toArray) :: (I, oI) :: (lo, W.listOf (offs ++ [Value.int (bg + ↑(laidS bg (bs.take i)).2.2.length) tv]).toArray (n + 1)) :: (dp, o₅) :: news) := fun p hp => N₆ p (by
          rcases List.mem_cons.mp hp with rfl | hp
          · exact .tail _ (.tail _ (.tail _ (.head _)))
          · rcases List.mem_cons.mp hp with rfl | hp
            · exact .head _
            · rcases List.mem_cons.mp hp with rfl | hp
              · exact .tail _ (.head _)
              · rcases List.mem_cons.mp hp with rfl | hp
                · exact .tail _ (.tail _ (.head _))
                · exact .tail _ (.tail _ (.tail _ (.tail _ hp))))
        refine Hold.go (execsC_cons (BA.extend_stmt (h₀ := g') (L := L') C₁.hG ?_))
        try k_fold
        k_steps
        refine Hold.go ⟨b, _, rfl, (Nd _ (.head _)).1, ?_⟩
        try k_fold
        k_steps
        refine Hold.go ⟨_, _, _, _, _, rfl, by assumption, Nd, ?_, ?_, fun h' F₇ N₇ => ?_⟩
        · intro p hp
          rcases List.mem_cons.mp hp with rfl | hp
          · exact Ne.symm (offI _ (.tail _ (.tail _ (.head _))))
          · rcases List.mem_cons.mp hp with rfl | hp
            · exact blo
            · rcases List.mem_cons.mp hp with rfl | hp
              · exact bdp
              · exact nb p hp
        · rw [List.size_toArray, List.size_toArray]
          have : c.length ≤ bs.flatten.length := by
            have hm : c ∈ bs := List.mem_of_getElem? hc
            exact (List.sublist_flatten_of_mem hm).length_le
          omega
        · refine execsC_nil ?_
          try dsimp only
          refine execsC_nil ?_
          try dsimp only
          refine execsC_nil ?_
          try dsimp only
          have hst : laidS bg (bs.take (i + 1)) = ((laidS bg (bs.take i)).1 ++ [bg + ((laidS bg (bs.take i)).2.2.length : Int)], (laidS bg (bs.take i)).2.1 ++ [(c, bg + ((laidS bg (bs.take i)).2.2.length : Int))], (laidS bg (bs.take i)).2.2 ++ c) := by
            rw [List.take_add_one, hc]
            simp only [Option.toList_some, laidS_snoc, laidStep, hfd]
          refine Hold.go ⟨h', _, _, (lo, W.listOf (offs ++ [Value.int (bg + ↑(laidS bg (bs.take i)).2.2.length) tv]).toArray (n + 1)) :: (dp, o₅) :: (b, BA.ba ((laidS bg (bs.take i)).2.2 ++ c).toArray) :: news, rfl, F₇, (fun p hp => ?_), (fun p hp => ?_), ⟨_, m1⟩, m2, ⟨_, m3⟩, m4, m5, m6, offs ++ [Value.int _ tv], n + 1, o₅, _, by rw [hst], ?_, hd₅, ?_⟩
          · simp only [List.append_toArray] at N₇
            have N₇' := N₇ p
            rcases List.mem_cons.mp hp with rfl | hp
            · exact N₇' (.tail _ (.head _))
            · rcases List.mem_cons.mp hp with rfl | hp
              · exact N₇' (.tail _ (.tail _ (.head _)))
              · rcases List.mem_cons.mp hp with rfl | hp
                · exact N₇' (.tail _ (.tail _ (.tail _ (.head _))))
                · rcases List.mem_cons.mp hp with rfl | hp
                  · exact N₇' (.head _)
                  · exact N₇' (.tail _ (.tail _ (.tail _ (.tail _ hp))))
          · rcases List.mem_cons.mp hp with rfl | hp
            · exact offI (lo, W.listOf offs.toArray n) (.head _)
            · rcases List.mem_cons.mp hp with rfl | hp
              · exact offI (dp, od) (.tail _ (.head _))
              · rcases List.mem_cons.mp hp with rfl | hp
                · exact offI (b, BA.ba (laidS bg (bs.take i)).2.2.toArray) (.tail _ (.tail _ (.head _)))
                · exact offI p (.tail _ (.tail _ (.tail _ hp)))
          · rw [hst]; exact IntsAre.append hI (.cons _ _ .nil)
          · rw [hst]
            unfold stored
            rw [if_neg (by rw [hf.2]; exact Bool.false_ne_true)]
            exact hV.snoc
    · intro h tk m₁ nw Fa Na hp1
      try k_fold
      obtain ⟨_, _, _, m4, _, m6, offs, n, od, kvs, rfl, hI, hK, hV⟩ := hp1
      simp only [List.size_toArray, hlen', List.take_length] at hI Na
      have hsi := laid_sizes bg bs
      try dsimp only
      refine execsC_any ?_
      try k_fold
      k_steps
      refine Hold.go (bytes_of (X₁.keeps Fa.keep) C₁.hh C₁.hG (Nat.le_trans (Nat.add_le_add_right hd 1) (by decide)) (Nat.le_trans (Nat.add_le_add_right hu 3) (by decide)) (Na _ (.tail _ (.tail _ (.head _)))).1 (by rw [List.size_toArray]; omega) fun t tk' => ?_)
      try k_fold
      k_steps
      rename News _ _ _ _ => Nz
      rename Fr _ _ _ _ => Fz
      refine ⟨_, _, _, Fz, Nz, fun Ff Nf => hret _ _ lo offs n t [(dp, od), (b, BA.ba (laidS bg bs).2.2.toArray)] _ _ Ff Nf hI⟩
theorem core : P_laid_ok w p loose mean mg mb A A₀ env outer base h₀ L m news s Q E lp op vs bs k bg tk := by
  unfold P_laid_ok
  intro C F N hlp hoc hod hb hlen hbg hbg2 hsz hd hu hret
  exact body.2 C F N hlp hoc hod hb hlen hbg hbg2 hsz hd hu hret fun g' L' h₁ => eps_all (P := PB) (by with_unfolding_all exact inner) (g', L', h₁) C F N hlp hoc hod hb hlen hbg hbg2 hsz hd hu hret
end K_laid_ok
theorem laid_ok {w : World} {p : Program} {loose : List Str} {mean : ExcName → Option Value} {mg : Str → Option Value} {mb : Str → Option Value} {A : Around} {A₀ : Around} {env : Env} {outer : List Env} {base : Heap} {h₀ : Heap} {L : Addr} {m : Str → Option Value} {news : List (Addr × Obj)} {s : Shared} {Q : Value → Shared → Prop} {E : Value → Shared → Prop} {lp : Addr} {op : Obj} {vs : List Value} {bs : List (List UInt8)} {k : Nat} {bg : Int} {tk : Tok} (C : Cx w p loose mean mg mb A A₀ env outer base h₀ L) (F : Fr h₀ L s.heap m) (N : News h₀ L s.heap news) (hlp : (lp, op) ∈ news) (hoc : op.cls = .type "list") (hod : op.data = .seq vs.toArray k) (hb : BytesAre vs bs) (hlen : bs.length ≤ 100) (hbg : 0 ≤ bg) (hbg2 : bg ≤ 1000) (hsz : bs.flatten.length ≤ 10000) (hd : A.depth ≤ 850) (hu : A.units ≤ 4500) (hret : ∀ x kx lo offs ko t G h' tk', Fr h₀ L h' m → News h₀ L h' ((x, ({ cls := .type "tuple", data := .seq #[.ref lo, .bytes (laidS bg bs).2.2.toArray t] kx } : Obj)) :: (lo, ({ cls := .type "list", data := .seq offs.toArray ko } : Obj)) :: (G ++ news)) → IntsAre offs (laidS bg bs).1 → Q (.ref x) { s with heap := h', toks := tk' }) :
    wpC (model PySem.Challenge.rw_pb0182_01.row.prog w) A (call (.ref 172) [.int bg tk, .ref lp]) Q E s :=
  eps_all (P := fun v => P_laid_ok v.1 v.2.1 v.2.2.1 v.2.2.2.1 v.2.2.2.2.1 v.2.2.2.2.2.1 v.2.2.2.2.2.2.1 v.2.2.2.2.2.2.2.1 v.2.2.2.2.2.2.2.2.1 v.2.2.2.2.2.2.2.2.2.1 v.2.2.2.2.2.2.2.2.2.2.1 v.2.2.2.2.2.2.2.2.2.2.2.1 v.2.2.2.2.2.2.2.2.2.2.2.2.1 v.2.2.2.2.2.2.2.2.2.2.2.2.2.1 v.2.2.2.2.2.2.2.2.2.2.2.2.2.2.1 v.2.2.2.2.2.2.2.2.2.2.2.2.2.2.2.1 v.2.2.2.2.2.2.2.2.2.2.2.2.2.2.2.2.1 v.2.2.2.2.2.2.2.2.2.2.2.2.2.2.2.2.2.1 v.2.2.2.2.2.2.2.2.2.2.2.2.2.2.2.2.2.2.1 v.2.2.2.2.2.2.2.2.2.2.2.2.2.2.2.2.2.2.2.1 v.2.2.2.2.2.2.2.2.2.2.2.2.2.2.2.2.2.2.2.2.1 v.2.2.2.2.2.2.2.2.2.2.2.2.2.2.2.2.2.2.2.2.2.1 v.2.2.2.2.2.2.2.2.2.2.2.2.2.2.2.2.2.2.2.2.2.2.1 v.2.2.2.2.2.2.2.2.2.2.2.2.2.2.2.2.2.2.2.2.2.2.2.1 v.2.2.2.2.2.2.2.2.2.2.2.2.2.2.2.2.2.2.2.2.2.2.2.2) (by with_unfolding_all exact K_laid_ok.core) (w, p, loose, mean, mg, mb, A, A₀, env, outer, base, h₀, L, m, news, s, Q, E, lp, op, vs, bs, k, bg, tk) C F N hlp hoc hod hb hlen hbg hbg2 hsz hd hu hret
end
end Mine
end TextP2
section TextP3
open PySem PySem.W PyProof.Rows PySem.Calls PySem.Spec
set_option Elab.async false
set_option maxRecDepth 100000
set_option maxHeartbeats 1000000
namespace Mine
theorem fillP3 {w : World} {A : Around} {Q : Value → Shared → Prop} {E : Value → Shared → Prop} {s : Shared} (h : (hd0.heap_1 w.params).In s.heap → wpAny (model PySem.Challenge.rw_pb0182_01.row.prog w) A (call .none []) Q E s) :
    (hd0.heap_1 w.params).In s.heap → wpAny (model PySem.Challenge.rw_pb0182_01.row.prog w) A (call .none []) Q E s := by
  k_fill
  w_top off
  intro hX
  try walk1
  exact h hX
noncomputable abbrev revD (w : World) (dm tb ta : Addr) (t1 t2 t3 : Tok) : Obj := dictOf [⟨PyData.keyHash w.params "mapping", .str "mapping" t1, .ref dm⟩, ⟨PyData.keyHash w.params "back", .str "back" t2, .ref tb⟩, ⟨PyData.keyHash w.params "ahead", .str "ahead" t3, .ref ta⟩] 3
/-- refs to coverages -/
noncomputable def CovIn (w : World) (nw : List (Addr × Obj)) (v : Value) (gs : List Int) : Prop :=
  ∃ cv dx tg tt og vs k, v = .ref cv ∧ (cv, instObj 210 dx) ∈ nw ∧ (dx, covD w tg tt) ∈ nw ∧ (tg, og) ∈ nw ∧ og.cls = .type "tuple" ∧ og.data = .seq (List.toArray vs) k ∧ IntsAre vs gs
inductive CovsIn (w : World) (nw : List (Addr × Obj)) : List Value → List (List Int) → Prop
  | nil : CovsIn w nw [] []
  | cons {v gs vs gss} : CovIn w nw v gs → CovsIn w nw vs gss → CovsIn w nw (v :: vs) (gs :: gss)
theorem laid_offs (bg : Int) (bs : List (List UInt8)) (h0 : 0 ≤ bg) : (∀ o ∈ (laidS bg bs).1, bg ≤ o ∧ o ≤ bg + bs.flatten.length) := by
  have key : ∀ l : List (List UInt8), (∀ o ∈ (laidS bg l.reverse).1, bg ≤ o ∧ o ≤ bg + l.reverse.flatten.length) ∧ (∀ q ∈ (laidS bg l.reverse).2.1, bg ≤ q.2 ∧ q.2 ≤ bg + l.reverse.flatten.length) := by
    intro l
    induction l with
    | nil => exact ⟨(fun o h => by cases h), (fun o h => by cases h)⟩
    | cons a r ih =>
      have hs := (laid_sizes bg r.reverse).2.2
      have hl : (r.reverse ++ [a]).flatten.length = r.reverse.flatten.length + a.length := by simp
      rw [List.reverse_cons, laidS_snoc, hl]
      generalize laidS bg r.reverse = st at ih hs
      obtain ⟨i1, i2⟩ := ih
      unfold laidStep
      cases hf : st.2.1.find? fun p => p.1 = a with
      | some q =>
        have hq := i2 q (List.mem_of_find?_eq_some hf)
        refine ⟨fun o h => ?_, fun o h => ?_⟩
        · rcases List.mem_append.mp h with h | h
          · have := i1 o h; omega
          · rw [List.mem_singleton.mp h]; omega
        · have := i2 o h; omega
      | none =>
        refine ⟨fun o h => ?_, fun o h => ?_⟩
        · rcases List.mem_append.mp h with h | h
          · have := i1 o h; omega
          · rw [List.mem_singleton.mp h]; omega
        · rcases List.mem_append.mp h with h | h
          · have := i2 o h; omega
          · rw [List.mem_singleton.mp h]; dsimp only; omega
  have := (key bs.reverse).1
  rwa [List.reverse_reverse] at this
theorem ints_uncons {vs : List Value} {ns : List Int} (H : IntsAre vs ns) (h : ns ≠ []) : ∃ n ns' t vs', ns = n :: ns' ∧ vs = Value.int n t :: vs' := by
  cases H with
  | nil => exact absurd rfl h
  | cons n t r => exact ⟨_, _, _, _, rfl, rfl⟩
/-- the int at a key -/
noncomputable def valI (kvs : List (Int × Value)) (k : Int) : Int := match valueAt kvs k with | some (.int n _) => n | _ => 0
theorem cover_size (gs : List Int) : (coverBytes gs).length ≤ 4 + 2 * gs.length := by
  unfold coverBytes
  split
  · rw [List.length_append, flat_two]; simp [two]
  · rw [List.length_append, spans_size]; simp [two]; omega
theorem covers_size (n : Nat) : ∀ (l : List (List Int)), (∀ gs ∈ l, gs.length ≤ n) → ((l.map coverBytes).flatten).length ≤ l.length * (4 + 2 * n)
  | [], _ => by simp
  | a :: r, h => by
    rw [List.map_cons, List.flatten_cons, List.length_append, List.length_cons, Nat.succ_mul]
    have := covers_size n r fun gs hg => h gs (.tail _ hg)
    have := cover_size a
    have := h a (.head _)
    omega
theorem CovsIn.length {w : World} {nw : List (Addr × Obj)} : ∀ {vs : List Value} {gss : List (List Int)}, CovsIn w nw vs gss → vs.length = gss.length := by
  intro vs gss H
  induction H with
  | nil => rfl
  | cons _ _ ih => exact congrArg (· + 1) ih
theorem CovIn.mono {w : World} {nw nw' : List (Addr × Obj)} (h : ∀ p ∈ nw, p ∈ nw') {v : Value} {gs : List Int} (H : CovIn w nw v gs) : CovIn w nw' v gs := by
  try k_fold
  obtain ⟨cv, dx, tg, tt, og, vs, k, e, h1, h2, h3, r⟩ := H
  exact ⟨cv, dx, tg, tt, og, vs, k, e, h _ h1, h _ h2, h _ h3, r⟩
theorem CovsIn.mono {w : World} {nw nw' : List (Addr × Obj)} (h : ∀ p ∈ nw, p ∈ nw') : ∀ {vs : List Value} {gss : List (List Int)}, CovsIn w nw vs gss → CovsIn w nw' vs gss := by
  intro vs gss H
  induction H with
  | nil => exact .nil
  | cons c _ ih => exact .cons (c.mono h) ih
theorem CovsIn.append {w : World} {nw : List (Addr × Obj)} : ∀ {vs ws : List Value} {gss hss : List (List Int)}, CovsIn w nw vs gss → CovsIn w nw ws hss → CovsIn w nw (vs ++ ws) (gss ++ hss) := by
  intro vs ws gss hss H h
  induction H with
  | nil => exact h
  | cons a _ ih => exact .cons a ih
theorem CovsIn.at {w : World} {nw : List (Addr × Obj)} : ∀ {vs : List Value} {gss : List (List Int)}, CovsIn w nw vs gss → ∀ {i : Nat} {v}, vs[i]? = some v → ∃ gs, gss[i]? = some gs ∧ CovIn w nw v gs := by
  intro vs gss H
  induction H with
  | nil => intro i v h; simp at h
  | cons c _ ih =>
    intro i v h
    cases i with
    | zero => cases h; exact ⟨_, rfl, c⟩
    | succ i => exact ih h
section
variable {w : World} {p : Program} {loose : List Str} {mean : ExcName → Option Value} {mg mb : Str → Option Value} {A A₀ : Around} {env : Env} {outer : List Env} {base h₀ : Heap} {L : Addr} {m : Str → Option Value} {news rest : List (Addr × Obj)} {s : Shared}
  {Q E : Value → Shared → Prop}
theorem item0 {prog : Program} {value slice : Expr} {l : Addr} {items : List Value} {x : Value} {u : Tok} {Q : Value → Shared → Prop} (hl : s.heap.IsList l (x :: items).toArray) (h : Q x s)
    (hs : subscripted slice false (.ref l) (.int 0 u) = operate [.ref l, .int 0 u] (getItem (.ref l) (.int 0 u)) := by with_unfolding_all rfl) :
    wpAny (model prog w) A (subscriptTail value slice (.ref l) (.int 0 u)) Q E s :=
  subscriptTail_builtinR hl.typeIs slot_list_getitem.lookup (wpAny_getItem_list (Q := fun r s' => r = x ∧ Q r s') hl (by decide) (by decide) (by simp) ⟨rfl, h⟩) hs
theorem dict_itemR {prog : Program} {K : Type} [DecidableEq K] {knd : KeyKind prog w K} {d : Addr} {o : Obj} {k : K} {v key : Value} {kvs : List (K × Value)} {value slice : PySem.Expr} (N : News h₀ L s.heap news) (hp : (d, o) ∈ news) (hd : o.IsDictOf knd kvs) (hkey : knd.is k key = true) (hl : valueAt kvs k = some v) (h : Q v { s with toks := s.toks + 1 })
    (hs : subscripted slice false (.ref d) key = operate [.ref d, key] (getItem (.ref d) key) := by with_unfolding_all rfl) :
    wpAny (model prog w) A (subscriptTail value slice (.ref d) key) Q E s :=
  have hD := kda_dict N hp hd
  subscriptTail_builtinR hD.typeIs slot_dict_getitem.lookup (wpAny_getItem_of (Q := fun r s' => r = v ∧ Q r s') hkey hD.mapOf hl ⟨rfl, h⟩) hs
theorem off_cons {b : Addr} {q : Addr × Obj} {l : List (Addr × Obj)} (h : q.1 ≠ b) (r : ∀ p ∈ l, p.1 ≠ b) : ∀ p ∈ q :: l, p.1 ≠ b := fun p hp => by
  revert p; refine fa_cons ?_ fun p hp => ?_
  · exact h
  · exact r p hp
theorem wpAny_eqv {α : Type} {M : Model} {A : Around} {E : Value → Shared → Prop} {s : Shared} {t t' : Sem α} {Q : α → Shared → Prop} (e : t = t') (h : wpAny M A t' Q E s) : wpAny M A t Q E s := e ▸ h
theorem list_of {prog : Program} {it : Addr} {o : Obj} {vs : List Value} {n : Nat} (F : Fr h₀ L s.heap m) (N : News h₀ L s.heap news) (hp : (it, o) ∈ news) (hc : o.cls = .type "tuple") (hd : o.data = .seq vs.toArray n)
    (hQ : ∀ (D : Addr) c h', Fr h₀ L h' m → News h₀ L h' ((D, W.listOf vs.toArray c) :: news) → (∀ p ∈ news, p.1 < D) → Q (.ref D) { s with heap := h' }) (hsz : vs.length ≤ 1000) :
    wpAny (model prog w) A (call (.type "list") [.ref it]) Q E s := by
  refine call_list_seq it (.inr rfl) (N _ hp).1 hc hd (fun h' c' hk hD => ?_) (by rw [List.size_toArray, sizeLine_eq]; omega)
  exact hQ _ c' h' (F.kept hk) (N.kept_cons F hk (Nat.le_refl _) hD) fun p hp => Heap.lt_size (N p hp).1
/-- what write_reverse gives -/
noncomputable def revBytes (gs subs : List Int) (back ahead : List (List Int)) : List UInt8 :=
  let st := laidS (10 + 2 * ((back.length : Int) + ahead.length + gs.length)) ((gs :: back ++ ahead).map coverBytes)
  two 1 ++ two (st.1.headD 0) ++ (two back.length ++ (((st.1.drop 1).take back.length).map two).flatten) ++ (two ahead.length ++ ((st.1.drop (1 + back.length)).map two).flatten) ++ (two gs.length ++ (subs.map two).flatten) ++ st.2.2
end
section
noncomputable def P_write_reverse_ok (w : World) (p : Program) (loose : List Str) (mean : ExcName → Option Value) (mg : Str → Option Value) (mb : Str → Option Value) (A : Around) (A₀ : Around) (env : Env) (outer : List Env) (base : Heap) (h₀ : Heap) (L : Addr) (m : Str → Option Value) (news : List (Addr × Obj)) (s : Shared) (Q : Value → Shared → Prop) (E : Value → Shared → Prop) (x : Addr) (dt : Addr) (dm : Addr) (tb : Addr) (ta : Addr) (t1 : Tok) (t2 : Tok) (t3 : Tok) (om : Obj) (ob : Obj) (oa : Obj) (vb : List Value) (va : List Value) (kb : Nat) (ka : Nat) (kvs : List (Int × Value)) (back : List (List Int)) (ahead : List (List Int)) : Prop := ∀ (C : Cx w p loose mean mg mb A A₀ env outer base h₀ L) (F : Fr h₀ L s.heap m) (N : News h₀ L s.heap news) (hx : (x, instObj 260 dt) ∈ news) (hdt : (dt, revD w dm tb ta t1 t2 t3) ∈ news) (hdm : (dm, om) ∈ news) (hom : om.IsDictOf (PySem.intKind PySem.Challenge.rw_pb0182_01.row.prog w) kvs) (lom : (dm == sysModules) = false) (htb : (tb, ob) ∈ news) (hobc : ob.cls = .type "tuple") (hobd : ob.data = .seq vb.toArray kb) (hB : CovsIn w news vb back) (hta : (ta, oa) ∈ news) (hoac : oa.cls = .type "tuple") (hoad : oa.data = .seq va.toArray ka) (hA' : CovsIn w news va ahead) (hkl : kvs.length ≤ 10) (hbl : back.length ≤ 5) (hal : ahead.length ≤ 5) (hks : ∀ k ∈ kvs.map (·.1), 0 ≤ k ∧ k < 10 ^ 6) (hbk : ∀ l ∈ back ++ ahead, l.length ≤ 10 ∧ ∀ g ∈ l, 0 ≤ g ∧ g < 65536) (hvs : ∀ k ∈ kvs.map (·.1), ∃ n t, valueAt kvs k = some (.int n t) ∧ 0 ≤ n ∧ n < 10 ^ 9) (hd : A.depth ≤ 840) (hu : A.units ≤ 4400) (hexc : (¬ ((∀ k ∈ kvs.map (·.1), k < 65536) ∧ ∀ k ∈ kvs.map (·.1), valI kvs k < 65536)) → ∀ x h' tk', Exc s.heap [] base (env :: outer) x (.ref 68) h' → E (.ref x) { s with heap := h', toks := tk' }) (hret : ∀ gs : List Int, gs.Perm (kvs.map (·.1)) → gs.Pairwise (· < ·) → (∀ k ∈ gs, k < 65536) → (∀ k ∈ gs, valI kvs k < 65536) → ∀ t h' tk', Fr h₀ L h' m → News h₀ L h' news → Q (.bytes (revBytes gs (gs.map (valI kvs)) back ahead).toArray t) { s with heap := h', toks := tk' }),
    wpC (model PySem.Challenge.rw_pb0182_01.row.prog w) A (call (.ref 269) [.ref x]) Q E s
noncomputable def c_write_reverse_ok := @Classical.epsilon ((World) × (Program) × (List Str) × (ExcName → Option Value) × (Str → Option Value) × (Str → Option Value) × (Around) × (Around) × (Env) × (List Env) × (Heap) × (Heap) × (Addr) × (Str → Option Value) × (List (Addr × Obj)) × (Shared) × (Value → Shared → Prop) × (Value → Shared → Prop) × (Addr) × (Addr) × (Addr) × (Addr) × (Addr) × (Tok) × (Tok) × (Tok) × (Obj) × (Obj) × (Obj) × (List Value) × (List Value) × (Nat) × (Nat) × (List (Int × Value)) × (List (List Int)) × (List (List Int))) ⟨(wDef, default, [], fun _ => none, fun _ => none, fun _ => none, callerA, callerA, default, [], default, default, 0, fun _ => none, [], (PySem.start default).1, fun _ _ => True, fun _ _ => True, 0, 0, 0, 0, 0, 0, 0, 0, default, default, default, [], [], 0, 0, [], [], [])⟩ fun v => ¬ P_write_reverse_ok v.1 v.2.1 v.2.2.1 v.2.2.2.1 v.2.2.2.2.1 v.2.2.2.2.2.1 v.2.2.2.2.2.2.1 v.2.2.2.2.2.2.2.1 v.2.2.2.2.2.2.2.2.1 v.2.2.2.2.2.2.2.2.2.1 v.2.2.2.2.2.2.2.2.2.2.1 v.2.2.2.2.2.2.2.2.2.2.2.1 v.2.2.2.2.2.2.2.2.2.2.2.2.1 v.2.2.2.2.2.2.2.2.2.2.2.2.2.1 v.2.2.2.2.2.2.2.2.2.2.2.2.2.2.1 v.2.2.2.2.2.2.2.2.2.2.2.2.2.2.2.1 v.2.2.2.2.2.2.2.2.2.2.2.2.2.2.2.2.1 v.2.2.2.2.2.2.2.2.2.2.2.2.2.2.2.2.2.1 v.2.2.2.2.2.2.2.2.2.2.2.2.2.2.2.2.2.2.1 v.2.2.2.2.2.2.2.2.2.2.2.2.2.2.2.2.2.2.2.1 v.2.2.2.2.2.2.2.2.2.2.2.2.2.2.2.2.2.2.2.2.1 v.2.2.2.2.2.2.2.2.2.2.2.2.2.2.2.2.2.2.2.2.2.1 v.2.2.2.2.2.2.2.2.2.2.2.2.2.2.2.2.2.2.2.2.2.2.1 v.2.2.2.2.2.2.2.2.2.2.2.2.2.2.2.2.2.2.2.2.2.2.2.1 v.2.2.2.2.2.2.2.2.2.2.2.2.2.2.2.2.2.2.2.2.2.2.2.2.1 v.2.2.2.2.2.2.2.2.2.2.2.2.2.2.2.2.2.2.2.2.2.2.2.2.2.1 v.2.2.2.2.2.2.2.2.2.2.2.2.2.2.2.2.2.2.2.2.2.2.2.2.2.2.1 v.2.2.2.2.2.2.2.2.2.2.2.2.2.2.2.2.2.2.2.2.2.2.2.2.2.2.2.1 v.2.2.2.2.2.2.2.2.2.2.2.2.2.2.2.2.2.2.2.2.2.2.2.2.2.2.2.2.1 v.2.2.2.2.2.2.2.2.2.2.2.2.2.2.2.2.2.2.2.2.2.2.2.2.2.2.2.2.2.1 v.2.2.2.2.2.2.2.2.2.2.2.2.2.2.2.2.2.2.2.2.2.2.2.2.2.2.2.2.2.2.1 v.2.2.2.2.2.2.2.2.2.2.2.2.2.2.2.2.2.2.2.2.2.2.2.2.2.2.2.2.2.2.2.1 v.2.2.2.2.2.2.2.2.2.2.2.2.2.2.2.2.2.2.2.2.2.2.2.2.2.2.2.2.2.2.2.2.1 v.2.2.2.2.2.2.2.2.2.2.2.2.2.2.2.2.2.2.2.2.2.2.2.2.2.2.2.2.2.2.2.2.2.1 v.2.2.2.2.2.2.2.2.2.2.2.2.2.2.2.2.2.2.2.2.2.2.2.2.2.2.2.2.2.2.2.2.2.2.1 v.2.2.2.2.2.2.2.2.2.2.2.2.2.2.2.2.2.2.2.2.2.2.2.2.2.2.2.2.2.2.2.2.2.2.2
namespace K_write_reverse_ok
@[irreducible] noncomputable def w : World := c_write_reverse_ok.1
@[irreducible] noncomputable def p : Program := c_write_reverse_ok.2.1
@[irreducible] noncomputable def loose : List Str := c_write_reverse_ok.2.2.1
@[irreducible] noncomputable def mean : ExcName → Option Value := c_write_reverse_ok.2.2.2.1
@[irreducible] noncomputable def mg : Str → Option Value := c_write_reverse_ok.2.2.2.2.1
@[irreducible] noncomputable def mb : Str → Option Value := c_write_reverse_ok.2.2.2.2.2.1
@[irreducible] noncomputable def A : Around := c_write_reverse_ok.2.2.2.2.2.2.1
@[irreducible] noncomputable def A₀ : Around := c_write_reverse_ok.2.2.2.2.2.2.2.1
@[irreducible] noncomputable def env : Env := c_write_reverse_ok.2.2.2.2.2.2.2.2.1
@[irreducible] noncomputable def outer : List Env := c_write_reverse_ok.2.2.2.2.2.2.2.2.2.1
@[irreducible] noncomputable def base : Heap := c_write_reverse_ok.2.2.2.2.2.2.2.2.2.2.1
@[irreducible] noncomputable def h₀ : Heap := c_write_reverse_ok.2.2.2.2.2.2.2.2.2.2.2.1
@[irreducible] noncomputable def L : Nat := c_write_reverse_ok.2.2.2.2.2.2.2.2.2.2.2.2.1
@[irreducible] noncomputable def m : Str → Option Value := c_write_reverse_ok.2.2.2.2.2.2.2.2.2.2.2.2.2.1
@[irreducible] noncomputable def news : List (Addr × Obj) := c_write_reverse_ok.2.2.2.2.2.2.2.2.2.2.2.2.2.2.1
@[irreducible] noncomputable def s : Shared := c_write_reverse_ok.2.2.2.2.2.2.2.2.2.2.2.2.2.2.2.1
@[irreducible] noncomputable def Q : Value → Shared → Prop := c_write_reverse_ok.2.2.2.2.2.2.2.2.2.2.2.2.2.2.2.2.1
@[irreducible] noncomputable def E : Value → Shared → Prop := c_write_reverse_ok.2.2.2.2.2.2.2.2.2.2.2.2.2.2.2.2.2.1
@[irreducible] noncomputable def x : Nat := c_write_reverse_ok.2.2.2.2.2.2.2.2.2.2.2.2.2.2.2.2.2.2.1
@[irreducible] noncomputable def dt : Nat := c_write_reverse_ok.2.2.2.2.2.2.2.2.2.2.2.2.2.2.2.2.2.2.2.1
@[irreducible] noncomputable def dm : Nat := c_write_reverse_ok.2.2.2.2.2.2.2.2.2.2.2.2.2.2.2.2.2.2.2.2.1
@[irreducible] noncomputable def tb : Nat := c_write_reverse_ok.2.2.2.2.2.2.2.2.2.2.2.2.2.2.2.2.2.2.2.2.2.1
@[irreducible] noncomputable def ta : Nat := c_write_reverse_ok.2.2.2.2.2.2.2.2.2.2.2.2.2.2.2.2.2.2.2.2.2.2.1
@[irreducible] noncomputable def t1 : Tok := c_write_reverse_ok.2.2.2.2.2.2.2.2.2.2.2.2.2.2.2.2.2.2.2.2.2.2.2.1
@[irreducible] noncomputable def t2 : Tok := c_write_reverse_ok.2.2.2.2.2.2.2.2.2.2.2.2.2.2.2.2.2.2.2.2.2.2.2.2.1
@[irreducible] noncomputable def t3 : Tok := c_write_reverse_ok.2.2.2.2.2.2.2.2.2.2.2.2.2.2.2.2.2.2.2.2.2.2.2.2.2.1
@[irreducible] noncomputable def om : Obj := c_write_reverse_ok.2.2.2.2.2.2.2.2.2.2.2.2.2.2.2.2.2.2.2.2.2.2.2.2.2.2.1
@[irreducible] noncomputable def ob : Obj := c_write_reverse_ok.2.2.2.2.2.2.2.2.2.2.2.2.2.2.2.2.2.2.2.2.2.2.2.2.2.2.2.1
@[irreducible] noncomputable def oa : Obj := c_write_reverse_ok.2.2.2.2.2.2.2.2.2.2.2.2.2.2.2.2.2.2.2.2.2.2.2.2.2.2.2.2.1
@[irreducible] noncomputable def vb : List Value := c_write_reverse_ok.2.2.2.2.2.2.2.2.2.2.2.2.2.2.2.2.2.2.2.2.2.2.2.2.2.2.2.2.2.1
@[irreducible] noncomputable def va : List Value := c_write_reverse_ok.2.2.2.2.2.2.2.2.2.2.2.2.2.2.2.2.2.2.2.2.2.2.2.2.2.2.2.2.2.2.1
@[irreducible] noncomputable def kb : Nat := c_write_reverse_ok.2.2.2.2.2.2.2.2.2.2.2.2.2.2.2.2.2.2.2.2.2.2.2.2.2.2.2.2.2.2.2.1
@[irreducible] noncomputable def ka : Nat := c_write_reverse_ok.2.2.2.2.2.2.2.2.2.2.2.2.2.2.2.2.2.2.2.2.2.2.2.2.2.2.2.2.2.2.2.2.1
@[irreducible] noncomputable def kvs : List (Int × Value) := c_write_reverse_ok.2.2.2.2.2.2.2.2.2.2.2.2.2.2.2.2.2.2.2.2.2.2.2.2.2.2.2.2.2.2.2.2.2.1
@[irreducible] noncomputable def back : List (List Int) := c_write_reverse_ok.2.2.2.2.2.2.2.2.2.2.2.2.2.2.2.2.2.2.2.2.2.2.2.2.2.2.2.2.2.2.2.2.2.2.1
@[irreducible] noncomputable def ahead : List (List Int) := c_write_reverse_ok.2.2.2.2.2.2.2.2.2.2.2.2.2.2.2.2.2.2.2.2.2.2.2.2.2.2.2.2.2.2.2.2.2.2.2
noncomputable def body : { P : Heap → Addr → Heap → Tok → Prop // ∀ (C : Cx w p loose mean mg mb A A₀ env outer base h₀ L) (F : Fr h₀ L s.heap m) (N : News h₀ L s.heap news) (hx : (x, instObj 260 dt) ∈ news) (hdt : (dt, revD w dm tb ta t1 t2 t3) ∈ news) (hdm : (dm, om) ∈ news) (hom : om.IsDictOf (PySem.intKind PySem.Challenge.rw_pb0182_01.row.prog w) kvs) (lom : (dm == sysModules) = false) (htb : (tb, ob) ∈ news) (hobc : ob.cls = .type "tuple") (hobd : ob.data = .seq vb.toArray kb) (hB : CovsIn w news vb back) (hta : (ta, oa) ∈ news) (hoac : oa.cls = .type "tuple") (hoad : oa.data = .seq va.toArray ka) (hA' : CovsIn w news va ahead) (hkl : kvs.length ≤ 10) (hbl : back.length ≤ 5) (hal : ahead.length ≤ 5) (hks : ∀ k ∈ kvs.map (·.1), 0 ≤ k ∧ k < 10 ^ 6) (hbk : ∀ l ∈ back ++ ahead, l.length ≤ 10 ∧ ∀ g ∈ l, 0 ≤ g ∧ g < 65536) (hvs : ∀ k ∈ kvs.map (·.1), ∃ n t, valueAt kvs k = some (.int n t) ∧ 0 ≤ n ∧ n < 10 ^ 9) (hd : A.depth ≤ 840) (hu : A.units ≤ 4400) (hexc : (¬ ((∀ k ∈ kvs.map (·.1), k < 65536) ∧ ∀ k ∈ kvs.map (·.1), valI kvs k < 65536)) → ∀ x h' tk', Exc s.heap [] base (env :: outer) x (.ref 68) h' → E (.ref x) { s with heap := h', toks := tk' }) (hret : ∀ gs : List Int, gs.Perm (kvs.map (·.1)) → gs.Pairwise (· < ·) → (∀ k ∈ gs, k < 65536) → (∀ k ∈ gs, valI kvs k < 65536) → ∀ t h' tk', Fr h₀ L h' m → News h₀ L h' news → Q (.bytes (revBytes gs (gs.map (valI kvs)) back ahead).toArray t) { s with heap := h', toks := tk' }), (∀ g' L' h₁ tk₁, P g' L' h₁ tk₁) →
    wpC (model PySem.Challenge.rw_pb0182_01.row.prog w) A (call (.ref 269) [.ref x]) Q E s } := by
  refine' ⟨_, _⟩
  rotate_left
  intro C F N hx hdt hdm hom lom htb hobc hobd hB hta hoac hoad hA' hkl hbl hal hks hbk hvs hd hu hexc hret hBody
  refine wpC_call ?_
  k_dflt (refine' enterC_cells C F N ?k6 ?k7 ?k8 ?k9 ?kB ?c5 ?_ ?c2 ?c3 ?c4)
  case k6 => k_is
  case k7 => k_is
  case k8 => exact Nat.lt_of_le_of_lt hd (by decide)
  case k9 => first | exact BindsTo.of_eq rfl | exact binds_K (C.X.keeps F.keep) rfl (by k_is) rfl rfl rfl
  case c5 => decide
  case kB => rfl
  case c2 => exact rfl
  case c3 => exact rfl
  case c4 => exact rfl
  exact hBody
noncomputable def PB (v : Heap × Addr × Heap × Tok) : Prop := ∀ (C : Cx w p loose mean mg mb A A₀ env outer base h₀ L) (F : Fr h₀ L s.heap m) (N : News h₀ L s.heap news) (hx : (x, instObj 260 dt) ∈ news) (hdt : (dt, revD w dm tb ta t1 t2 t3) ∈ news) (hdm : (dm, om) ∈ news) (hom : om.IsDictOf (PySem.intKind PySem.Challenge.rw_pb0182_01.row.prog w) kvs) (lom : (dm == sysModules) = false) (htb : (tb, ob) ∈ news) (hobc : ob.cls = .type "tuple") (hobd : ob.data = .seq vb.toArray kb) (hB : CovsIn w news vb back) (hta : (ta, oa) ∈ news) (hoac : oa.cls = .type "tuple") (hoad : oa.data = .seq va.toArray ka) (hA' : CovsIn w news va ahead) (hkl : kvs.length ≤ 10) (hbl : back.length ≤ 5) (hal : ahead.length ≤ 5) (hks : ∀ k ∈ kvs.map (·.1), 0 ≤ k ∧ k < 10 ^ 6) (hbk : ∀ l ∈ back ++ ahead, l.length ≤ 10 ∧ ∀ g ∈ l, 0 ≤ g ∧ g < 65536) (hvs : ∀ k ∈ kvs.map (·.1), ∃ n t, valueAt kvs k = some (.int n t) ∧ 0 ≤ n ∧ n < 10 ^ 9) (hd : A.depth ≤ 840) (hu : A.units ≤ 4400) (hexc : (¬ ((∀ k ∈ kvs.map (·.1), k < 65536) ∧ ∀ k ∈ kvs.map (·.1), valI kvs k < 65536)) → ∀ x h' tk', Exc s.heap [] base (env :: outer) x (.ref 68) h' → E (.ref x) { s with heap := h', toks := tk' }) (hret : ∀ gs : List Int, gs.Perm (kvs.map (·.1)) → gs.Pairwise (· < ·) → (∀ k ∈ gs, k < 65536) → (∀ k ∈ gs, valI kvs k < 65536) → ∀ t h' tk', Fr h₀ L h' m → News h₀ L h' news → Q (.bytes (revBytes gs (gs.map (valI kvs)) back ahead).toArray t) { s with heap := h', toks := tk' }), body.1 v.1 v.2.1 v.2.2.1 v.2.2.2
noncomputable def cb := @Classical.epsilon (Heap × Addr × Heap × Tok) ⟨(default, 0, default, 0)⟩ fun v => ¬ PB v
@[irreducible] noncomputable def g' : Heap := cb.1
@[irreducible] noncomputable def L' : Nat := cb.2.1
@[irreducible] noncomputable def h₁ : Heap := cb.2.2.1
@[irreducible] noncomputable def tk₁ : Tok := cb.2.2.2
theorem inner : PB (g', L', h₁, tk₁) := by
  have st0 : Stop "mem 1" := .mk
  have st1 : Stop "call ref" := .mk
  have st2 : Stop "call builtin:len" := .mk
  have st3 : Stop "call builtin:sorted" := .mk
  have st4 : Stop "call type:list" := .mk
  have st5 : Stop "binaryOp Add ref ref" := .mk
  have st6 : Stop "subscriptTail" := .mk
  unfold PB
  intro C F N hx hdt hdm hom lom htb hobc hobd hB hta hoac hoad hA' hkl hbl hal hks hbk hvs hd hu hexc hret
  delta body
  dsimp only
  intro cells C₁ F₁ N₁ Y G₁ l1
  try k_fold
  have X₁ := C₁.X
  have T₁ := C₁.T
  have B₁ := C₁.B
  first | (refine foldA ?_; intro qC eC) | (refine foldC ?_; intro qC eC)
  try k_fold
  obtain ⟨oc, rfl, hoc⟩ := CellsAre.one Y
  clear Y
  have hoc' : oc.data = .cell (some (.ref x)) := hoc
  clear hoc
  have N₁ : News g' L' h₁ ((L' + 1, oc) :: news) := N₁
  have e1 := N₁ _ (.head _)
  refine execsC_any ?_
  try k_fold
  k_steps
  refine Hold.go (sorted_dict C₁.hh (by assumption) N₁ (.tail _ hdm) hom lom (by omega) fun lg vg gs cg h₂ tk₂ F₂ N₂ l2 hI hperm hsort => ?_)
  try k_fold
  k_steps
  refine Hold.go (execsC_any ?_)
  try k_fold
  k_steps
  have hnd : (kvs.map (·.1)).Nodup := by obtain ⟨_, _, _, _, _, _, h⟩ := hom; exact h
  have hstrict : gs.Pairwise (· < ·) := by
    have h2 : gs.Nodup := hperm.nodup_iff.mpr hnd
    exact (hsort.and h2).imp fun ⟨a, b⟩ => Int.lt_iff_le_and_ne.mpr ⟨a, b⟩
  have hgl : gs.length = kvs.length := by rw [hperm.length_eq, List.length_map]
  rename News _ _ _ _ => N₃
  rename Fr _ _ _ _ => F₃
  refine Hold.go (coverage_of_ok C₁ F₃ N₃ (.head _) rfl rfl hI (by omega) hstrict (Nat.le_trans (Nat.add_le_add_right hd 1) (by decide)) (Nat.le_trans (Nat.add_le_add_right hu 3) (by decide)) fun cv dx tg og tt G h₄ tk₄ F₄ N₄ n1 n2 n3 offc hogc ⟨vt, kt, hogd, hIt⟩ => ?_)
  generalize hR : (cv, instObj 210 dx) :: (dx, covD w tg tt) :: (tg, og) :: (G ++ (lg, W.listOf vg.toArray cg) :: (L' + 1, oc) :: news) = R at N₄
  have q1 : (cv, instObj 210 dx) ∈ R := hR ▸ .head _
  have q2 : (dx, covD w tg tt) ∈ R := hR ▸ .tail _ (.head _)
  have q3 : (tg, og) ∈ R := hR ▸ .tail _ (.tail _ (.head _))
  have q4 : (lg, W.listOf vg.toArray cg) ∈ R := hR ▸ .tail _ (.tail _ (.tail _ (List.mem_append.mpr (.inr (.head _)))))
  have q5 : (L' + 1, oc) ∈ R := hR ▸ .tail _ (.tail _ (.tail _ (List.mem_append.mpr (.inr (.tail _ (.head _))))))
  have qn : ∀ p ∈ news, p ∈ R := fun p hp => hR ▸ .tail _ (.tail _ (.tail _ (List.mem_append.mpr (.inr (.tail _ (.tail _ hp))))))
  have qx := qn _ hx
  have qdt := qn _ hdt
  clear e1 hx hdt
  clear n1 n2 n3 offc
  have e1 := N₄ _ q5
  try k_fold
  k_steps
  rename News _ _ _ _ => N₅
  rename Fr _ _ _ _ => F₅
  have hbl' := hB.length
  have hal' := hA'.length
  refine Hold.go (list_of F₅ N₅ (.tail _ (qn _ htb)) hobc hobd (fun lb cb h₆ F₆ N₆ l6 => ?_) (by omega))
  try k_fold
  k_steps
  have k5 := N₅ _ (.head _)
  refine Hold.go (add_lists (vs := [.ref cv]) F₆ N₆ ⟨_, (N₆ _ (.tail _ (.head _))).1, rfl, _, rfl⟩ ⟨_, (N₆ _ (.head _)).1, rfl, _, rfl⟩ (fun h₇ F₇ N₇ => ?_) (by rw [sizeLine_eq]; simp; omega))
  try k_fold
  k_steps
  rename News _ _ _ _ => N₈
  rename Fr _ _ _ _ => F₈
  refine Hold.go (list_of F₈ N₈ (.tail _ (.tail _ (.tail _ (qn _ hta)))) hoac hoad (fun la ca h₉ F₉ N₉ l9 => ?_) (by omega))
  refine Hold.go (add_lists (vs := .ref cv :: vb) F₉ N₉ ⟨_, (N₉ _ (.tail _ (.head _))).1, rfl, _, rfl⟩ ⟨_, (N₉ _ (.head _)).1, rfl, _, rfl⟩ (fun h₁₀ F₁₀ N₁₀ => ?_) (by rw [sizeLine_eq]; simp; omega))
  generalize h₉.objs.size = lc at N₁₀ ⊢
  try k_fold
  k_steps
  rename News _ _ _ _ => N₁₁
  rename Fr _ _ _ _ => F₁₁
  try dsimp only
  refine Hold.go (execsC_any ?_)
  try k_fold
  k_steps
  obtain ⟨R₂, N₁₂, w1, w2⟩ : ∃ R₂, News g' L' _ R₂ ∧ (lc, ({ cls := .type "list", data := .seq (Value.ref cv :: vb ++ va).toArray } : Obj)) ∈ R₂ ∧ ∀ p ∈ R, p ∈ R₂ := ⟨_, N₁₁, .head _, fun p hp => .tail _ (.tail _ (.tail _ (.tail _ (.tail _ hp))))⟩
  clear N₁₁ k5 e1
  have e1 := N₁₂ _ (w2 _ q5)
  have y1 := w2 _ q1
  have y2 := w2 _ q2
  have y3 := w2 _ q3
  have y4 := w2 _ q4
  have y5 := w2 _ q5
  have yn := fun p hp => w2 p (qn p hp)
  have yx := w2 _ qx
  have ydt := w2 _ qdt
  clear q1 q2 q3 q4 q5 qx qdt
  refine Hold.go (lenT (tup_src N₁₂ (yn _ htb) hobc hobd) (by rw [List.size_toArray, hbl']) (by omega) ?_)
  try k_fold
  k_steps
  refine Hold.go (lenT (tup_src N₁₂ (yn _ hta) hoac hoad) (by rw [List.size_toArray, hal']) (by omega) ?_)
  try k_fold
  k_steps
  refine Hold.go (lenL ⟨_, (N₁₂ _ y4).1, rfl, _, rfl⟩ (by rw [List.size_toArray, hI.length, hgl]) (by omega) ?_)
  try k_fold
  k_steps
  rename News _ _ _ _ => N₁₃
  rename Fr _ _ _ _ => F₁₃
  try dsimp only
  refine Hold.go (execsC_cons (assignC (callNameC ?_)))
  try k_fold
  k_steps
  have hcovs : CovsIn w R₂ (Value.ref cv :: vb ++ va) (gs :: back ++ ahead) := by
    refine CovsIn.append (.cons ⟨cv, dx, tg, tt, og, vt, kt, rfl, y1, y2, y3, hogc, hogd, hIt⟩ (hB.mono yn)) (hA'.mono yn)
  generalize hgss : gs :: back ++ ahead = gss at hcovs
  have hgsslen : gss.length ≤ 11 := by rw [← hgss]; simp; omega
  have hgsk : ∀ g ∈ gs, g ∈ kvs.map (·.1) := fun g hg => hperm.mem_iff.mp hg
  have hgss1 : ∀ l ∈ gss, l.length ≤ 10 ∧ ∀ g ∈ l, 0 ≤ g ∧ g < 10 ^ 6 := fun l hl => by
    rw [← hgss] at hl
    rcases List.mem_cons.mp hl with rfl | hl
    · exact ⟨by omega, fun g hg => hks g (hgsk g hg)⟩
    · exact ⟨(hbk l hl).1, fun g hg => ⟨((hbk l hl).2 g hg).1, by have := ((hbk l hl).2 g hg).2; omega⟩⟩
  have hgss2 : (∀ k ∈ kvs.map (·.1), k < 65536) → ∀ l ∈ gss, ∀ g ∈ l, g < 65536 := fun h l hl g hg => by
    rw [← hgss] at hl
    rcases List.mem_cons.mp hl with rfl | hl
    · exact h g (hgsk g hg)
    · exact ((hbk l hl).2 g hg).2
  generalize hvc : Value.ref cv :: vb ++ va = vc at *
  have hvcl : vc.length = gss.length := hcovs.length
  refine callWithC (P := fun h => (hd0.heap_1 w.params).In h) (by rfl) (keeps_K (by k_is)) (splicedC_cons (wpC_any (wpAny_eqv (if_neg Bool.false_ne_true) ?_)))
  try k_fold
  k_steps
  rename News _ _ _ _ => N₁₄
  rename Fr _ _ _ _ => F₁₄
  refine splicedC_cons (wpC_of_eq (if_neg Bool.false_ne_true) ?_)
  refine comp_listEC (H := s.heap) (ms := []) (cls := .ref 68) (¬ ∀ l ∈ gss, ∀ g ∈ l, g < 65536) F₁₄ C₁.hh C₁.B C₁.hA C₁.hf (by with_unfolding_all rfl) (by decide) (by rfl) (by decide) (by rfl) ?_
  try k_fold
  k_steps
  refine Hold.go ⟨lc, vc.toArray, R₂, fun i ys nw => nw = R₂ ∧ BytesAre ys ((gss.take i).map coverBytes) ∧ (∀ l ∈ gss.take i, ∀ g ∈ l, g < 65536), rfl, by assumption, N₁₄, by rw [sizeLine_eq, List.size_toArray]; omega, ⟨rfl, .nil, by simp⟩,
    (fun k ys nw z => by obtain ⟨rfl, _⟩ := z; exact .inr ⟨_, w1, rfl, _, rfl⟩), upto_of G₁ N (by assumption) N₁₄ (fun p hp => .inr (yn p hp)), (fun bad x' h' tk' e => ?_), (fun h nw ys i Fh Nh z => by obtain ⟨rfl, _⟩ := z; exact upto_of G₁ N Fh Nh fun p hp => .inr (yn p hp)), fun s₂ hs₂ up₂ => ⟨?_, ?_⟩⟩
  · exact body_exc2 C.hA e fun h' e => hexc (fun z => bad (hgss2 z.1)) x' h' tk' e
  · obtain ⟨g₂, rfl⟩ := hs₂
    intro i v ys nw I oI oC CC D m₂ h tk E' hE hi' hy hP hJ hoC₂ hv F₂' N₂' off hIC hID hCD
    try k_fold
    obtain ⟨rfl, hys, hall⟩ := hJ
    try k_fold
    obtain ⟨ge, hge, cve, dxe, tge, tte, oge, vse, kse, rfl, z1, z2, z3, z4, z5, z6⟩ := CovsIn.at hcovs (i := i) (by simpa using hP)
    refine callNameC ?_
    try k_fold
    k_steps
    refine callWithC (P := fun h => (hd0.heap_1 w.params).In h) (by rfl) (keeps_K (by k_is)) (splicedC_cons (wpC_any (wpAny_eqv (if_neg Bool.false_ne_true) ?_)))
    try k_fold
    k_steps
    refine splicedC_nil ⟨X₁.keeps F₂'.keep, ?_⟩
    have hl := hgss1 ge (List.mem_of_getElem? hge)
    refine write_coverage_ok C₁ F₂' N₂' (.tail _ (.tail _ (.tail _ z1))) (.tail _ (.tail _ (.tail _ z2))) (.tail _ (.tail _ (.tail _ z3))) z4 z5 z6 (by omega) hl.2 (Nat.le_trans (Nat.add_le_add_right hd 1) (by decide)) (Nat.le_trans (Nat.add_le_add_right hu 3) (by decide)) (fun hb x' h' tk' e => ?_) (fun hb t G' h' tk' F₃' N₃' => ?_)
    · exact hE (fun z => hb (z ge (List.mem_of_getElem? hge))) x' h' tk' e
    · refine ⟨h', _, nw, rfl, F₃', fun p hp => N₃' p (List.mem_append.mpr (.inr hp)), off, rfl, ?_, ?_⟩
      · rw [List.take_add_one, hge]
        simp only [Option.toList, List.map_append, List.map_cons, List.map_nil]
        exact hys.append (.cons _ _ .nil)
      · rw [List.take_add_one, hge]
        intro l hl'
        rcases List.mem_append.mp hl' with hl' | hl'
        · exact hall l hl'
        · simp at hl'; subst hl'; exact hb
  · obtain ⟨g₂, rfl⟩ := hs₂
    intro D h tk ys nw F₂' N₂' off hy hJ
    try k_fold
    obtain ⟨rfl, hys, hall⟩ := hJ
    simp only [List.size_toArray, hvcl, List.take_length] at hys hall
    refine splicedC_nil ⟨X₁.keeps F₂'.keep, ?_⟩
    have hsz := covers_size 10 gss fun l hl => (hgss1 l hl).1
    refine laid_ok C₁ F₂' N₂' (.head _) rfl rfl hys (by rw [List.length_map]; omega) (by omega) (by omega) (by omega) (Nat.le_trans (Nat.add_le_add_right hd 1) (by decide)) (Nat.le_trans (Nat.add_le_add_right hu 3) (by decide)) fun xt kx lo offs ko to G₃ h₃ tk₃ F₃' N₃' hoff => ?_
    obtain ⟨R₃, N₁₅, v1, v2⟩ : ∃ R₃, News g' L' h₃ R₃ ∧ ((lo, ({ cls := .type "list", data := .seq offs.toArray ko } : Obj)) ∈ R₃) ∧ ∀ p ∈ nw, p ∈ R₃ := ⟨_, fun p hp => N₃' p (.tail _ hp), .head _, fun p hp => .tail _ (List.mem_append.mpr (.inr (.tail _ hp)))⟩
    have hxt : IsTup _ xt _ := tup_src N₃' (.head _) rfl rfl
    refine unpackN_ F₃' N₁₅ hxt C₁.hh (by rfl) (by rfl) fun h₄' F₄' N₄' => ?_
    try k_fold
    k_steps
    try dsimp only
    have ux := v2 _ yx
    have udt := v2 _ ydt
    have u5 := v2 _ y5
    have u4 := v2 _ y4
    have un := fun p hp => v2 p (yn p hp)
    rename News _ _ _ _ => N₁₆
    have e2 := N₁₆ _ u5
    refine execsC_any ?_
    try k_fold
    k_steps
    refine Hold.go (lenT (tup_src N₁₆ (un _ htb) hobc hobd) (by rw [List.size_toArray, hbl']) (by omega) ?_)
    try k_fold
    k_steps
    try dsimp only
    refine Hold.go (execsC_cons (assignC (callNameC ?_)))
    try k_fold
    k_steps
    rename News _ _ _ _ => N₁₇
    rename Fr _ _ _ _ => F₁₇
    refine callWithC (P := fun h => (hd0.heap_1 w.params).In h) (by rfl) (keeps_K (by k_is)) (splicedC_nil ⟨X₁.keeps F₁₇.keep, ?_⟩)
    refine out_new C₁ F₁₇ N₁₇ (Nat.le_trans (Nat.add_le_add_right hd 1) (by decide)) (Nat.le_trans (Nat.add_le_add_right hu 3) (by decide)) fun xo dxo b tto h₅ tk₅ F₁₈ N₁₈ o1 o2 o3 offo => ?_
    try k_fold
    k_steps
    try dsimp only
    rename News _ _ _ _ => N₁₉
    rename Fr _ _ _ _ => F₁₉
    refine execsC_cons (exprC (methodC ?_))
    try k_fold
    k_steps
    refine callWithC (P := fun h => (hd0.heap_1 w.params).In h) (by rfl) (keeps_K (by k_is)) (wpC_any ?_)
    try k_fold
    k_steps
    have hbs := laid_sizes (10 + 2 * ((back.length : Int) + ahead.length + kvs.length)) (gss.map coverBytes)
    have hofs := laid_offs (10 + 2 * ((back.length : Int) + ahead.length + kvs.length)) (gss.map coverBytes) (by omega)
    generalize hst : laidS (10 + 2 * ((back.length : Int) + ahead.length + kvs.length)) (gss.map coverBytes) = st at *
    obtain ⟨o0, or, t0, offr, hs1, rfl⟩ : ∃ o0 or t0 offr, st.1 = o0 :: or ∧ offs = Value.int o0 t0 :: offr := ints_uncons hoff (fun h => by have := hbs.1; rw [h, List.length_map, ← hgss] at this; simp at this)
    refine Hold.go (item0 ⟨_, (N₁₉ _ (.tail _ (.tail _ (.tail _ v1)))).1, rfl, _, rfl⟩ ?_)
    try k_fold
    k_steps
    rename News _ _ _ _ => N₂₀
    rename Fr _ _ _ _ => F₂₀
    rename _ < _ ∧ _ < _ ∧ _ => l20
    have hst1 : ∀ o ∈ st.1, 0 ≤ o ∧ o < 65536 := fun o ho => by
      have := hofs o ho
      omega
    have ho0 := hst1 o0 (hs1 ▸ .head _)
    refine rows_ok (vs := [_, _]) (ns := [1, o0]) C₁ F₂₀ (news_swap N₂₀) (.tail _ (.head _)) (.tail _ (.tail _ (.head _))) (off_cons (Ne.symm (Nat.ne_of_lt l20.1)) (off_cons (Ne.symm o2) (off_cons (Ne.symm o1) fun p hp => (offo p hp).2.2))) (.head _) (.cons 1 _ (.cons o0 _ .nil)) (fun n hn => ?_) (by simp) (Nat.le_trans (Nat.add_le_add_right hd 1) (by decide)) (Nat.le_trans (Nat.add_le_add_right hu 3) (by decide)) (by simp) (fun hb => absurd ?_ hb) (fun _ h₆ tk₆ F₂₁ N₂₁ => ?_)
    · rcases List.mem_cons.mp hn with rfl | hn
      · decide
      · rw [List.mem_singleton.mp hn]; omega
    · intro n hn
      rcases List.mem_cons.mp hn with rfl | hn
      · decide
      · rw [List.mem_singleton.mp hn]; exact ho0.2
    · dsimp only
      obtain ⟨R₄, N₂₂, nb₄, c1, c2, c3⟩ : ∃ R₄, News g' L' h₆ ((b, BA.ba (two 1 ++ two o0).toArray) :: R₄) ∧ (∀ p ∈ R₄, p.1 ≠ b) ∧ (xo, instObj 160 dxo) ∈ R₄ ∧ (dxo, outD w b tto) ∈ R₄ ∧ ∀ p ∈ R₃, p ∈ R₄ :=
        ⟨_, by simpa using N₂₁, (off_cons (Ne.symm (Nat.ne_of_lt l20.1)) (off_cons (Ne.symm o2) (off_cons (Ne.symm o1) fun p hp => (offo p hp).2.2))), .tail _ (.head _), .tail _ (.tail _ (.head _)), fun p hp => .tail _ (.tail _ (.tail _ hp))⟩
      clear N₂₁ N₂₀
      have r1 := c3 _ v1
      have rx := c3 _ ux
      have rdt := c3 _ udt
      have r5 := c3 _ u5
      have r4 := c3 _ u4
      have rn := fun p hp => c3 p (un p hp)
      have e3 := N₂₂ _ (.tail _ r5)
      refine execsC_cons (exprC (callNameC ?_))
      try k_fold
      k_steps
      refine callWithC (P := fun h => (hd0.heap_1 w.params).In h) (by rfl) (keeps_K (by k_is)) (splicedC_cons (wpC_any (wpAny_eqv (if_neg Bool.false_ne_true) ?_)))
      try k_fold
      k_steps
      refine splicedC_cons (wpC_any (wpAny_eqv (if_neg Bool.false_ne_true) ?_))
      try k_fold
      k_steps
      rename News _ _ _ _ => N₂₃
      rename Fr _ _ _ _ => F₂₃
      rename IntsAre _ (List.take _ _) => hI1
      rename b < _ ∧ _ => l23
      have hbl2 : st.1.length = gss.length := by rw [hbs.1, List.length_map]
      have hgsl3 : gss.length = 1 + back.length + ahead.length := by rw [← hgss]; simp; omega
      have e4 : List.take (min (1 + (back.length : Int)).toNat st.1.length - 1) (List.drop 1 st.1) = List.take back.length (List.drop 1 st.1) := by
        congr 1; exact ar_min (hbl2.trans hgsl3)
      rw [e4] at hI1
      have hlo1 : ∀ n ∈ List.take back.length (List.drop 1 st.1), 0 ≤ n ∧ n < 65536 := fun n hn => hst1 n (List.mem_of_mem_drop (List.mem_of_mem_take hn))
      have hln1 : (List.take back.length (List.drop 1 st.1)).length = back.length := by rw [List.length_take, List.length_drop]; exact ar_min2 (hbl2.trans hgsl3)
      refine splicedC_nil ⟨X₁.keeps F₂₃.keep, ?_⟩
      refine put_counted_ok C₁ F₂₃ (news_swap N₂₃) (.tail _ c1) (.tail _ c2) (off_cons (Ne.symm (Nat.ne_of_lt l23.1)) nb₄) (.head _) hI1 (fun n hn => ⟨(hlo1 n hn).1, by have := (hlo1 n hn).2; omega⟩) (by omega) (Nat.le_trans (Nat.add_le_add_right hd 1) (by decide)) (Nat.le_trans (Nat.add_le_add_right hu 3) (by decide)) (by rw [hln1]; simp [two]; omega) (fun hb => absurd (fun n hn => (hlo1 n hn).2) hb) (fun _ h₇ tk₇ F₂₄ N₂₄ => ?_)
      rw [hln1] at N₂₄
      generalize hps1 : List.take back.length (List.drop 1 st.1) = ps1 at *
      try dsimp only
      obtain ⟨R₅, arr₅, N₂₅, nb₅, d3, harr₅⟩ : ∃ R₅ arr₅, News g' L' h₇ ((b, BA.ba arr₅) :: R₅) ∧ (∀ p ∈ R₅, p.1 ≠ b) ∧ (∀ p ∈ R₄, p ∈ R₅) ∧ arr₅ = (two 1 ++ two o0).toArray ++ (two back.length ++ (ps1.map two).flatten).toArray := ⟨_, _, N₂₄, off_cons (Ne.symm (Nat.ne_of_lt l23.1)) nb₄, fun p hp => .tail _ hp, rfl⟩
      have hz5 : arr₅.size = 6 + 2 * ps1.length := by rw [harr₅]; simp only [Array.size_append, List.size_toArray, List.length_append, flat_two]; simp [two]; omega
      clear N₂₄ N₂₃ e3 e4
      have e5 := N₂₅ _ (.tail _ (d3 _ r5))
      refine execsC_cons (exprC (callNameC ?_))
      try k_fold
      k_steps
      refine callWithC (P := fun h => (hd0.heap_1 w.params).In h) (by rfl) (keeps_K (by k_is)) (splicedC_cons (wpC_any (wpAny_eqv (if_neg Bool.false_ne_true) ?_)))
      try k_fold
      k_steps
      refine splicedC_cons (wpC_any (wpAny_eqv (if_neg Bool.false_ne_true) ?_))
      try k_fold
      k_steps
      have hl5 : h₇.IsList lo (Value.int o0 t0 :: offr).toArray := ⟨_, (N₂₅ _ (.tail _ (d3 _ r1))).1, rfl, _, rfl⟩
      refine Hold.go (kmk_slice_ints (vl := .int _ _) (vu := .none) (by assumption) N₂₅ hl5 (.int _ _) .none hoff (kmk_from hoff (by omega)) rfl (fun D₂ ws₂ h₈ F₂₅ N₂₆ l26 hI2 _ _ => ?_) (by with_unfolding_all rfl) (by intro _; rfl) (by rw [sizeLine_eq, List.size_toArray, hoff.length]; omega))
      have e6 : (1 + (back.length : Int)).toNat = 1 + back.length := ar_nat _
      rw [e6] at hI2
      have hlo2 : ∀ n ∈ List.drop (1 + back.length) st.1, 0 ≤ n ∧ n < 65536 := fun n hn => hst1 n (List.mem_of_mem_drop hn)
      have hln2 : (List.drop (1 + back.length) st.1).length = ahead.length := by rw [List.length_drop]; exact ar_drop (hbl2.trans hgsl3)
      have nb₆ : ∀ p ∈ (D₂, W.listOf ws₂.toArray 0) :: R₅, p.1 ≠ b := off_cons (Ne.symm (Nat.ne_of_lt (l26 _ (.head _)))) nb₅
      refine splicedC_nil ⟨X₁.keeps F₂₅.keep, ?_⟩
      refine put_counted_ok C₁ F₂₅ (news_swap N₂₆) (.tail _ (d3 _ c1)) (.tail _ (d3 _ c2)) nb₆ (.head _) hI2 (fun n hn => ⟨(hlo2 n hn).1, by have := (hlo2 n hn).2; omega⟩) (by omega) (Nat.le_trans (Nat.add_le_add_right hd 1) (by decide)) (Nat.le_trans (Nat.add_le_add_right hu 3) (by decide)) (by rw [hln2]; omega) (fun hb => absurd (fun n hn => (hlo2 n hn).2) hb) (fun _ h₉ tk₉ F₂₆ N₂₇ => ?_)
      rw [hln2] at N₂₇
      generalize hps2 : List.drop (1 + back.length) st.1 = ps2 at *
      try dsimp only
      obtain ⟨R₆, arr₆, N₂₈, nb₆, d4, harr₆⟩ : ∃ R₆ arr₆, News g' L' h₉ ((b, BA.ba arr₆) :: R₆) ∧ (∀ p ∈ R₆, p.1 ≠ b) ∧ (∀ p ∈ R₅, p ∈ R₆) ∧ arr₆ = arr₅ ++ (two ahead.length ++ (ps2.map two).flatten).toArray := ⟨_, _, N₂₇, nb₆, fun p hp => .tail _ hp, rfl⟩
      have hz6 : arr₆.size = 8 + 2 * ps1.length + 2 * ps2.length := by rw [harr₆]; simp only [Array.size_append, List.size_toArray, List.length_append, flat_two]; simp [two]; omega
      clear N₂₇ N₂₆ e6 e5
      have e7 := N₂₈ _ (.tail _ (d4 _ (d3 _ r5)))
      refine execsC_cons (exprC (callNameC ?_))
      try k_fold
      k_steps
      refine callWithC (P := fun h => (hd0.heap_1 w.params).In h) (by rfl) (keeps_K (by k_is)) (splicedC_cons (wpC_any (wpAny_eqv (if_neg Bool.false_ne_true) ?_)))
      try k_fold
      k_steps
      refine splicedC_cons (wpC_any (wpAny_eqv (if_neg Bool.false_ne_true) ?_))
      rename Fr _ _ _ _ => F₂₇
      refine comp_list F₂₇ C₁.hh (by with_unfolding_all rfl) (by decide) (by rfl) (by decide) (by rfl) ?_
      try k_fold
      k_steps
      refine Hold.go ⟨lg, vg.toArray, _, fun i ys nw => nw = (b, BA.ba arr₆) :: R₆ ∧ IntsAre ys ((gs.take i).map (valI kvs)), rfl, by assumption, N₂₈, by rw [sizeLine_eq, List.size_toArray, hI.length]; omega, ⟨rfl, .nil⟩,
        (fun k ys nw z => by obtain ⟨rfl, _⟩ := z; exact .inr ⟨_, .tail _ (d4 _ (d3 _ r4)), rfl, _, rfl⟩), fun s₂ hs₂ up₂ => ⟨?_, ?_⟩⟩
      · obtain ⟨g₂, rfl⟩ := hs₂
        intro i v ys nw I oI CC oC D m₂ h tk E' hi' hy hP hJ hoC₂ hv F₂₈ N₂₉ off hIC hID hCD
        try k_fold
        obtain ⟨rfl, hys⟩ := hJ
        try k_fold
        obtain ⟨gl, tg, rfl, hg⟩ := IntsAre.at hI i v (by simpa using hP)
        have z1 : (x, instObj 260 dt) ∈ (I, oI) :: (CC, oC) :: (D, PyProof.Rows.LCg.lst ys) :: (b, BA.ba arr₆) :: R₆ := .tail _ (.tail _ (.tail _ (.tail _ (d4 _ (d3 _ rx)))))
        have z2 : (dt, revD w dm tb ta t1 t2 t3) ∈ (I, oI) :: (CC, oC) :: (D, PyProof.Rows.LCg.lst ys) :: (b, BA.ba arr₆) :: R₆ := .tail _ (.tail _ (.tail _ (.tail _ (d4 _ (d3 _ rdt)))))
        have z3 : (L' + 1, oc) ∈ (I, oI) :: (CC, oC) :: (D, PyProof.Rows.LCg.lst ys) :: (b, BA.ba arr₆) :: R₆ := .tail _ (.tail _ (.tail _ (.tail _ (d4 _ (d3 _ r5)))))
        have e8 := N₂₉ _ z3
        try k_fold
        k_steps
        have hgk : gl ∈ kvs.map (·.1) := hgsk gl (List.mem_of_getElem? hg)
        try k_fold
        obtain ⟨ng, ug, hvg, _⟩ := hvs gl hgk
        have hvi : valI kvs gl = ng := by unfold valI; rw [hvg]
        refine Hold.go (dict_itemR (knd := PySem.intKind PySem.Challenge.rw_pb0182_01.row.prog w) (k := gl) N₂₉ (.tail _ (.tail _ (.tail _ (.tail _ (d4 _ (d3 _ (rn _ hdm))))))) hom (by show Value.isInt gl (Value.int gl tg) = true; simp [Value.isInt]) hvg ?_)
        refine ⟨h, _, _, rfl, F₂₈, N₂₉, off, rfl, ?_⟩
        rw [List.take_add_one, hg]
        simp only [Option.toList, List.map_append, List.map_cons, List.map_nil, hvi]
        exact hys.append (.cons _ _ .nil)
      · obtain ⟨g₂, rfl⟩ := hs₂
        intro D h tk ys nw F₂₈ N₂₉ off hy hJ
        try k_fold
        obtain ⟨rfl, hys⟩ := hJ
        simp only [List.size_toArray, hI.length, List.take_length] at hys
        have hvv : ∀ n ∈ gs.map (valI kvs), 0 ≤ n ∧ n < 10 ^ 9 := fun n hn => by
          try k_fold
          obtain ⟨gl, hg, rfl⟩ := List.mem_map.mp hn
          try k_fold
          obtain ⟨ng, ug, hvg, hb⟩ := hvs gl (hgsk gl hg)
          have hvi : valI kvs gl = ng := by unfold valI; rw [hvg]
          rw [hvi]; exact hb
        have nb₇ : ∀ p ∈ (D, PyProof.Rows.LCg.lst ys) :: R₆, p.1 ≠ b := off_cons (Ne.symm (off (b, BA.ba arr₆) (.head _))) nb₆
        have N₃₀ := news_swap N₂₉
        refine splicedC_nil ⟨X₁.keeps F₂₈.keep, ?_⟩
        refine put_counted_ok (ns := gs.map (valI kvs)) (vs := ys) C₁ F₂₈ N₃₀ (.tail _ (d4 _ (d3 _ c1))) (.tail _ (d4 _ (d3 _ c2))) nb₇ (.head _) hys hvv (by rw [List.length_map]; omega) (Nat.le_trans (Nat.add_le_add_right hd 1) (by decide)) (Nat.le_trans (Nat.add_le_add_right hu 3) (by decide)) (by rw [List.length_map]; omega) (fun hb x' h' tk' e => ?_) (fun hb h₁₀ tk₁₀ F₂₉ N₃₁ => ?_)
        · refine body_exc2 C.hA (e.weaken (ms' := []) (upto_of G₁ N F₂₈ N₃₀ fun p hp => .inr (.tail _ (.tail _ (d4 _ (d3 _ (rn p hp)))))) (fun b' hb' => ?_)) fun h' e => hexc (fun z => hb fun n hn => ?_) x' h' tk' e
          · rw [List.mem_singleton.mp hb']
            refine .inr ?_
            cases q : s.heap.get? b with
            | none => rfl
            | some ob =>
              exfalso
              by_cases hm : b ∈ news.map (·.1)
              · try k_fold
                obtain ⟨p, hp, rfl⟩ := List.mem_map.mp hm
                exact nb₄ p (rn p hp) rfl
              · have z1 := G₁ b ob q hm
                have z2 := (N₂₈ _ (.head _)).2.2
                rw [z1] at z2; cases z2
          · try k_fold
            obtain ⟨gl, hg, rfl⟩ := List.mem_map.mp hn
            exact z.2 gl (hgsk gl hg)
        · dsimp only
          have hbz : (two (gs.map (valI kvs)).length ++ ((gs.map (valI kvs)).map two).flatten).toArray.size = 2 + 2 * gs.length := by
            rw [List.size_toArray, List.length_append, flat_two, List.length_map]; simp [two]
          have hz22 : st.2.2.toArray.size ≤ 1000 := by rw [List.size_toArray]; omega
          obtain ⟨R₇, arr₇, N₃₂, nb₈, d5, harr₇⟩ : ∃ R₇ arr₇, News g' L' h₁₀ ((b, BA.ba arr₇) :: R₇) ∧ (∀ p ∈ R₇, p.1 ≠ b) ∧ (∀ p ∈ R₆, p ∈ R₇) ∧ arr₇ = arr₆ ++ (two (gs.map (valI kvs)).length ++ ((gs.map (valI kvs)).map two).flatten).toArray := ⟨_, _, N₃₁, nb₇, fun p hp => .tail _ hp, rfl⟩
          have hz7 : arr₇.size = 10 + 2 * ps1.length + 2 * ps2.length + 2 * gs.length := by rw [harr₇, Array.size_append, hbz]; omega
          clear N₃₁ N₃₀ N₂₉
          have f1 := d5 _ (d4 _ (d3 _ c1))
          have f2 := d5 _ (d4 _ (d3 _ c2))
          refine execsC_cons (exprC (methodC ?_))
          try k_fold
          k_steps
          refine callWithC (P := fun h => (hd0.heap_1 w.params).In h) (by rfl) (keeps_K (by k_is)) (wpC_any ?_)
          try k_fold
          k_steps
          refine add_ok C₁ (by assumption) N₃₂ f1 f2 nb₈ (Nat.le_trans (Nat.add_le_add_right hd 1) (by decide)) (Nat.le_trans (Nat.add_le_add_right hu 3) (by decide)) (by omega) fun h₁₁ tk₁₁ F₃₀ N₃₃ => ?_
          try dsimp only
          refine execsC_any ?_
          try k_fold
          k_steps
          refine Hold.go (octets_ok C₁ (by assumption) N₃₃ f1 f2 (Nat.le_trans (Nat.add_le_add_right hd 1) (by decide)) (Nat.le_trans (Nat.add_le_add_right hu 3) (by decide)) (by rw [Array.size_append]; omega) fun t h' tk' F₃₁ N₃₄ => ?_)
          try k_fold
          k_steps
          refine ⟨_, _, news, F₃₁, (fun q hq => N₃₄ q (.tail _ (d5 _ (d4 _ (d3 _ (rn q hq)))))), fun Ff Nf => ?_⟩
          have hk1 : ∀ k ∈ gs, k < 65536 := hall gs (by rw [← hgss]; exact .head _)
          have e : arr₇ ++ st.2.2.toArray = (revBytes gs (gs.map (valI kvs)) back ahead).toArray := by
            rw [harr₇, harr₆, harr₅]
            unfold revBytes
            rw [hgl, hgss, hst]
            try dsimp only
            rw [show st.1.headD 0 = o0 by rw [hs1]; rfl, hps1, hps2, List.length_map, hgl]
            simp [List.append_assoc]
          rw [e]
          exact hret gs hperm hstrict hk1 (fun k hk => hb _ (List.mem_map_of_mem hk)) t _ _ Ff Nf
theorem core : P_write_reverse_ok w p loose mean mg mb A A₀ env outer base h₀ L m news s Q E x dt dm tb ta t1 t2 t3 om ob oa vb va kb ka kvs back ahead := by
  unfold P_write_reverse_ok
  intro C F N hx hdt hdm hom lom htb hobc hobd hB hta hoac hoad hA' hkl hbl hal hks hbk hvs hd hu hexc hret
  exact body.2 C F N hx hdt hdm hom lom htb hobc hobd hB hta hoac hoad hA' hkl hbl hal hks hbk hvs hd hu hexc hret fun g' L' h₁ tk₁ => eps_all (P := PB) (by with_unfolding_all exact inner) (g', L', h₁, tk₁) C F N hx hdt hdm hom lom htb hobc hobd hB hta hoac hoad hA' hkl hbl hal hks hbk hvs hd hu hexc hret
end K_write_reverse_ok
theorem write_reverse_ok {w : World} {p : Program} {loose : List Str} {mean : ExcName → Option Value} {mg : Str → Option Value} {mb : Str → Option Value} {A : Around} {A₀ : Around} {env : Env} {outer : List Env} {base : Heap} {h₀ : Heap} {L : Addr} {m : Str → Option Value} {news : List (Addr × Obj)} {s : Shared} {Q : Value → Shared → Prop} {E : Value → Shared → Prop} {x dt dm tb ta : Addr} {t1 t2 t3 : Tok} {om ob oa : Obj} {vb va : List Value} {kb ka : Nat} {kvs : List (Int × Value)} {back ahead : List (List Int)} (C : Cx w p loose mean mg mb A A₀ env outer base h₀ L) (F : Fr h₀ L s.heap m) (N : News h₀ L s.heap news) (hx : (x, instObj 260 dt) ∈ news) (hdt : (dt, revD w dm tb ta t1 t2 t3) ∈ news) (hdm : (dm, om) ∈ news) (hom : om.IsDictOf (PySem.intKind PySem.Challenge.rw_pb0182_01.row.prog w) kvs) (lom : (dm == sysModules) = false) (htb : (tb, ob) ∈ news) (hobc : ob.cls = .type "tuple") (hobd : ob.data = .seq vb.toArray kb) (hB : CovsIn w news vb back) (hta : (ta, oa) ∈ news) (hoac : oa.cls = .type "tuple") (hoad : oa.data = .seq va.toArray ka) (hA' : CovsIn w news va ahead) (hkl : kvs.length ≤ 10) (hbl : back.length ≤ 5) (hal : ahead.length ≤ 5) (hks : ∀ k ∈ kvs.map (·.1), 0 ≤ k ∧ k < 10 ^ 6) (hbk : ∀ l ∈ back ++ ahead, l.length ≤ 10 ∧ ∀ g ∈ l, 0 ≤ g ∧ g < 65536) (hvs : ∀ k ∈ kvs.map (·.1), ∃ n t, valueAt kvs k = some (.int n t) ∧ 0 ≤ n ∧ n < 10 ^ 9) (hd : A.depth ≤ 840) (hu : A.units ≤ 4400) (hexc : (¬ ((∀ k ∈ kvs.map (·.1), k < 65536) ∧ ∀ k ∈ kvs.map (·.1), valI kvs k < 65536)) → ∀ x h' tk', Exc s.heap [] base (env :: outer) x (.ref 68) h' → E (.ref x) { s with heap := h', toks := tk' }) (hret : ∀ gs : List Int, gs.Perm (kvs.map (·.1)) → gs.Pairwise (· < ·) → (∀ k ∈ gs, k < 65536) → (∀ k ∈ gs, valI kvs k < 65536) → ∀ t h' tk', Fr h₀ L h' m → News h₀ L h' news → Q (.bytes (revBytes gs (gs.map (valI kvs)) back ahead).toArray t) { s with heap := h', toks := tk' }) :
    wpC (model PySem.Challenge.rw_pb0182_01.row.prog w) A (call (.ref 269) [.ref x]) Q E s :=
  eps_all (P := fun v => P_write_reverse_ok v.1 v.2.1 v.2.2.1 v.2.2.2.1 v.2.2.2.2.1 v.2.2.2.2.2.1 v.2.2.2.2.2.2.1 v.2.2.2.2.2.2.2.1 v.2.2.2.2.2.2.2.2.1 v.2.2.2.2.2.2.2.2.2.1 v.2.2.2.2.2.2.2.2.2.2.1 v.2.2.2.2.2.2.2.2.2.2.2.1 v.2.2.2.2.2.2.2.2.2.2.2.2.1 v.2.2.2.2.2.2.2.2.2.2.2.2.2.1 v.2.2.2.2.2.2.2.2.2.2.2.2.2.2.1 v.2.2.2.2.2.2.2.2.2.2.2.2.2.2.2.1 v.2.2.2.2.2.2.2.2.2.2.2.2.2.2.2.2.1 v.2.2.2.2.2.2.2.2.2.2.2.2.2.2.2.2.2.1 v.2.2.2.2.2.2.2.2.2.2.2.2.2.2.2.2.2.2.1 v.2.2.2.2.2.2.2.2.2.2.2.2.2.2.2.2.2.2.2.1 v.2.2.2.2.2.2.2.2.2.2.2.2.2.2.2.2.2.2.2.2.1 v.2.2.2.2.2.2.2.2.2.2.2.2.2.2.2.2.2.2.2.2.2.1 v.2.2.2.2.2.2.2.2.2.2.2.2.2.2.2.2.2.2.2.2.2.2.1 v.2.2.2.2.2.2.2.2.2.2.2.2.2.2.2.2.2.2.2.2.2.2.2.1 v.2.2.2.2.2.2.2.2.2.2.2.2.2.2.2.2.2.2.2.2.2.2.2.2.1 v.2.2.2.2.2.2.2.2.2.2.2.2.2.2.2.2.2.2.2.2.2.2.2.2.2.1 v.2.2.2.2.2.2.2.2.2.2.2.2.2.2.2.2.2.2.2.2.2.2.2.2.2.2.1 v.2.2.2.2.2.2.2.2.2.2.2.2.2.2.2.2.2.2.2.2.2.2.2.2.2.2.2.1 v.2.2.2.2.2.2.2.2.2.2.2.2.2.2.2.2.2.2.2.2.2.2.2.2.2.2.2.2.1 v.2.2.2.2.2.2.2.2.2.2.2.2.2.2.2.2.2.2.2.2.2.2.2.2.2.2.2.2.2.1 v.2.2.2.2.2.2.2.2.2.2.2.2.2.2.2.2.2.2.2.2.2.2.2.2.2.2.2.2.2.2.1 v.2.2.2.2.2.2.2.2.2.2.2.2.2.2.2.2.2.2.2.2.2.2.2.2.2.2.2.2.2.2.2.1 v.2.2.2.2.2.2.2.2.2.2.2.2.2.2.2.2.2.2.2.2.2.2.2.2.2.2.2.2.2.2.2.2.1 v.2.2.2.2.2.2.2.2.2.2.2.2.2.2.2.2.2.2.2.2.2.2.2.2.2.2.2.2.2.2.2.2.2.1 v.2.2.2.2.2.2.2.2.2.2.2.2.2.2.2.2.2.2.2.2.2.2.2.2.2.2.2.2.2.2.2.2.2.2.1 v.2.2.2.2.2.2.2.2.2.2.2.2.2.2.2.2.2.2.2.2.2.2.2.2.2.2.2.2.2.2.2.2.2.2.2) (by with_unfolding_all exact K_write_reverse_ok.core) (w, p, loose, mean, mg, mb, A, A₀, env, outer, base, h₀, L, m, news, s, Q, E, x, dt, dm, tb, ta, t1, t2, t3, om, ob, oa, vb, va, kb, ka, kvs, back, ahead) C F N hx hdt hdm hom lom htb hobc hobd hB hta hoac hoad hA' hkl hbl hal hks hbk hvs hd hu hexc hret
end
end Mine
end TextP3
section TextG1
open PySem PySem.W PyProof.Rows PySem.Calls PySem.Spec
set_option Elab.async false
set_option maxRecDepth 100000
set_option maxHeartbeats 1000000
namespace Mine
theorem fillG1 {w : World} {A : Around} {Q : Value → Shared → Prop} {E : Value → Shared → Prop} {s : Shared} (h : (hd0.heap_1 w.params).In s.heap → wpAny (model PySem.Challenge.rw_pb0182_01.row.prog w) A (call .none []) Q E s) :
    (hd0.heap_1 w.params).In s.heap → wpAny (model PySem.Challenge.rw_pb0182_01.row.prog w) A (call .none []) Q E s := by
  k_fill
  w_top off
  intro hX
  try walk1
  exact h hX
section
variable {w : World} {p : Program} {loose : List Str} {mean : ExcName → Option Value} {mg mb : Str → Option Value} {A A₀ : Around} {env : Env} {outer : List Env} {base h₀ : Heap} {L : Addr} {m : Str → Option Value} {news rest : List (Addr × Obj)} {s : Shared}
  {Q E : Value → Shared → Prop}
theorem base_up {g : Heap} (F : Fr h₀ L s.heap m) (N : News h₀ L s.heap news) (G : GSub s.heap g (news.map (·.1))) : ∀ b o, h₀.get? b = some o → g.get? b = some o := fun b o e => G b o (F.keep b o e) fun hb => by
  try k_fold
  obtain ⟨q, hq, rfl⟩ := List.mem_map.mp hb
  have := (N q hq).2.2
  rw [e] at this; cases this

theorem news_pull2 {h : Heap} {a b x : Addr × Obj} {l : List (Addr × Obj)} (N : News h₀ L h (a :: b :: x :: l)) : News h₀ L h (x :: a :: b :: l) := fun q hq => N q (by
  revert q; refine fa_cons ?_ fun q hq => ?_
  · exact .tail _ (.tail _ (.head _))
  · revert q; refine fa_cons ?_ fun q hq => ?_
    · exact .head _
    · revert q; refine fa_cons ?_ fun q hq => ?_
      · exact .tail _ (.head _)
      · exact .tail _ (.tail _ (.tail _ hq)))
theorem allLt_ne {a : Addr} {l : List (Addr × Obj)} (h : AllLt a l) : ∀ q ∈ l, q.1 ≠ a := by
  induction l with
  | nil => intro q hq; cases hq
  | cons b r ih =>
    intro q hq
    revert q; refine fa_cons ?_ fun q hq => ?_
    · exact Nat.ne_of_lt h.1
    · exact ih h.2 q hq
theorem allLt_lt {a : Addr} {l : List (Addr × Obj)} (h : AllLt a l) : ∀ q ∈ l, q.1 < a := by
  induction l with
  | nil => intro q hq; cases hq
  | cons b r ih =>
    intro q hq
    revert q; refine fa_cons ?_ fun q hq => ?_
    · exact h.1
    · exact ih h.2 q hq
theorem len1L {prog : Program} {x : Addr} {its : Array Value} {n : Nat} (ht : s.heap.IsList x its) (hn : its.size = n) (hz : n ≤ 1000) (h : Q (.int n (s.toks + 1)) { s with toks := s.toks + 1 + 1 }) : wpAny (model prog w) A (call (.builtin "len") [.ref x]) Q E s := by
  subst hn
  exact PyProof.Rows.len_list ht (by omega) h
theorem itemAt {prog : Program} {value slice : Expr} {l : Addr} {items : List Value} {x : Value} {k : Int} {u : Tok} (hl : s.heap.IsList l items.toArray) (h0 : 0 ≤ k) (hhi : k < 2 ^ 63) (hx : items[k.toNat]? = some x) (h : Q x s)
    (hs : subscripted slice false (.ref l) (.int k u) = operate [.ref l, .int k u] (getItem (.ref l) (.int k u)) := by with_unfolding_all rfl) :
    wpAny (model prog w) A (subscriptTail value slice (.ref l) (.int k u)) Q E s :=
  subscriptTail_builtinR hl.typeIs slot_list_getitem.lookup (wpAny_getItem_list (Q := fun r s' => r = x ∧ Q r s') hl h0 hhi (by simpa using hx) ⟨rfl, h⟩) hs
theorem pow_log (n : Nat) (hn : n < 400) : ((720720 : Int) ^ n).natAbs.log2 < 9000 := by
  rw [Int.natAbs_pow]
  refine (Nat.log2_lt (Nat.ne_of_gt (Nat.pow_pos (by decide)))).mpr ?_
  refine Nat.lt_of_le_of_lt (Nat.pow_le_pow_left (show (720720 : Int).natAbs ≤ 2 ^ 20 by decide) n) ?_
  rw [← Nat.pow_mul]
  exact Nat.pow_lt_pow_right (by decide) (by omega)
noncomputable def Mark2 : Prop := True
theorem news_skip1 {h : Heap} {a : Addr × Obj} {l : List (Addr × Obj)} (N : News h₀ L h (a :: l)) : News h₀ L h l := fun q hq => N q (.tail _ hq)
theorem news_skip2 {h : Heap} {a b c : Addr × Obj} {l : List (Addr × Obj)} (N : News h₀ L h (a :: b :: c :: l)) : News h₀ L h (a :: l) := fun q hq => N q (by
  revert q; refine fa_cons ?_ fun q hq => ?_
  · exact .head _
  · exact .tail _ (.tail _ (.tail _ hq)))
theorem enter_nest {R : Result → Shared → Prop} {prog : Program} {name qual : Str} {params : Arguments} {body : List Stmt} {scope : Scope} {cl : List (Str × Addr)} {doc pm ctv : Value} {c' f : Addr} {args : Args} {binds : List (Str × Value)}
    (C : Cx w p loose mean mg mb A A₀ env outer base h₀ L) (F : Fr h₀ L s.heap m) (N : News h₀ L s.heap news)
    (ho : (f, fnMade name qual params body scope cl doc pm c' ctv) ∈ news) (hcd : s.heap.CodeRec (.ref c') qual) (hroom : A.depth < recursionLimit)
    (hbind : BindsTo s (fnX name qual params body scope cl .none .none doc pm none (.ref c') ctv) args binds) (hloc : ∀ y ∈ binds, scope.names.lookup y.1 = some .local)
    (h : ∀ g L' h₁, Cx w p loose mean mg mb (A.deeper (envX qual scope L' f (.ref c') cl)) A (envX qual scope L' f (.ref c') cl) (env :: outer) base g L' → Fr g L' h₁ (fun y => binds.reverse.lookup y) → News g L' h₁ news → GSub s.heap g (news.map (·.1)) → (∀ p ∈ news, p.1 < L') →
      wpAny (model prog w) (A.deeper (envX qual scope L' f (.ref c') cl)) (execs body (envX qual scope L' f (.ref c') cl))
        (fun fl s' => LeaveK h₀ L m g R (match fl with | .ret v => v | _ => .none) s')
        (fun e s' => wpAny (model prog w) (A.deeper (envX qual scope L' f (.ref c') cl)) (leaving (envX qual scope L' f (.ref c') cl) e) (fun _ s'' => R (.error e) s'') (fun e' s'' => R (.error e') s'') s')
        { s with heap := h₁, toks := s.toks + binds.length })
    (hco : scope.isCoroutine = false) (hgen : scope.isGenerator = false) (hk : scope.kind = .function)
    (hcell : ∀ x ∈ scope.names, x.2 ≠ .cell) : codeAny (model prog w) A (.call (.ref f) args) R s := by
  try k_fold
  obtain ⟨B, X₀, T, b0, hA, hf, hke, hh, hG⟩ := C
  try k_fold
  obtain ⟨FG, BG, st, lv⟩ := groundX (R := R) B F N hA hf hke
  refine codeAny_call_def (fd := fnX name qual params body scope cl .none .none doc pm none (.ref c') ctv) (body := body) (binds := binds) hroom (N _ ho).1 rfl (T.nolimit.keeps F.keep) hcd rfl hbind hcell hloc (fun h₁ hns hk₁ => ?_) hco hgen hk
  exact wpAny_mono (h _ s.heap.objs.size h₁ ⟨BG, X₀.keeps st, T.keeps st, st _ _ b0, Around.frames_deeper hA, rfl, hk, hh, guards_deeper hG⟩ ⟨hns, fun b o e => hk₁ b o (of_hideAll _ e), Nat.le_of_eq (hideAll_size _ _)⟩
    (fun p hp => ⟨hk₁ _ _ (N p hp).1, Nat.ne_of_lt (Heap.lt_size (N p hp).1), hideAll_none _ (List.mem_map_of_mem hp)⟩) (fun b o e n => hideAll_get _ e n) (fun p hp => Heap.lt_size (N p hp).1)) (fun fl s' hl => lv _ _ hl) fun _ _ y => y
/-- a function object of the ledger's -/
noncomputable def IsFn (f : Addr) (T : List (Addr × Obj)) : Prop := ∃ oc od fd sl, (f, (⟨oc, od, .func fd, sl⟩ : Obj)) ∈ T
/-- the taker: any int below the limit, and the place goes on by one -/
noncomputable def TakeOK (w : World) (p : Program) (loose : List Str) (mean : ExcName → Option Value) (mg mb : Str → Option Value) (f lp : Addr) (T : List (Addr × Obj)) : Prop :=
  ∀ (A A₀ : Around) (env : Env) (outer : List Env) (base h₀ : Heap) (L : Addr) (m : Str → Option Value) (s : Shared) (rest : List (Addr × Obj)) (Q E : Value → Shared → Prop) (k lim : Int) (n : Nat) (t tk : Tok),
    Cx w p loose mean mg mb A A₀ env outer base h₀ L → Fr h₀ L s.heap m → News h₀ L s.heap ((lp, W.listOf #[.int k t] n) :: rest) → CodeHd h₀ 275 271 → (∀ q ∈ T, q ∈ rest) → (∀ q ∈ rest, q.1 ≠ lp) →
    0 ≤ k → k < 200 → 0 < lim → lim ≤ 100000 → A.depth ≤ 880 → A.units ≤ 4800 →
    (∀ v t' t'' n' h' tk', 0 ≤ v → v < lim → Fr h₀ L h' m → News h₀ L h' ((lp, W.listOf #[.int (k + 1) t'] n') :: rest) → Q (.int v t'') { s with heap := h', toks := tk' }) →
    wpAny (model PySem.Challenge.rw_pb0182_01.row.prog w) A (call (.ref f) [.int lim tk]) Q E s
end
section
noncomputable def Mark : Prop := True
local macro_rules | `(tactic| walk_at "exec If") => `(tactic| (rename Mark => hmark; refine hold ?_))
local macro_rules | `(tactic| k_mem) => `(tactic| first | exact .head _ | exact .tail _ (by assumption) | assumption)
local macro_rules | `(tactic| walk_at "subscriptTail") => `(tactic| (rename Mark2 => hmark; refine hold ?_))
noncomputable def P_taker_ok (w : World) (p : Program) (loose : List Str) (mean : ExcName → Option Value) (mg : Str → Option Value) (mb : Str → Option Value) (A : Around) (A₀ : Around) (env : Env) (outer : List Env) (base : Heap) (h₀ : Heap) (L : Addr) (m : Str → Option Value) (news : List (Addr × Obj)) (s : Shared) (Q : Value → Shared → Prop) (E : Value → Shared → Prop) (ls : Addr) (vs : List Value) (ns : List Int) : Prop := ∀ (C : Cx w p loose mean mg mb A A₀ env outer base h₀ L) (F : Fr h₀ L s.heap m) (N : News h₀ L s.heap ((271, tabObj #[]) :: news)) (hcd : CodeHd h₀ 275 271) (hl : h₀.IsList ls vs.toArray) (hi : IntsAre vs ns) (hlen : ns.length ≤ 63) (nt : ∀ q ∈ news, q.1 ≠ 271) (hd : A.depth ≤ 890) (hu : A.units ≤ 4900) (hret : ∀ f lp t n T tab h' tk', Fr h₀ L h' m → News h₀ L h' ((lp, W.listOf #[.int 0 t] n) :: (T ++ (271, tabObj tab) :: news)) → (∀ q ∈ T ++ (271, tabObj tab) :: news, q.1 ≠ lp) → (∀ q ∈ T, ∀ r ∈ news, r.1 ≠ q.1) → IsFn f T → TakeOK w p loose mean mg mb f lp T → Q (.ref f) { s with heap := h', toks := tk' }),
    wpAny (model PySem.Challenge.rw_pb0182_01.row.prog w) A (call (.ref 276) [.ref ls]) Q E s
noncomputable def c_taker_ok := @Classical.epsilon ((World) × (Program) × (List Str) × (ExcName → Option Value) × (Str → Option Value) × (Str → Option Value) × (Around) × (Around) × (Env) × (List Env) × (Heap) × (Heap) × (Addr) × (Str → Option Value) × (List (Addr × Obj)) × (Shared) × (Value → Shared → Prop) × (Value → Shared → Prop) × (Addr) × (List Value) × (List Int)) ⟨(wDef, default, [], fun _ => none, fun _ => none, fun _ => none, callerA, callerA, default, [], default, default, 0, fun _ => none, [], (PySem.start default).1, fun _ _ => True, fun _ _ => True, 0, [], [])⟩ fun v => ¬ P_taker_ok v.1 v.2.1 v.2.2.1 v.2.2.2.1 v.2.2.2.2.1 v.2.2.2.2.2.1 v.2.2.2.2.2.2.1 v.2.2.2.2.2.2.2.1 v.2.2.2.2.2.2.2.2.1 v.2.2.2.2.2.2.2.2.2.1 v.2.2.2.2.2.2.2.2.2.2.1 v.2.2.2.2.2.2.2.2.2.2.2.1 v.2.2.2.2.2.2.2.2.2.2.2.2.1 v.2.2.2.2.2.2.2.2.2.2.2.2.2.1 v.2.2.2.2.2.2.2.2.2.2.2.2.2.2.1 v.2.2.2.2.2.2.2.2.2.2.2.2.2.2.2.1 v.2.2.2.2.2.2.2.2.2.2.2.2.2.2.2.2.1 v.2.2.2.2.2.2.2.2.2.2.2.2.2.2.2.2.2.1 v.2.2.2.2.2.2.2.2.2.2.2.2.2.2.2.2.2.2.1 v.2.2.2.2.2.2.2.2.2.2.2.2.2.2.2.2.2.2.2.1 v.2.2.2.2.2.2.2.2.2.2.2.2.2.2.2.2.2.2.2.2
namespace K_taker_ok
@[irreducible] noncomputable def w : World := c_taker_ok.1
@[irreducible] noncomputable def p : Program := c_taker_ok.2.1
@[irreducible] noncomputable def loose : List Str := c_taker_ok.2.2.1
@[irreducible] noncomputable def mean : ExcName → Option Value := c_taker_ok.2.2.2.1
@[irreducible] noncomputable def mg : Str → Option Value := c_taker_ok.2.2.2.2.1
@[irreducible] noncomputable def mb : Str → Option Value := c_taker_ok.2.2.2.2.2.1
@[irreducible] noncomputable def A : Around := c_taker_ok.2.2.2.2.2.2.1
@[irreducible] noncomputable def A₀ : Around := c_taker_ok.2.2.2.2.2.2.2.1
@[irreducible] noncomputable def env : Env := c_taker_ok.2.2.2.2.2.2.2.2.1
@[irreducible] noncomputable def outer : List Env := c_taker_ok.2.2.2.2.2.2.2.2.2.1
@[irreducible] noncomputable def base : Heap := c_taker_ok.2.2.2.2.2.2.2.2.2.2.1
@[irreducible] noncomputable def h₀ : Heap := c_taker_ok.2.2.2.2.2.2.2.2.2.2.2.1
@[irreducible] noncomputable def L : Nat := c_taker_ok.2.2.2.2.2.2.2.2.2.2.2.2.1
@[irreducible] noncomputable def m : Str → Option Value := c_taker_ok.2.2.2.2.2.2.2.2.2.2.2.2.2.1
@[irreducible] noncomputable def news : List (Addr × Obj) := c_taker_ok.2.2.2.2.2.2.2.2.2.2.2.2.2.2.1
@[irreducible] noncomputable def s : Shared := c_taker_ok.2.2.2.2.2.2.2.2.2.2.2.2.2.2.2.1
@[irreducible] noncomputable def Q : Value → Shared → Prop := c_taker_ok.2.2.2.2.2.2.2.2.2.2.2.2.2.2.2.2.1
@[irreducible] noncomputable def E : Value → Shared → Prop := c_taker_ok.2.2.2.2.2.2.2.2.2.2.2.2.2.2.2.2.2.1
@[irreducible] noncomputable def ls : Nat := c_taker_ok.2.2.2.2.2.2.2.2.2.2.2.2.2.2.2.2.2.2.1
@[irreducible] noncomputable def vs : List Value := c_taker_ok.2.2.2.2.2.2.2.2.2.2.2.2.2.2.2.2.2.2.2.1
@[irreducible] noncomputable def ns : List Int := c_taker_ok.2.2.2.2.2.2.2.2.2.2.2.2.2.2.2.2.2.2.2.2
noncomputable def body : { P : Heap → Addr → Heap → Tok → Prop // ∀ (C : Cx w p loose mean mg mb A A₀ env outer base h₀ L) (F : Fr h₀ L s.heap m) (N : News h₀ L s.heap ((271, tabObj #[]) :: news)) (hcd : CodeHd h₀ 275 271) (hl : h₀.IsList ls vs.toArray) (hi : IntsAre vs ns) (hlen : ns.length ≤ 63) (nt : ∀ q ∈ news, q.1 ≠ 271) (hd : A.depth ≤ 890) (hu : A.units ≤ 4900) (hret : ∀ f lp t n T tab h' tk', Fr h₀ L h' m → News h₀ L h' ((lp, W.listOf #[.int 0 t] n) :: (T ++ (271, tabObj tab) :: news)) → (∀ q ∈ T ++ (271, tabObj tab) :: news, q.1 ≠ lp) → (∀ q ∈ T, ∀ r ∈ news, r.1 ≠ q.1) → IsFn f T → TakeOK w p loose mean mg mb f lp T → Q (.ref f) { s with heap := h', toks := tk' }), (∀ g' L' h' tk', P g' L' h' tk') →
    wpAny (model PySem.Challenge.rw_pb0182_01.row.prog w) A (call (.ref 276) [.ref ls]) Q E s } := by
  refine' ⟨_, _⟩
  rotate_left
  intro C F N hcd hl hi hlen nt hd hu hret hBody
  refine wpAny_call ?_
  k_dflt (refine' enter_cells C F N ?k6 ?k7 ?k8 ?k9 ?kB ?kD ?_ ?c2 ?c3 ?c4)
  case k6 => k_is
  case k7 => k_is
  case k8 => exact Nat.lt_of_le_of_lt hd (by decide)
  case k9 => exact BindsTo.of_eq rfl
  case kB => exact rfl
  case kD => decide +kernel
  case c2 => exact rfl
  case c3 => exact rfl
  case c4 => exact rfl
  exact hBody
noncomputable def PB (v : Heap × Addr × Heap × Tok) : Prop := ∀ (C : Cx w p loose mean mg mb A A₀ env outer base h₀ L) (F : Fr h₀ L s.heap m) (N : News h₀ L s.heap ((271, tabObj #[]) :: news)) (hcd : CodeHd h₀ 275 271) (hl : h₀.IsList ls vs.toArray) (hi : IntsAre vs ns) (hlen : ns.length ≤ 63) (nt : ∀ q ∈ news, q.1 ≠ 271) (hd : A.depth ≤ 890) (hu : A.units ≤ 4900) (hret : ∀ f lp t n T tab h' tk', Fr h₀ L h' m → News h₀ L h' ((lp, W.listOf #[.int 0 t] n) :: (T ++ (271, tabObj tab) :: news)) → (∀ q ∈ T ++ (271, tabObj tab) :: news, q.1 ≠ lp) → (∀ q ∈ T, ∀ r ∈ news, r.1 ≠ q.1) → IsFn f T → TakeOK w p loose mean mg mb f lp T → Q (.ref f) { s with heap := h', toks := tk' }), body.1 v.1 v.2.1 v.2.2.1 v.2.2.2
noncomputable def cb := @Classical.epsilon (Heap × Addr × Heap × Tok) ⟨(default, 0, default, 0)⟩ fun v => ¬ PB v
@[irreducible] noncomputable def g' : Heap := cb.1
@[irreducible] noncomputable def L' : Nat := cb.2.1
@[irreducible] noncomputable def h' : Heap := cb.2.2.1
@[irreducible] noncomputable def tk' : Tok := cb.2.2.2
theorem inner : PB (g', L', h', tk') := by
  have st0 : Stop "all 2" := .mk
  have st1 : Stop "call builtin:len" := .mk
  unfold PB
  intro C F N hcd hl hi hlen nt hd hu hret
  delta body
  dsimp only
  intro cells' C' F' N' Y' G' l1
  try k_fold
  have X' := C'.X
  have T' := C'.T
  have B' := C'.B
  first | (refine foldA ?_; intro qC eC) | (refine foldC ?_; intro qC eC)
  k_cells Y'; (try simp only [List.cons_append, List.nil_append] at N'); (try dsimp only)
  rename_i o₂ o₁₀ dc2 dc1
  have up' : ∀ b o, h₀.get? b = some o → g'.get? b = some o := base_up F N G'
  have hl' : g'.IsList ls vs.toArray := by obtain ⟨o, e, r⟩ := hl; exact ⟨o, up' _ _ e, r⟩
  have hcd' : CodeHd g' 275 271 := hcd.keeps up'
  clear hl hcd
  have m1 : ∀ q ∈ news, q.1 ≠ L' + 1 := fun q hq => Nat.ne_of_lt (Nat.lt_succ_of_lt (l1 q (.tail _ hq)))
  have m2 : ∀ q ∈ news, q.1 ≠ L' + 1 + 1 := fun q hq => Nat.ne_of_lt (Nat.lt_succ_of_lt (Nat.lt_succ_of_lt (l1 q (.tail _ hq))))
  have m3 : ∀ q ∈ news, q.1 ≠ 271 := nt
  have m4 : (271 : Nat) < (L' : Nat) := l1 _ (.head _)
  have m5 : (nat_lit 271 : Nat) < (L' : Nat) := l1 _ (.head _)
  have hmark : Mark := trivial
  try k_fold
  k_steps
  rename Mark => hmark; clear hmark
  rename News _ _ _ _ => N₁
  rename Fr _ _ _ _ => F₁
  rename _ ∧ _ ∧ _ ∧ AllLt _ _ => lD
  obtain ⟨m', F₁⟩ : ∃ m', Fr g' L' _ m' := ⟨_, F₁⟩
  rename IntsAre _ (List.take 63 ns) => hI
  refine Hold.go (wpAny_mono (Q := fun f s' => Hold (f = .next ∧ ∃ D : Nat, ∃ ws ms n o1 h₂ tk₂, s' = { s with heap := h₂, toks := tk₂ } ∧ Fr g' L' h₂ m' ∧ News g' L' h₂ ((D, W.listOf (List.toArray ws) n) :: (L' + 1 + 1, o₂) :: (L' + 1, o1) :: (271, tabObj #[]) :: news) ∧ o1.data = .cell (some (.ref D)) ∧ IntsAre ws ms ∧ 0 < ms.length ∧ ms.length ≤ 63 ∧ (L' + 1 + 1 < D ∧ L' + 1 < D ∧ 271 < D ∧ AllLt D news))) ?_ ?_ (fun _ _ x => x))
  · try k_fold
    k_steps
    · rename News _ _ _ _ => N₂
      rename Fr _ _ _ _ => F₂
      rename _ ∧ _ ∧ _ ∧ _ ∧ _ ∧ AllLt _ _ => lD₂
      exact Hold.go ⟨rfl, _, [_], [1], 0, _, _, _, rfl, F₂, news_skip2 N₂, by assumption, .cons _ _ .nil, by decide, by decide, lD₂.2.2⟩
    · rename decide _ = false => hne
      rename News _ _ _ _ => N₂
      refine Hold.go ⟨rfl, _, _, _, _, _, _, _, rfl, by assumption, news_skip1 N₂, by assumption, hI, ?_, ?_, lD⟩
      · cases hq : List.take 63 ns with
        | nil => exact absurd hq (by simpa using hne)
        | cons a r => simp
      · rw [List.length_take]; omega
  · rintro f s' ⟨rfl, D, ws, ms, n, o1, h₂, tk₂, rfl, F₂, N₂, ho1, hms, hm0, hm1, lD₂⟩
    try dsimp only
    try k_fold
    k_steps
    rename News _ _ _ _ => N₃
    rename Fr _ _ _ _ => F₃
    rename_i lp hx1 l3 hx2 op dop f' c' oc' vs' t' ct' dc' hx3 tkx hd1 hd2 l4 l5 hx4
    have n0 : ∀ q ∈ news, q.1 ≠ lp := allLt_ne l3.2.2.2.2
    refine ⟨_, _, _, F₃, N₃, fun Ff Nf => hret f' lp _ _ [_, _, _, _, _] _ _ _ Ff (show News _ _ _ _ from news_pull2 Nf) ?_ ?_ ⟨_, _, _, _, .head _⟩ ?_⟩
    · k_all
    · intro q hq r hr
      have z4 : r.1 < c' := allLt_lt l4.2.2.2.2.2 r hr
      have z2 : r.1 ≠ D := allLt_ne lD₂.2.2.2 r hr
      have y1 := m1 r hr
      have y2 := m2 r hr
      revert q; refine fa_cons ?_ fun q hq => ?_
      · exact Nat.ne_of_lt (Nat.lt_trans z4 l5)
      revert q; refine fa_cons ?_ fun q hq => ?_
      · exact Nat.ne_of_lt z4
      revert q; refine fa_cons ?_ fun q hq => ?_
      · exact z2
      revert q; refine fa_cons ?_ fun q hq => ?_
      · first | exact y1 | exact y2
      revert q; refine fa_cons ?_ fun q hq => ?_
      · first | exact y1 | exact y2
      cases hq
    · clear hret N₃ F₃ hx3 hx2 hx1
      intro A A₀ env outer base h₀ L m s rest Q E k lim n t tk C F N hcd hT nb hk0 hk1 hl0 hl1 hd hu hret
      try k_fold
      refine wpAny_call ?_
      have t1 := hT _ (.head _)
      have t2 := hT _ (.tail _ (.head _))
      have t3 := hT _ (.tail _ (.tail _ (.head _)))
      have t4 := hT _ (.tail _ (.tail _ (.tail _ (.head _))))
      have t5 := hT _ (.tail _ (.tail _ (.tail _ (.tail _ (.head _)))))
      k_dflt (refine' enter_nest C F N ?k6 ?k7 ?k8 ?k9 ?kB ?_ ?c2 ?c3 ?c4 ?c5)
      case k6 => exact .tail _ t1
      case k7 => exact codeRec_news N (.tail _ t2) hd1 hd2
      case k8 => exact Nat.lt_of_le_of_lt hd (by decide)
      case k9 => exact BindsTo.of_eq rfl
      case c5 => decide
      case kB => exact locs rfl
      case c2 => exact rfl
      case c3 => exact rfl
      case c4 => exact rfl
      intro g₁ L₁ h₁ C₁ F₁ N₁ G₁ l1
      try k_fold
      have X₁ := C₁.X
      have T₁ := C₁.T
      have B₁ := C₁.B
      have hcd₁ : CodeHd g₁ 275 271 := hcd.keeps (base_up F N G₁)
      have hmark2 : Mark2 := trivial
      try k_fold
      k_steps
      have hk : [k].getD (Int.toNat 0) 0 = k := rfl
      rename News _ _ _ _ => N₂
      rename Fr _ _ _ _ => F₂
      rw [hk] at N₂ F₂ ⊢
      have hml := hms.length
      refine Hold.go (len1L ⟨_, (N₂ _ (.tail _ t3)).1, rfl, _, rfl⟩ (by rw [List.size_toArray, hml]) (by omega) ?_)
      try k_fold
      k_steps
      rename News _ _ _ _ => N₄
      rename Fr _ _ _ _ => F₄
      have hlv : 0 ≤ k.fdiv (ms.length : Int) ∧ k.fdiv (ms.length : Int) < 200 := by
        rw [Int.fdiv_eq_ediv_of_nonneg _ (by omega)]
        exact ⟨Int.ediv_nonneg hk0 (by omega), Int.lt_of_le_of_lt (Int.ediv_le_self _ hk0) hk1⟩
      generalize hlve : k.fdiv (ms.length : Int) = lv at *
      refine Hold.go (len1L ⟨_, (N₄ _ (.tail _ t3)).1, rfl, _, rfl⟩ (by rw [List.size_toArray, hml]) (by omega) ?_)
      try k_fold
      k_steps
      rename News _ _ _ _ => N₅
      rename Fr _ _ _ _ => F₅
      have hmd : 0 ≤ k.fmod (ms.length : Int) ∧ k.fmod (ms.length : Int) < ms.length := ⟨Int.fmod_nonneg_of_pos _ (by omega), Int.fmod_lt_of_pos _ (by omega)⟩
      obtain ⟨v, hv⟩ : ∃ v, ws[(k.fmod (ms.length : Int)).toNat]? = some v := ⟨_, List.getElem?_eq_getElem (by rw [hml]; exact (Int.toNat_lt hmd.1).mpr hmd.2)⟩
      try k_fold
      obtain ⟨c, tc, rfl, _⟩ := IntsAre.at hms _ v hv
      refine Hold.go (itemAt ⟨_, (N₅ _ (.tail _ t3)).1, rfl, _, rfl⟩ hmd.1 (Int.lt_trans hmd.2 (Int.lt_of_le_of_lt (Int.ofNat_le.mpr hm1) (by decide))) hv ?_)
      try k_fold
      k_steps
      have hpp : 0 < (720720 : Int) ^ lv.toNat := Int.pow_pos (by decide)
      have hlg := pow_log lv.toNat ((Int.toNat_lt hlv.1).mpr (Int.lt_trans hlv.2 (by decide)))
      generalize (720720 : Int) ^ lv.toNat = P at *
      refine floordiv_int (Int.ne_of_gt hpp) ?_ (Or.inl (PyProof.noPylong_of_log2 hlg))
      try k_fold
      k_steps
      exact ⟨_, _, _, F₅, N₅, fun Ff Nf => hret _ _ _ _ _ _ (Int.fmod_nonneg_of_pos _ hl0) (Int.fmod_lt_of_pos _ hl0) Ff Nf⟩
theorem core : P_taker_ok w p loose mean mg mb A A₀ env outer base h₀ L m news s Q E ls vs ns := by
  unfold P_taker_ok
  intro C F N hcd hl hi hlen nt hd hu hret
  exact body.2 C F N hcd hl hi hlen nt hd hu hret fun g' L' h' tk' => eps_all (P := PB) (by with_unfolding_all exact inner) (g', L', h', tk') C F N hcd hl hi hlen nt hd hu hret
end K_taker_ok
theorem taker_ok {w : World} {p : Program} {loose : List Str} {mean : ExcName → Option Value} {mg : Str → Option Value} {mb : Str → Option Value} {A : Around} {A₀ : Around} {env : Env} {outer : List Env} {base : Heap} {h₀ : Heap} {L : Addr} {m : Str → Option Value} {news : List (Addr × Obj)} {s : Shared} {Q : Value → Shared → Prop} {E : Value → Shared → Prop} {ls : Addr} {vs : List Value} {ns : List Int} (C : Cx w p loose mean mg mb A A₀ env outer base h₀ L) (F : Fr h₀ L s.heap m) (N : News h₀ L s.heap ((271, tabObj #[]) :: news)) (hcd : CodeHd h₀ 275 271) (hl : h₀.IsList ls vs.toArray) (hi : IntsAre vs ns) (hlen : ns.length ≤ 63) (nt : ∀ q ∈ news, q.1 ≠ 271) (hd : A.depth ≤ 890) (hu : A.units ≤ 4900) (hret : ∀ f lp t n T tab h' tk', Fr h₀ L h' m → News h₀ L h' ((lp, W.listOf #[.int 0 t] n) :: (T ++ (271, tabObj tab) :: news)) → (∀ q ∈ T ++ (271, tabObj tab) :: news, q.1 ≠ lp) → (∀ q ∈ T, ∀ r ∈ news, r.1 ≠ q.1) → IsFn f T → TakeOK w p loose mean mg mb f lp T → Q (.ref f) { s with heap := h', toks := tk' }) :
    wpAny (model PySem.Challenge.rw_pb0182_01.row.prog w) A (call (.ref 276) [.ref ls]) Q E s :=
  eps_all (P := fun v => P_taker_ok v.1 v.2.1 v.2.2.1 v.2.2.2.1 v.2.2.2.2.1 v.2.2.2.2.2.1 v.2.2.2.2.2.2.1 v.2.2.2.2.2.2.2.1 v.2.2.2.2.2.2.2.2.1 v.2.2.2.2.2.2.2.2.2.1 v.2.2.2.2.2.2.2.2.2.2.1 v.2.2.2.2.2.2.2.2.2.2.2.1 v.2.2.2.2.2.2.2.2.2.2.2.2.1 v.2.2.2.2.2.2.2.2.2.2.2.2.2.1 v.2.2.2.2.2.2.2.2.2.2.2.2.2.2.1 v.2.2.2.2.2.2.2.2.2.2.2.2.2.2.2.1 v.2.2.2.2.2.2.2.2.2.2.2.2.2.2.2.2.1 v.2.2.2.2.2.2.2.2.2.2.2.2.2.2.2.2.2.1 v.2.2.2.2.2.2.2.2.2.2.2.2.2.2.2.2.2.2.1 v.2.2.2.2.2.2.2.2.2.2.2.2.2.2.2.2.2.2.2.1 v.2.2.2.2.2.2.2.2.2.2.2.2.2.2.2.2.2.2.2.2) (by with_unfolding_all exact K_taker_ok.core) (w, p, loose, mean, mg, mb, A, A₀, env, outer, base, h₀, L, m, news, s, Q, E, ls, vs, ns) C F N hcd hl hi hlen nt hd hu hret
end
end Mine
end TextG1
section TextG2
open PySem PySem.W PyProof.Rows PySem.Calls PySem.Spec
set_option Elab.async false
set_option maxRecDepth 100000
set_option maxHeartbeats 1000000
namespace Mine
theorem fillG2 {w : World} {A : Around} {Q : Value → Shared → Prop} {E : Value → Shared → Prop} {s : Shared} (h : (hd0.heap_1 w.params).In s.heap → wpAny (model PySem.Challenge.rw_pb0182_01.row.prog w) A (call .none []) Q E s) :
    (hd0.heap_1 w.params).In s.heap → wpAny (model PySem.Challenge.rw_pb0182_01.row.prog w) A (call .none []) Q E s := by
  k_fill
  w_top off
  intro hX
  try walk1
  exact h hX
section
variable {w : World} {p : Program} {loose : List Str} {mean : ExcName → Option Value} {mg mb : Str → Option Value} {A A₀ : Around} {env : Env} {outer : List Env} {base h₀ : Heap} {L : Addr} {m : Str → Option Value} {news rest : List (Addr × Obj)} {s : Shared}
  {Q E : Value → Shared → Prop}
section
theorem reverse_new {dm tb ta : Addr} (C : Cx w p loose mean mg mb A A₀ env outer base h₀ L) (F : Fr h₀ L s.heap m) (N : News h₀ L s.heap news)
   (hd : A.depth ≤ 870) (hu : A.units ≤ 4700) (h : ∀ x dx t1 t2 t3 h' tk, Fr h₀ L h' m → News h₀ L h' ((x, instObj 260 dx) :: (dx, dictOf [⟨PyData.keyHash w.params "mapping", .str "mapping" t1, .ref dm⟩, ⟨PyData.keyHash w.params "back", .str "back" t2, .ref tb⟩, ⟨PyData.keyHash w.params "ahead", .str "ahead" t3, .ref ta⟩] 3) :: news) → x ≠ dx → (∀ p ∈ news, p.1 ≠ dx ∧ p.1 ≠ x) → Q (.ref x) { s with heap := h', toks := tk }) :
   wpAny (model PySem.Challenge.rw_pb0182_01.row.prog w) A (call (.ref 260) [.ref dm, .ref tb, .ref ta]) Q E s := by
  have st0 : Stop "all 2" := .mk
  refine wpAny_call (make_K (fI := 250) F N (C.X.keeps F.keep) (by k_is) (by k_is) (by k_is) fun x dx h' F₀ N₀ l1 l2 => ?_)
  have N₀' : News h₀ L h' ((x, instObj 260 dx) :: (dx, dictOf [] 0) :: news) := N₀
  k_dflt (refine' enter_plain (C.under (by rfl) (by rfl)) F₀ N₀ ?k6 ?k7 ?k8 ?k9 ?kB ?_ ?c2 ?c3 ?c4 ?c5)
  case k6 => k_is
  case k7 => k_is
  case k8 => exact Nat.lt_of_le_of_lt (Nat.add_le_add_right hd _) (show 870 + 1 < recursionLimit by decide)
  case k9 => exact BindsTo.of_eq rfl
  case c5 => decide
  case kB => exact locs rfl
  case c2 => exact rfl
  case c3 => exact rfl
  case c4 => exact rfl
  intro g' L' h₁ C₁ F₁ N₁ G₁ l3
  have X₁ := C₁.X
  have T₁ := C₁.T
  have B₁ := C₁.B
  first | (refine foldA ?_; intro qC eC) | (refine foldC ?_; intro qC eC)
  have n2 : x ≠ dx := Ne.symm (Nat.ne_of_lt l2)
  have n3 : ∀ p ∈ news, p.1 ≠ dx := fun p hp => Nat.ne_of_lt (l1 p hp)
  k_steps
  refine ⟨_, _, _, by assumption, by assumption, fun Ff Nf => ⟨rfl, ?_⟩⟩
  exact h x dx _ _ _ _ _ Ff Nf n2 fun p hp => ⟨n3 p hp, Nat.ne_of_lt (Nat.lt_trans (l1 p hp) l2)⟩
end
end
end Mine
end TextG2
section TextG3
open PySem PySem.W PyProof.Rows PySem.Calls PySem.Spec
set_option Elab.async false
set_option maxRecDepth 100000
set_option maxHeartbeats 1000000
namespace Mine
theorem fillG3 {w : World} {A : Around} {Q : Value → Shared → Prop} {E : Value → Shared → Prop} {s : Shared} (h : (hd0.heap_1 w.params).In s.heap → wpAny (model PySem.Challenge.rw_pb0182_01.row.prog w) A (call .none []) Q E s) :
    (hd0.heap_1 w.params).In s.heap → wpAny (model PySem.Challenge.rw_pb0182_01.row.prog w) A (call .none []) Q E s := by
  k_fill
  w_top off
  intro hX
  try walk1
  exact h hX
section
variable {w : World} {p : Program} {loose : List Str} {mean : ExcName → Option Value} {mg mb : Str → Option Value} {A A₀ : Around} {env : Env} {outer : List Env} {base h₀ : Heap} {L : Addr} {m : Str → Option Value} {news rest : List (Addr × Obj)} {s : Shared}
  {Q E : Value → Shared → Prop}
end
section
noncomputable def P_two_ok (w : World) (p : Program) (loose : List Str) (mean : ExcName → Option Value) (mg : Str → Option Value) (mb : Str → Option Value) (A : Around) (A₀ : Around) (env : Env) (outer : List Env) (base : Heap) (h₀ : Heap) (L : Addr) (m : Str → Option Value) (news : List (Addr × Obj)) (s : Shared) (Q : Value → Shared → Prop) (E : Value → Shared → Prop) (ns : List Int) (vs : List Value) (k : Nat) (ln : Addr) : Prop := ∀ (C : Cx w p loose mean mg mb A A₀ env outer base h₀ L) (F : Fr h₀ L s.heap m) (N : News h₀ L s.heap news) (hln : (ln, ({ cls := .type "list", data := .seq vs.toArray k } : Obj)) ∈ news) (hi : IntsAre vs ns) (hns : ∀ n ∈ ns, 0 ≤ n ∧ n < 65536) (hlen : ns.length ≤ 1000) (hd : A.depth ≤ 870) (hu : A.units ≤ 4700) (hret : ∀ t h' tk', Fr h₀ L h' m → News h₀ L h' news → Q (.bytes ((ns.map two).flatten).toArray t) { s with heap := h', toks := tk' }),
    wpAny (model PySem.Challenge.rw_pb0182_01.row.prog w) A (call (.ref 281) [.ref ln]) Q E s
noncomputable def c_two_ok := @Classical.epsilon ((World) × (Program) × (List Str) × (ExcName → Option Value) × (Str → Option Value) × (Str → Option Value) × (Around) × (Around) × (Env) × (List Env) × (Heap) × (Heap) × (Addr) × (Str → Option Value) × (List (Addr × Obj)) × (Shared) × (Value → Shared → Prop) × (Value → Shared → Prop) × (List Int) × (List Value) × (Nat) × (Addr)) ⟨(wDef, default, [], fun _ => none, fun _ => none, fun _ => none, callerA, callerA, default, [], default, default, 0, fun _ => none, [], (PySem.start default).1, fun _ _ => True, fun _ _ => True, [], [], 0, 0)⟩ fun v => ¬ P_two_ok v.1 v.2.1 v.2.2.1 v.2.2.2.1 v.2.2.2.2.1 v.2.2.2.2.2.1 v.2.2.2.2.2.2.1 v.2.2.2.2.2.2.2.1 v.2.2.2.2.2.2.2.2.1 v.2.2.2.2.2.2.2.2.2.1 v.2.2.2.2.2.2.2.2.2.2.1 v.2.2.2.2.2.2.2.2.2.2.2.1 v.2.2.2.2.2.2.2.2.2.2.2.2.1 v.2.2.2.2.2.2.2.2.2.2.2.2.2.1 v.2.2.2.2.2.2.2.2.2.2.2.2.2.2.1 v.2.2.2.2.2.2.2.2.2.2.2.2.2.2.2.1 v.2.2.2.2.2.2.2.2.2.2.2.2.2.2.2.2.1 v.2.2.2.2.2.2.2.2.2.2.2.2.2.2.2.2.2.1 v.2.2.2.2.2.2.2.2.2.2.2.2.2.2.2.2.2.2.1 v.2.2.2.2.2.2.2.2.2.2.2.2.2.2.2.2.2.2.2.1 v.2.2.2.2.2.2.2.2.2.2.2.2.2.2.2.2.2.2.2.2.1 v.2.2.2.2.2.2.2.2.2.2.2.2.2.2.2.2.2.2.2.2.2
namespace K_two_ok
@[irreducible] noncomputable def w : World := c_two_ok.1
@[irreducible] noncomputable def p : Program := c_two_ok.2.1
@[irreducible] noncomputable def loose : List Str := c_two_ok.2.2.1
@[irreducible] noncomputable def mean : ExcName → Option Value := c_two_ok.2.2.2.1
@[irreducible] noncomputable def mg : Str → Option Value := c_two_ok.2.2.2.2.1
@[irreducible] noncomputable def mb : Str → Option Value := c_two_ok.2.2.2.2.2.1
@[irreducible] noncomputable def A : Around := c_two_ok.2.2.2.2.2.2.1
@[irreducible] noncomputable def A₀ : Around := c_two_ok.2.2.2.2.2.2.2.1
@[irreducible] noncomputable def env : Env := c_two_ok.2.2.2.2.2.2.2.2.1
@[irreducible] noncomputable def outer : List Env := c_two_ok.2.2.2.2.2.2.2.2.2.1
@[irreducible] noncomputable def base : Heap := c_two_ok.2.2.2.2.2.2.2.2.2.2.1
@[irreducible] noncomputable def h₀ : Heap := c_two_ok.2.2.2.2.2.2.2.2.2.2.2.1
@[irreducible] noncomputable def L : Nat := c_two_ok.2.2.2.2.2.2.2.2.2.2.2.2.1
@[irreducible] noncomputable def m : Str → Option Value := c_two_ok.2.2.2.2.2.2.2.2.2.2.2.2.2.1
@[irreducible] noncomputable def news : List (Addr × Obj) := c_two_ok.2.2.2.2.2.2.2.2.2.2.2.2.2.2.1
@[irreducible] noncomputable def s : Shared := c_two_ok.2.2.2.2.2.2.2.2.2.2.2.2.2.2.2.1
@[irreducible] noncomputable def Q : Value → Shared → Prop := c_two_ok.2.2.2.2.2.2.2.2.2.2.2.2.2.2.2.2.1
@[irreducible] noncomputable def E : Value → Shared → Prop := c_two_ok.2.2.2.2.2.2.2.2.2.2.2.2.2.2.2.2.2.1
@[irreducible] noncomputable def ns : List Int := c_two_ok.2.2.2.2.2.2.2.2.2.2.2.2.2.2.2.2.2.2.1
@[irreducible] noncomputable def vs : List Value := c_two_ok.2.2.2.2.2.2.2.2.2.2.2.2.2.2.2.2.2.2.2.1
@[irreducible] noncomputable def k : Nat := c_two_ok.2.2.2.2.2.2.2.2.2.2.2.2.2.2.2.2.2.2.2.2.1
@[irreducible] noncomputable def ln : Nat := c_two_ok.2.2.2.2.2.2.2.2.2.2.2.2.2.2.2.2.2.2.2.2.2
noncomputable def body : { P : Heap → Addr → Heap → Prop // ∀ (C : Cx w p loose mean mg mb A A₀ env outer base h₀ L) (F : Fr h₀ L s.heap m) (N : News h₀ L s.heap news) (hln : (ln, ({ cls := .type "list", data := .seq vs.toArray k } : Obj)) ∈ news) (hi : IntsAre vs ns) (hns : ∀ n ∈ ns, 0 ≤ n ∧ n < 65536) (hlen : ns.length ≤ 1000) (hd : A.depth ≤ 870) (hu : A.units ≤ 4700) (hret : ∀ t h' tk', Fr h₀ L h' m → News h₀ L h' news → Q (.bytes ((ns.map two).flatten).toArray t) { s with heap := h', toks := tk' }), (∀ g' L' h₁, P g' L' h₁) →
    wpAny (model PySem.Challenge.rw_pb0182_01.row.prog w) A (call (.ref 281) [.ref ln]) Q E s } := by
  refine' ⟨_, _⟩
  rotate_left
  intro C F N hln hi hns hlen hd hu hret hBody
  refine wpAny_call ?_
  k_dflt (refine' enter_plain C F N ?k6 ?k7 ?k8 ?k9 ?kB ?_ ?c2 ?c3 ?c4 ?c5)
  case k6 => k_is
  case k7 => k_is
  case k8 => exact Nat.lt_of_le_of_lt hd (by decide)
  case k9 => exact BindsTo.of_eq rfl
  case c5 => decide
  case kB => exact locs rfl
  case c2 => exact rfl
  case c3 => exact rfl
  case c4 => exact rfl
  exact hBody
noncomputable def PB (v : Heap × Addr × Heap) : Prop := ∀ (C : Cx w p loose mean mg mb A A₀ env outer base h₀ L) (F : Fr h₀ L s.heap m) (N : News h₀ L s.heap news) (hln : (ln, ({ cls := .type "list", data := .seq vs.toArray k } : Obj)) ∈ news) (hi : IntsAre vs ns) (hns : ∀ n ∈ ns, 0 ≤ n ∧ n < 65536) (hlen : ns.length ≤ 1000) (hd : A.depth ≤ 870) (hu : A.units ≤ 4700) (hret : ∀ t h' tk', Fr h₀ L h' m → News h₀ L h' news → Q (.bytes ((ns.map two).flatten).toArray t) { s with heap := h', toks := tk' }), body.1 v.1 v.2.1 v.2.2
noncomputable def cb := @Classical.epsilon (Heap × Addr × Heap) ⟨(default, 0, default)⟩ fun v => ¬ PB v
@[irreducible] noncomputable def g' : Heap := cb.1
@[irreducible] noncomputable def L' : Nat := cb.2.1
@[irreducible] noncomputable def h₁ : Heap := cb.2.2
theorem inner : PB (g', L', h₁) := by
  have st0 : Stop "mem 1" := .mk
  have st1 : Stop "eval ListComp" := .mk
  have st2 : Stop "call type:bytes" := .mk
  have st3 : Stop "call builtin:bytes.join" := .mk
  have st4 : Stop "join" := .mk
  unfold PB
  intro C F N hln hi hns hlen hd hu hret
  delta body
  dsimp only
  intro C₁ F₁ N₁ G₁ l1
  try k_fold
  have X₁ := C₁.X
  have T₁ := C₁.T
  have B₁ := C₁.B
  first | (refine foldA ?_; intro qC eC) | (refine foldC ?_; intro qC eC)
  have hlen' := hi.length
  k_steps
  refine Hold.go ?_
  rename Fr _ _ _ _ => F₂
  refine comp_list F₂ C₁.hh (by with_unfolding_all rfl) (by decide) (by rfl) (by decide) (by rfl) ?_
  k_steps
  refine Hold.go ⟨ln, vs.toArray, news, fun i ys nw => nw = news ∧ BytesAre ys ((ns.take i).map two), rfl, by assumption, N₁, by rw [sizeLine_eq, List.size_toArray]; omega, ⟨rfl, .nil⟩,
    (fun k ys nw z => by obtain ⟨rfl, _⟩ := z; exact .inr ⟨_, hln, rfl, _, rfl⟩), fun s₂ hs₂ up₂ => ⟨?_, ?_⟩⟩
  · obtain ⟨g, rfl⟩ := hs₂
    intro i v ys nw I oI CC oC D m₂ h tk E' hi' hy hP hJ hoC hv F₂ N₂ off hIC hID hCD
    try k_fold
    obtain ⟨rfl, hys⟩ := hJ
    try k_fold
    obtain ⟨n, t, rfl, hn⟩ := IntsAre.at hi i v (by simpa using hP)
    have hns' := hns n (List.mem_of_getElem? hn)
    k_steps
    rename Fr _ _ _ _ => F₃
    rename News _ _ _ _ => N₃
    refine Hold.go (bytes_K (ns := [n / 256, n % 256]) F₃ N₃ ⟨_, (N₃ _ (.head _)).1, rfl, _, rfl⟩ ?_ (fun x hx => ?_) (by show 2 ≤ sizeLine; decide) C₁.hh fun h₂ t k F₄ N₄ _ => ?_)
    · rw [← Int.fdiv_eq_ediv_of_nonneg _ (by decide), ← Int.fmod_eq_emod_of_nonneg _ (by decide)]
      exact .cons _ _ (.cons _ _ .nil)
    · simp only [List.mem_cons, List.not_mem_nil, or_false] at hx
      exact ar_byte hns'.1 hns'.2 hx
    · refine ⟨h₂, _, _, rfl, F₄, fun q hq => N₄ q (.tail _ hq), off, rfl, ?_⟩
      · rw [List.take_add_one, hn]
        simp only [Option.toList, List.map_append, List.map_cons, List.map_nil]
        exact hys.append (.cons _ _ .nil)
  · obtain ⟨g, rfl⟩ := hs₂
    intro D h tk ys nw F₂ N₂ off hy hJ
    try k_fold
    obtain ⟨rfl, hys⟩ := hJ
    simp only [List.size_toArray, hlen', List.take_length] at hys
    have hfl := flat_two ns
    k_steps
    refine Hold.go (BJ.call_join ⟨_, (N₂ _ (.head _)).1, rfl, _, rfl⟩ hys (by rw [hfl]; omega) fun t' k' => ?_)
    k_steps
    exact ⟨_, _, _, F₂, (fun q hq => N₂ q (.tail _ hq)), fun Ff Nf => hret _ _ _ Ff Nf⟩
theorem core : P_two_ok w p loose mean mg mb A A₀ env outer base h₀ L m news s Q E ns vs k ln := by
  unfold P_two_ok
  intro C F N hln hi hns hlen hd hu hret
  exact body.2 C F N hln hi hns hlen hd hu hret fun g' L' h₁ => eps_all (P := PB) (by with_unfolding_all exact inner) (g', L', h₁) C F N hln hi hns hlen hd hu hret
end K_two_ok
theorem two_ok {w : World} {p : Program} {loose : List Str} {mean : ExcName → Option Value} {mg : Str → Option Value} {mb : Str → Option Value} {A : Around} {A₀ : Around} {env : Env} {outer : List Env} {base : Heap} {h₀ : Heap} {L : Addr} {m : Str → Option Value} {news : List (Addr × Obj)} {s : Shared} {Q : Value → Shared → Prop} {E : Value → Shared → Prop} {ns : List Int} {vs : List Value} {k : Nat} {ln : Addr} (C : Cx w p loose mean mg mb A A₀ env outer base h₀ L) (F : Fr h₀ L s.heap m) (N : News h₀ L s.heap news) (hln : (ln, ({ cls := .type "list", data := .seq vs.toArray k } : Obj)) ∈ news) (hi : IntsAre vs ns) (hns : ∀ n ∈ ns, 0 ≤ n ∧ n < 65536) (hlen : ns.length ≤ 1000) (hd : A.depth ≤ 870) (hu : A.units ≤ 4700) (hret : ∀ t h' tk', Fr h₀ L h' m → News h₀ L h' news → Q (.bytes ((ns.map two).flatten).toArray t) { s with heap := h', toks := tk' }) :
    wpAny (model PySem.Challenge.rw_pb0182_01.row.prog w) A (call (.ref 281) [.ref ln]) Q E s :=
  eps_all (P := fun v => P_two_ok v.1 v.2.1 v.2.2.1 v.2.2.2.1 v.2.2.2.2.1 v.2.2.2.2.2.1 v.2.2.2.2.2.2.1 v.2.2.2.2.2.2.2.1 v.2.2.2.2.2.2.2.2.1 v.2.2.2.2.2.2.2.2.2.1 v.2.2.2.2.2.2.2.2.2.2.1 v.2.2.2.2.2.2.2.2.2.2.2.1 v.2.2.2.2.2.2.2.2.2.2.2.2.1 v.2.2.2.2.2.2.2.2.2.2.2.2.2.1 v.2.2.2.2.2.2.2.2.2.2.2.2.2.2.1 v.2.2.2.2.2.2.2.2.2.2.2.2.2.2.2.1 v.2.2.2.2.2.2.2.2.2.2.2.2.2.2.2.2.1 v.2.2.2.2.2.2.2.2.2.2.2.2.2.2.2.2.2.1 v.2.2.2.2.2.2.2.2.2.2.2.2.2.2.2.2.2.2.1 v.2.2.2.2.2.2.2.2.2.2.2.2.2.2.2.2.2.2.2.1 v.2.2.2.2.2.2.2.2.2.2.2.2.2.2.2.2.2.2.2.2.1 v.2.2.2.2.2.2.2.2.2.2.2.2.2.2.2.2.2.2.2.2.2) (by with_unfolding_all exact K_two_ok.core) (w, p, loose, mean, mg, mb, A, A₀, env, outer, base, h₀, L, m, news, s, Q, E, ns, vs, k, ln) C F N hln hi hns hlen hd hu hret
end
end Mine
end TextG3
section TextK2
open PySem PySem.W PyProof.Rows PySem.Calls PySem.Spec
set_option Elab.async false
set_option maxRecDepth 100000
set_option maxHeartbeats 1000000
namespace Mine
open PyProof.Rows.LCg (lst NsObj ns_obj lst_snoc fr_but news_but)
/-- a list of refs to lists of ints that the ledger holds -/
noncomputable def ListIn (nw : List (Addr × Obj)) (v : Value) (l : List Int) : Prop := ∃ a o ws k, v = .ref a ∧ (a, o) ∈ nw ∧ o.cls = .type "list" ∧ o.data = .seq (List.toArray ws) k ∧ IntsAre ws l
inductive ListsIn (nw : List (Addr × Obj)) : List Value → List (List Int) → Prop
  | nil : ListsIn nw [] []
  | cons {v l vs ls} : ListIn nw v l → ListsIn nw vs ls → ListsIn nw (v :: vs) (l :: ls)
theorem ListsIn.length {nw : List (Addr × Obj)} {vs : List Value} {ls : List (List Int)} (H : ListsIn nw vs ls) : vs.length = ls.length := by
  induction H with
  | nil => rfl
  | cons _ _ ih => exact congrArg (· + 1) ih
theorem ListsIn.at {nw : List (Addr × Obj)} {vs : List Value} {ls : List (List Int)} (H : ListsIn nw vs ls) : ∀ {i : Nat} {v}, vs[i]? = some v → ∃ l, ls[i]? = some l ∧ ListIn nw v l := by
  induction H with
  | nil => intro i v h; simp at h
  | cons c _ ih =>
    intro i v h
    cases i with
    | zero => cases h; exact ⟨_, rfl, c⟩
    | succ i => exact ih h
theorem ListsIn.mono {nw nw' : List (Addr × Obj)} (h : ∀ p ∈ nw, p ∈ nw') {vs : List Value} {ls : List (List Int)} (H : ListsIn nw vs ls) : ListsIn nw' vs ls := by
  induction H with
  | nil => exact .nil
  | cons c _ ih =>
    obtain ⟨a, o, ws, k, e, hm, r⟩ := c
    exact .cons ⟨a, o, ws, k, e, h _ hm, r⟩ ih
theorem ListsIn.append {nw : List (Addr × Obj)} {vs ws : List Value} {ls ms : List (List Int)} (H : ListsIn nw vs ls) (h : ListsIn nw ws ms) : ListsIn nw (vs ++ ws) (ls ++ ms) := by
  induction H with
  | nil => exact h
  | cons a _ ih => exact .cons a ih
section
variable {prog : Program} {w : World} {A : Around} {E : Value → Shared → Prop} {R : Result → Shared → Prop} {s : Shared} {h₀ : Heap} {L : Addr} {m : Str → Option Value} {env : Env} {news : List (Addr × Obj)}
theorem turn_two1 (elt t1 i1 : Expr) (y : Str) (py : Pos) (iter : Expr) (scope : Scope) (pos : Pos) (it acc : Value) (env : Env) :
    compTurn (.ListComp elt [⟨t1, i1, [], 0⟩, ⟨.Name y py, iter, [], 0⟩] scope pos) 1 it acc env = (standAt iter.pos >>= fun _ => pyNext it >>= fun r => match r with
      | none => pure (.done .next)
      | some v => letOwnedTupleGo (.Name y py) it v >>= fun _ => assign (.Name y py) env v >>= fun _ =>
        (eval elt env >>= fun x => call (.builtin "list.append") [acc, x] >>= fun _ => pure ()) >>= fun _ =>
          again (.compLoop (.ListComp elt [⟨t1, i1, [], 0⟩, ⟨.Name y py, iter, [], 0⟩] scope pos) 1 it acc env)) := by rfl
theorem turn_two0 (elt : Expr) (x : Str) (px : Pos) (i1 t2 iter : Expr) (scope : Scope) (pos : Pos) (it acc : Value) (env : Env) :
    compTurn (.ListComp elt [⟨.Name x px, i1, [], 0⟩, ⟨t2, iter, [], 0⟩] scope pos) 0 it acc env = (standAt i1.pos >>= fun _ => pyNext it >>= fun r => match r with
      | none => pure (.done .next)
      | some v => letOwnedTupleGo (.Name x px) it v >>= fun _ => assign (.Name x px) env v >>= fun _ =>
        (eval iter env >>= fun z => standAt iter.pos >>= fun _ => foldedSetIterable iter env z >>= fun z => holding [z] (pyIter z) >>= fun it2 =>
          runOwn (.compStart (.ListComp elt [⟨.Name x px, i1, [], 0⟩, ⟨t2, iter, [], 0⟩] scope pos) 1 it2 acc env) env >>= fun _ =>
          again (.compLoop (.ListComp elt [⟨.Name x px, i1, [], 0⟩, ⟨t2, iter, [], 0⟩] scope pos) 0 it acc env))) := by rfl
theorem start_two {elt target iter t2 i2 scope pos it acc env}
    (h0 : codeAny (model prog w) A (.compLoop (.ListComp elt [⟨target, iter, [], 0⟩, ⟨t2, i2, [], 0⟩] scope pos) 1 it acc env) R s)
    (h : wpAny (model prog w) A (pyIter it) (fun it' s' => codeAny (model prog w) A (.compLoop (.ListComp elt [⟨target, iter, [], 0⟩, ⟨t2, i2, [], 0⟩] scope pos) 1 it' acc env) R s')
      (notedBy (model prog w) A env fun x s' => R (.error x) s') s) :
    codeAny (model prog w) A (.compStart (.ListComp elt [⟨target, iter, [], 0⟩, ⟨t2, i2, [], 0⟩] scope pos) 1 it acc env) R s := by
  refine codeAny_of_tree ?_
  show wpAny _ _ ((compStart (.ListComp elt [⟨target, iter, [], 0⟩, ⟨t2, i2, [], 0⟩] scope pos) 1 it acc env).onRaise (fun x => do noteFrame x env; standAt theWindowsPlace)) _ _ s
  refine wpAny_notedAt ?_
  unfold compStart
  show wpAny _ _ (ask >>= _) _ _ s
  refine wpAny_bind (wpAny_askSetting (wpAny_ite ?_))
  split
  · first
      | exact wpAny_bind (wpAny_pure (wpAny_pure (And.intro rfl h0)))
      | exact wpAny_pure (And.intro rfl h0)
  · first
      | exact wpAny_bind (wpAny_rule (wpAny_bind (wpAny_standAt (wpAny_bind (wpAny_mono h (fun it' s' h' => wpAny_pure (And.intro rfl h')) fun _ _ x => x)))))
      | (refine wpAny_bind (wpAny_rule ?_); show wpAny _ _ (standAt i2.pos >>= _) _ _ s; exact wpAny_bind (wpAny_standAt (wpAny_bind (wpAny_mono h (fun it' s' h' => wpAny_pure (And.intro rfl h')) fun _ _ x => x))))

end
section
noncomputable def P_flat_inner (prog : Program) (w : World) (A : Around) (R : Result → Shared → Prop) (s : Shared) (env : Env) (t1 : Expr) (i1 : Expr) (iter : Expr) (y : Str) (py : Pos) (py2 : Pos) (scope : Scope) (cl : List (Str × Addr)) (pos : Pos) (I : Addr) (a : Addr) (C : Addr) (D : Addr) (ws : List Value) (ys₀ : List Value) (m' : Str → Option Value) : Prop := ∀ (hh : A.handled = none) (hkind : scope.kind = .function) (hy : scope.names.lookup y = some .local) (hyd : (y == ("__debug__" : Str)) = false) (hIC : I ≠ C) (hID : I ≠ D) (haC : a ≠ C) (haD : a ≠ D) (haI : a ≠ I) (hCD : C ≠ D) (hit : s.heap.IsListIter I a 0) (hl : s.heap.IsList a ws.toArray) (hn : s.heap.Ns C m') (hD : s.heap.get? D = some (lst ys₀)) (hsz : ys₀.length + ws.length ≤ sizeLine) (fin : ∀ h tk m'', h.Ns C m'' → h.get? D = some (lst (ys₀ ++ ws)) → (∀ b o, b ≠ I → b ≠ C → b ≠ D → s.heap.get? b = some o → h.get? b = some o) → R (.ok .next) { s with heap := h, toks := tk }),
    codeAny (model prog w) A (.compLoop (.ListComp (.Name y py2) [⟨t1, i1, [], 0⟩, ⟨.Name y py, iter, [], 0⟩] scope pos) 1 (.ref I) (.ref D) (compEnvC scope cl C env)) R s
noncomputable def c_flat_inner := @Classical.epsilon ((Program) × (World) × (Around) × (Result → Shared → Prop) × (Shared) × (Env) × (Expr) × (Expr) × (Expr) × (Str) × (Pos) × (Pos) × (Scope) × (List (Str × Addr)) × (Pos) × (Addr) × (Addr) × (Addr) × (Addr) × (List Value) × (List Value) × (Str → Option Value)) ⟨(default, wDef, callerA, fun _ _ => True, (PySem.start default).1, default, default, default, default, default, default, default, default, [], default, 0, 0, 0, 0, [], [], fun _ => none)⟩ fun v => ¬ P_flat_inner v.1 v.2.1 v.2.2.1 v.2.2.2.1 v.2.2.2.2.1 v.2.2.2.2.2.1 v.2.2.2.2.2.2.1 v.2.2.2.2.2.2.2.1 v.2.2.2.2.2.2.2.2.1 v.2.2.2.2.2.2.2.2.2.1 v.2.2.2.2.2.2.2.2.2.2.1 v.2.2.2.2.2.2.2.2.2.2.2.1 v.2.2.2.2.2.2.2.2.2.2.2.2.1 v.2.2.2.2.2.2.2.2.2.2.2.2.2.1 v.2.2.2.2.2.2.2.2.2.2.2.2.2.2.1 v.2.2.2.2.2.2.2.2.2.2.2.2.2.2.2.1 v.2.2.2.2.2.2.2.2.2.2.2.2.2.2.2.2.1 v.2.2.2.2.2.2.2.2.2.2.2.2.2.2.2.2.2.1 v.2.2.2.2.2.2.2.2.2.2.2.2.2.2.2.2.2.2.1 v.2.2.2.2.2.2.2.2.2.2.2.2.2.2.2.2.2.2.2.1 v.2.2.2.2.2.2.2.2.2.2.2.2.2.2.2.2.2.2.2.2.1 v.2.2.2.2.2.2.2.2.2.2.2.2.2.2.2.2.2.2.2.2.2
namespace K_flat_inner
@[irreducible] noncomputable def prog : Program := c_flat_inner.1
@[irreducible] noncomputable def w : World := c_flat_inner.2.1
@[irreducible] noncomputable def A : Around := c_flat_inner.2.2.1
@[irreducible] noncomputable def R : Result → Shared → Prop := c_flat_inner.2.2.2.1
@[irreducible] noncomputable def s : Shared := c_flat_inner.2.2.2.2.1
@[irreducible] noncomputable def env : Env := c_flat_inner.2.2.2.2.2.1
@[irreducible] noncomputable def t1 : Expr := c_flat_inner.2.2.2.2.2.2.1
@[irreducible] noncomputable def i1 : Expr := c_flat_inner.2.2.2.2.2.2.2.1
@[irreducible] noncomputable def iter : Expr := c_flat_inner.2.2.2.2.2.2.2.2.1
@[irreducible] noncomputable def y : Str := c_flat_inner.2.2.2.2.2.2.2.2.2.1
@[irreducible] noncomputable def py : Pos := c_flat_inner.2.2.2.2.2.2.2.2.2.2.1
@[irreducible] noncomputable def py2 : Pos := c_flat_inner.2.2.2.2.2.2.2.2.2.2.2.1
@[irreducible] noncomputable def scope : Scope := c_flat_inner.2.2.2.2.2.2.2.2.2.2.2.2.1
@[irreducible] noncomputable def cl : List (Str × Addr) := c_flat_inner.2.2.2.2.2.2.2.2.2.2.2.2.2.1
@[irreducible] noncomputable def pos : Pos := c_flat_inner.2.2.2.2.2.2.2.2.2.2.2.2.2.2.1
@[irreducible] noncomputable def I : Nat := c_flat_inner.2.2.2.2.2.2.2.2.2.2.2.2.2.2.2.1
@[irreducible] noncomputable def a : Nat := c_flat_inner.2.2.2.2.2.2.2.2.2.2.2.2.2.2.2.2.1
@[irreducible] noncomputable def C : Nat := c_flat_inner.2.2.2.2.2.2.2.2.2.2.2.2.2.2.2.2.2.1
@[irreducible] noncomputable def D : Nat := c_flat_inner.2.2.2.2.2.2.2.2.2.2.2.2.2.2.2.2.2.2.1
@[irreducible] noncomputable def ws : List Value := c_flat_inner.2.2.2.2.2.2.2.2.2.2.2.2.2.2.2.2.2.2.2.1
@[irreducible] noncomputable def ys₀ : List Value := c_flat_inner.2.2.2.2.2.2.2.2.2.2.2.2.2.2.2.2.2.2.2.2.1
@[irreducible] noncomputable def m' : Str → Option Value := c_flat_inner.2.2.2.2.2.2.2.2.2.2.2.2.2.2.2.2.2.2.2.2.2
theorem core : P_flat_inner prog w A R s env t1 i1 iter y py py2 scope cl pos I a C D ws ys₀ m' := by
  unfold P_flat_inner
  intro hh hkind hy hyd hIC hID haC haD haI hCD hit hl hn hD hsz fin
  have W := Walks.list (prog := prog) (w := w) hh I a haI ws.toArray
  refine codeAny_loop rfl (fun k s' => ∃ h tk j m'', s' = { s with heap := h, toks := tk } ∧ j ≤ ws.length ∧ k = ws.length + 1 - j ∧ (h.IsListIter I a j ∧ h.IsList a ws.toArray) ∧ h.Ns C m'' ∧ h.get? D = some (lst (ys₀ ++ ws.take j)) ∧
    (∀ b o, b ≠ I → b ≠ C → b ≠ D → s.heap.get? b = some o → h.get? b = some o)) ?_ (ws.length + 1) ⟨s.heap, s.toks, 0, m', rfl, Nat.zero_le _, rfl, ⟨hit, hl⟩, hn, by simpa using hD, fun b o _ _ _ e => e⟩
  rintro k s' ⟨h, tk, j, m'', rfl, hj, rfl, hst, hn', hD', hk⟩
  show wpAny _ A ((compTurn (.ListComp (.Name y py2) [⟨t1, i1, [], 0⟩, ⟨.Name y py, iter, [], 0⟩] scope pos) 1 (.ref I) (.ref D) (compEnvC scope cl C env)).onRaise (fun x => do noteFrame x (compEnvC scope cl C env); theTreesLotGoes x)) _ _ _
  refine wpAny_noted ?_
  rw [turn_two1]
  refine wpAny_bind (wpAny_standAt (wpAny_bind ?_))
  by_cases hlt : j < ws.length
  · refine W.item j _ _ _ (by simpa using hlt) hst fun v h₂ tk₂ hPv hst₂ hk₂ => ?_
    dsimp only
    refine wpAny_bind (wpAny_of_eq (a := ()) rfl ?_)
    have hnC : h₂.Ns C m'' := hn'.at' fun o e => hk₂ _ o (by simpa using Ne.symm hIC) e
    have hD₂ : h₂.get? D = some (lst (ys₀ ++ ws.take j)) := hk₂ _ _ (by simpa using Ne.symm hID) hD'
    refine wpAny_bind (wpAny_assign_Name (wpAny_storeName_local (lookup_relabel_local hy) hnC (fun h₃ hn₃ hs₃ => ?_) (by simp [compEnvC, relabel, hkind])))
    refine wpAny_bind (wpAny_bind (wpAny_Name (wpAny_loadName_local (by simp [compEnvC, relabel, hkind]) (lookup_relabel_local hy) hn₃ (by rw [if_pos rfl]) ?_) hyd))
    have hD₃ : h₃.get? D = some (lst (ys₀ ++ ws.take j)) := hs₃.extBut _ _ (Ne.symm hCD) hD₂
    refine wpAny_bind (append_at (hsz := by rw [List.size_toArray, List.length_append, List.length_take]; omega) hD₃ fun h₄ hs₄ hD₄ => ?_)
    refine wpAny_pure (wpAny_pure ⟨rfl, _, (ar_step hlt : ws.length + 1 - (j + 1) < ws.length + 1 - j), h₄, _, j + 1, _, rfl, hlt, rfl, ?_, hn₃.sameBut hs₄ hCD, ?_, ?_⟩)
    · refine W.frame _ h₂ _ hst₂ fun b hb o e => ?_
      have hbC : b ≠ C := by
        rcases List.mem_cons.mp hb with rfl | hb
        · exact hIC
        · rw [List.mem_singleton.mp hb]; exact haC
      have hbD : b ≠ D := by
        rcases List.mem_cons.mp hb with rfl | hb
        · exact hID
        · rw [List.mem_singleton.mp hb]; exact haD
      exact hs₄.extBut _ _ hbD (hs₃.extBut _ _ hbC e)
    · have hv : ws[j]? = some v := by simpa using hPv
      rw [hD₄, lst_snoc, List.take_add_one, hv]
      simp
    · intro b o h1 h2 h3 e
      exact hs₄.extBut _ _ h3 (hs₃.extBut _ _ h2 (hk₂ _ _ (by simpa using h1) (hk b o h1 h2 h3 e)))
  · obtain rfl : j = ws.length := by omega
    refine W.done _ _ _ (by simpa using hst) fun h₂ tk₂ hk₂ => ?_
    refine wpAny_pure (fin h₂ tk₂ m'' (hn'.at' fun o e => hk₂ _ o (by simpa using Ne.symm hIC) e) ?_ fun b o h1 h2 h3 e => hk₂ _ _ (by simpa using h1) (hk b o h1 h2 h3 e))
    have := hk₂ _ _ (by simpa using Ne.symm hID) hD'
    rwa [List.take_length] at this
end K_flat_inner
theorem flat_inner {prog : Program} {w : World} {A : Around} {R : Result → Shared → Prop} {s : Shared} {env : Env} {t1 i1 iter : Expr} {y : Str} {py py2 : Pos} {scope : Scope} {cl : List (Str × Addr)} {pos : Pos} {I a C D : Addr} {ws ys₀ : List Value} {m' : Str → Option Value} (hh : A.handled = none) (hkind : scope.kind = .function) (hy : scope.names.lookup y = some .local) (hyd : (y == ("__debug__" : Str)) = false) (hIC : I ≠ C) (hID : I ≠ D) (haC : a ≠ C) (haD : a ≠ D) (haI : a ≠ I) (hCD : C ≠ D) (hit : s.heap.IsListIter I a 0) (hl : s.heap.IsList a ws.toArray) (hn : s.heap.Ns C m') (hD : s.heap.get? D = some (lst ys₀)) (hsz : ys₀.length + ws.length ≤ sizeLine) (fin : ∀ h tk m'', h.Ns C m'' → h.get? D = some (lst (ys₀ ++ ws)) → (∀ b o, b ≠ I → b ≠ C → b ≠ D → s.heap.get? b = some o → h.get? b = some o) → R (.ok .next) { s with heap := h, toks := tk }) :
    codeAny (model prog w) A (.compLoop (.ListComp (.Name y py2) [⟨t1, i1, [], 0⟩, ⟨.Name y py, iter, [], 0⟩] scope pos) 1 (.ref I) (.ref D) (compEnvC scope cl C env)) R s :=
  eps_all (P := fun v => P_flat_inner v.1 v.2.1 v.2.2.1 v.2.2.2.1 v.2.2.2.2.1 v.2.2.2.2.2.1 v.2.2.2.2.2.2.1 v.2.2.2.2.2.2.2.1 v.2.2.2.2.2.2.2.2.1 v.2.2.2.2.2.2.2.2.2.1 v.2.2.2.2.2.2.2.2.2.2.1 v.2.2.2.2.2.2.2.2.2.2.2.1 v.2.2.2.2.2.2.2.2.2.2.2.2.1 v.2.2.2.2.2.2.2.2.2.2.2.2.2.1 v.2.2.2.2.2.2.2.2.2.2.2.2.2.2.1 v.2.2.2.2.2.2.2.2.2.2.2.2.2.2.2.1 v.2.2.2.2.2.2.2.2.2.2.2.2.2.2.2.2.1 v.2.2.2.2.2.2.2.2.2.2.2.2.2.2.2.2.2.1 v.2.2.2.2.2.2.2.2.2.2.2.2.2.2.2.2.2.2.1 v.2.2.2.2.2.2.2.2.2.2.2.2.2.2.2.2.2.2.2.1 v.2.2.2.2.2.2.2.2.2.2.2.2.2.2.2.2.2.2.2.2.1 v.2.2.2.2.2.2.2.2.2.2.2.2.2.2.2.2.2.2.2.2.2) (by with_unfolding_all exact K_flat_inner.core) (prog, w, A, R, s, env, t1, i1, iter, y, py, py2, scope, cl, pos, I, a, C, D, ws, ys₀, m') hh hkind hy hyd hIC hID haC haD haI hCD hit hl hn hD hsz fin
end
section
noncomputable def P_flat_block (prog : Program) (w : World) (A : Around) (E : Value → Shared → Prop) (h₀ : Heap) (L : Addr) (m : Str → Option Value) (env : Env) (news : List (Addr × Obj)) (iter : Expr) (x : Str) (y : Str) (px : Pos) (px2 : Pos) (py : Pos) (py2 : Pos) (scope : Scope) (cl : List (Str × Addr)) (pos : Pos) (s₂ : Shared) (I : Addr) (ax : Addr) (vs : List Value) (ls : List (List Int)) (o : Obj) (k : Nat) (RR : Value → Addr → Result → Shared → Prop) : Prop := ∀ (hh : A.handled = none) (hcell : ∀ y ∈ scope.names, y.2 ≠ .cell) (hkind : scope.kind = .function) (hx : scope.names.lookup x = some .local) (hy : scope.names.lookup y = some .local) (hxd : (x == ("__debug__" : Str)) = false) (hyd : (y == ("__debug__" : Str)) = false) (hit : s₂.heap.IsListIter I ax 0) (F : Fr h₀ L s₂.heap m) (N : News h₀ L s₂.heap news) (hIL : L ≠ I) (hI₀ : h₀.get? I = none) (off : ∀ p ∈ news, p.1 ≠ I) (hax : (ax, o) ∈ news) (hoc : o.cls = .type "list") (hod : o.data = .seq vs.toArray k) (hL : ListsIn news vs ls) (hfl : ls.flatten.length ≤ 1000) (hs2 : ∀ env z, foldedSetIterable (.Name x px2) env z = pure z) (hRR : ∀ D C h tk m' ys, Fr h₀ L h m → News h₀ L h ((D, lst ys) :: news) → (∀ p ∈ news, p.1 ≠ D) → h.Ns C m' → h₀.get? C = none → h₀.get? D = none → C ≠ L → D ≠ L → C ≠ D → (∀ p ∈ news, p.1 ≠ C) → IntsAre ys ls.flatten → RR (.ref D) C (.ok .next) { s₂ with heap := h, toks := tk }),
    wpAny (model prog w) A (newList []) (fun acc s₃ => wpAny (model prog w) A (newFunctionEnv scope env.globals cl [] env.qual none .none (some env)) (fun cenv s₄ =>
      codeAny (model prog w) A (.compStart (.ListComp (.Name y py2) [⟨.Name x px, iter, [], 0⟩, ⟨.Name y py, .Name x px2, [], 0⟩] scope pos) 0 (.ref I) acc { cenv with scope := relabel scope env }) (RR acc cenv.locals) s₄) E s₃) E s₂
noncomputable def c_flat_block := @Classical.epsilon ((Program) × (World) × (Around) × (Value → Shared → Prop) × (Heap) × (Addr) × (Str → Option Value) × (Env) × (List (Addr × Obj)) × (Expr) × (Str) × (Str) × (Pos) × (Pos) × (Pos) × (Pos) × (Scope) × (List (Str × Addr)) × (Pos) × (Shared) × (Addr) × (Addr) × (List Value) × (List (List Int)) × (Obj) × (Nat) × (Value → Addr → Result → Shared → Prop)) ⟨(default, wDef, callerA, fun _ _ => True, default, 0, fun _ => none, default, [], default, default, default, default, default, default, default, default, [], default, (PySem.start default).1, 0, 0, [], [], default, 0, fun _ _ _ _ => True)⟩ fun v => ¬ P_flat_block v.1 v.2.1 v.2.2.1 v.2.2.2.1 v.2.2.2.2.1 v.2.2.2.2.2.1 v.2.2.2.2.2.2.1 v.2.2.2.2.2.2.2.1 v.2.2.2.2.2.2.2.2.1 v.2.2.2.2.2.2.2.2.2.1 v.2.2.2.2.2.2.2.2.2.2.1 v.2.2.2.2.2.2.2.2.2.2.2.1 v.2.2.2.2.2.2.2.2.2.2.2.2.1 v.2.2.2.2.2.2.2.2.2.2.2.2.2.1 v.2.2.2.2.2.2.2.2.2.2.2.2.2.2.1 v.2.2.2.2.2.2.2.2.2.2.2.2.2.2.2.1 v.2.2.2.2.2.2.2.2.2.2.2.2.2.2.2.2.1 v.2.2.2.2.2.2.2.2.2.2.2.2.2.2.2.2.2.1 v.2.2.2.2.2.2.2.2.2.2.2.2.2.2.2.2.2.2.1 v.2.2.2.2.2.2.2.2.2.2.2.2.2.2.2.2.2.2.2.1 v.2.2.2.2.2.2.2.2.2.2.2.2.2.2.2.2.2.2.2.2.1 v.2.2.2.2.2.2.2.2.2.2.2.2.2.2.2.2.2.2.2.2.2.1 v.2.2.2.2.2.2.2.2.2.2.2.2.2.2.2.2.2.2.2.2.2.2.1 v.2.2.2.2.2.2.2.2.2.2.2.2.2.2.2.2.2.2.2.2.2.2.2.1 v.2.2.2.2.2.2.2.2.2.2.2.2.2.2.2.2.2.2.2.2.2.2.2.2.1 v.2.2.2.2.2.2.2.2.2.2.2.2.2.2.2.2.2.2.2.2.2.2.2.2.2.1 v.2.2.2.2.2.2.2.2.2.2.2.2.2.2.2.2.2.2.2.2.2.2.2.2.2.2
namespace K_flat_block
@[irreducible] noncomputable def prog : Program := c_flat_block.1
@[irreducible] noncomputable def w : World := c_flat_block.2.1
@[irreducible] noncomputable def A : Around := c_flat_block.2.2.1
@[irreducible] noncomputable def E : Value → Shared → Prop := c_flat_block.2.2.2.1
@[irreducible] noncomputable def h₀ : Heap := c_flat_block.2.2.2.2.1
@[irreducible] noncomputable def L : Nat := c_flat_block.2.2.2.2.2.1
@[irreducible] noncomputable def m : Str → Option Value := c_flat_block.2.2.2.2.2.2.1
@[irreducible] noncomputable def env : Env := c_flat_block.2.2.2.2.2.2.2.1
@[irreducible] noncomputable def news : List (Addr × Obj) := c_flat_block.2.2.2.2.2.2.2.2.1
@[irreducible] noncomputable def iter : Expr := c_flat_block.2.2.2.2.2.2.2.2.2.1
@[irreducible] noncomputable def x : Str := c_flat_block.2.2.2.2.2.2.2.2.2.2.1
@[irreducible] noncomputable def y : Str := c_flat_block.2.2.2.2.2.2.2.2.2.2.2.1
@[irreducible] noncomputable def px : Pos := c_flat_block.2.2.2.2.2.2.2.2.2.2.2.2.1
@[irreducible] noncomputable def px2 : Pos := c_flat_block.2.2.2.2.2.2.2.2.2.2.2.2.2.1
@[irreducible] noncomputable def py : Pos := c_flat_block.2.2.2.2.2.2.2.2.2.2.2.2.2.2.1
@[irreducible] noncomputable def py2 : Pos := c_flat_block.2.2.2.2.2.2.2.2.2.2.2.2.2.2.2.1
@[irreducible] noncomputable def scope : Scope := c_flat_block.2.2.2.2.2.2.2.2.2.2.2.2.2.2.2.2.1
@[irreducible] noncomputable def cl : List (Str × Addr) := c_flat_block.2.2.2.2.2.2.2.2.2.2.2.2.2.2.2.2.2.1
@[irreducible] noncomputable def pos : Pos := c_flat_block.2.2.2.2.2.2.2.2.2.2.2.2.2.2.2.2.2.2.1
@[irreducible] noncomputable def s₂ : Shared := c_flat_block.2.2.2.2.2.2.2.2.2.2.2.2.2.2.2.2.2.2.2.1
@[irreducible] noncomputable def I : Nat := c_flat_block.2.2.2.2.2.2.2.2.2.2.2.2.2.2.2.2.2.2.2.2.1
@[irreducible] noncomputable def ax : Nat := c_flat_block.2.2.2.2.2.2.2.2.2.2.2.2.2.2.2.2.2.2.2.2.2.1
@[irreducible] noncomputable def vs : List Value := c_flat_block.2.2.2.2.2.2.2.2.2.2.2.2.2.2.2.2.2.2.2.2.2.2.1
@[irreducible] noncomputable def ls : List (List Int) := c_flat_block.2.2.2.2.2.2.2.2.2.2.2.2.2.2.2.2.2.2.2.2.2.2.2.1
@[irreducible] noncomputable def o : Obj := c_flat_block.2.2.2.2.2.2.2.2.2.2.2.2.2.2.2.2.2.2.2.2.2.2.2.2.1
@[irreducible] noncomputable def k : Nat := c_flat_block.2.2.2.2.2.2.2.2.2.2.2.2.2.2.2.2.2.2.2.2.2.2.2.2.2.1
@[irreducible] noncomputable def RR : Value → Addr → Result → Shared → Prop := c_flat_block.2.2.2.2.2.2.2.2.2.2.2.2.2.2.2.2.2.2.2.2.2.2.2.2.2.2
theorem core : P_flat_block prog w A E h₀ L m env news iter x y px px2 py py2 scope cl pos s₂ I ax vs ls o k RR := by
  unfold P_flat_block
  intro hh hcell hkind hx hy hxd hyd hit F N hIL hI₀ off hax hoc hod hL hfl hs2 hRR
  have W := Walks.list (prog := prog) (w := w) hh I ax (off _ hax) vs.toArray
  have hIo : ∃ oI, s₂.heap.get? I = some oI := by obtain ⟨o, e, _⟩ := hit; exact ⟨o, e⟩
  have hIlt : I < s₂.heap.objs.size := by obtain ⟨o, e⟩ := hIo; exact Heap.lt_size e
  refine wpAny_newObj_type (wpAny_newFunctionEnv hcell (by intro y hy; simp at hy) (fun h₁ hns₁ hsb₁ => ?_) hkind)
  dsimp only at hns₁ hsb₁ ⊢
  generalize hH2 : s₂.heap.push { cls := .type "list", dict := none, data := .seq ([] : List Value).toArray } = H2 at hns₁ hsb₁ ⊢
  have hC : H2.objs.size = s₂.heap.objs.size + 1 := by rw [← hH2, Heap.size_push]
  have hDC : s₂.heap.objs.size ≠ H2.objs.size := by rw [hC]; exact Nat.ne_of_lt (Nat.lt_succ_self _)
  have below : ∀ b, b < s₂.heap.objs.size → b ≠ H2.objs.size ∧ b ≠ s₂.heap.objs.size := fun b hb => ⟨by rw [hC]; exact Nat.ne_of_lt (Nat.lt_succ_of_lt hb), Nat.ne_of_lt hb⟩
  have old : ∀ b o, s₂.heap.get? b = some o → h₁.get? b = some o := fun b o e => hsb₁.extBut b o (below b (Heap.lt_size e)).1 (Heap.get?_push_of_some _ (hH2 ▸ Heap.get?_push_of_some _ e))
  have hacc : h₁.get? s₂.heap.objs.size = some (lst []) := hsb₁.extBut _ _ hDC (Heap.get?_push_of_some _ (hH2 ▸ Heap.get?_push_size _ rfl))
  have fresh : ∀ a, s₂.heap.objs.size ≤ a → s₂.heap.get? a = none := fun a ha => by
    cases e : s₂.heap.get? a with
    | none => rfl
    | some o' => exact absurd (Heap.lt_size e) (Nat.not_lt.mpr ha)
  have fresh₀ : ∀ a, s₂.heap.objs.size ≤ a → h₀.get? a = none := fun a ha => by
    cases e : h₀.get? a with
    | none => rfl
    | some o' => have := F.keep a o' e; rw [fresh a ha] at this; cases this
  have hD₀ : h₀.get? s₂.heap.objs.size = none := fresh₀ _ (Nat.le_refl _)
  have hC₀ : h₀.get? H2.objs.size = none := fresh₀ _ (by rw [hC]; exact Nat.le_succ _)
  have hLlt : L < s₂.heap.objs.size := F.ns.lt
  have hDL : s₂.heap.objs.size ≠ L := Ne.symm (below L hLlt).2
  have hCL : H2.objs.size ≠ L := Ne.symm (below L hLlt).1
  have hCI : I ≠ H2.objs.size := (below I hIlt).1
  have hDI : I ≠ s₂.heap.objs.size := (below I hIlt).2
  have offC : ∀ p ∈ news, p.1 ≠ H2.objs.size := fun p hp => (below _ (Heap.lt_size (N p hp).1)).1
  have offD : ∀ p ∈ news, p.1 ≠ s₂.heap.objs.size := fun p hp => (below _ (Heap.lt_size (N p hp).1)).2
  have F₁ : Fr h₀ L h₁ m := F.keeps old
  have N₁ : News h₀ L h₁ news := fun p hp => ⟨old _ _ (N p hp).1, (N p hp).2⟩
  have hit₁ : h₁.IsListIter I ax 0 := hit.at fun o e => old _ _ e
  generalize hDe : s₂.heap.objs.size = D at *
  generalize hCe : H2.objs.size = C at *
  have hnC : h₁.Ns C (fun _ => none) := by simpa using hns₁
  have loop : ∀ s₃ : Shared, s₃ = { s₂ with heap := h₁, toks := s₂.toks + ([] : List (Str × Value)).length } →
      codeAny (model prog w) A (.compLoop (.ListComp (.Name y py2) [⟨.Name x px, iter, [], 0⟩, ⟨.Name y py, .Name x px2, [], 0⟩] scope pos) 0 (.ref I) (.ref D) (compEnvC scope cl C env))
        (RR (.ref D) C) s₃ := by
    rintro s₃ rfl
    refine codeAny_loop rfl
      (fun k s' => ∃ h' tk i ys m', s' = { s₂ with heap := h', toks := tk } ∧ i ≤ vs.length ∧ k = vs.length + 1 - i ∧ h'.IsListIter I ax i ∧ Fr h₀ L h' m ∧ h'.Ns C m' ∧ News h₀ L h' news ∧ h'.get? D = some (lst ys) ∧ IntsAre ys (ls.take i).flatten) ?_ (vs.length + 1)
      ⟨h₁, _, 0, [], _, rfl, Nat.zero_le _, rfl, hit₁, F₁, hnC, N₁, hacc, .nil⟩
    rintro k' s' ⟨h', tk, i, ys, m', rfl, hi, rfl, hst', F', hn', N', hD', hys⟩
    show wpAny _ A ((compTurn (.ListComp (.Name y py2) [⟨.Name x px, iter, [], 0⟩, ⟨.Name y py, .Name x px2, [], 0⟩] scope pos) 0 (.ref I) (.ref D) (compEnvC scope cl C env)).onRaise (fun x => do noteFrame x (compEnvC scope cl C env); theTreesLotGoes x)) _ _ _
    refine wpAny_noted ?_
    rw [turn_two0]
    refine wpAny_bind (wpAny_standAt (wpAny_bind ?_))
    have hlax : h'.IsList ax vs.toArray := ⟨_, (N' _ hax).1, hoc, _, hod⟩
    by_cases hlt : i < vs.length
    · refine W.item i _ _ _ (by simpa using hlt) ⟨hst', hlax⟩ fun v h₂ tk₂ hPv hst₂ hk₂ => ?_
      dsimp only
      refine wpAny_bind (wpAny_of_eq (a := ()) rfl ?_)
      obtain ⟨l, hli, a, oa, ws, ka, rfl, haa, hac, had, hwl⟩ := ListsIn.at hL (i := i) (by simpa using hPv)
      refine wpAny_bind (wpAny_assign_Name (wpAny_storeName_local (lookup_relabel_local hx) (hn'.at' fun o e => hk₂ _ o (by simpa using Ne.symm hCI) e) (fun h₃ hn₃ hs₃ => ?_) (by simp [compEnvC, relabel, hkind])))
      have F₃ : Fr h₀ L h₃ m := (fr_but F' hk₂ hIL hI₀).change hs₃ hCL hC₀
      have N₂ : News h₀ L h₂ news := news_but N' hk₂ off
      have N₃ : News h₀ L h₃ news := fun p hp => ⟨hs₃.extBut _ _ (offC p hp) (N₂ p hp).1, (N₂ p hp).2⟩
      have hD₃ : h₃.get? D = some (lst ys) := hs₃.extBut _ _ hDC (hk₂ _ _ (by simpa using Ne.symm hDI) hD')
      have hit₃ : h₃.IsListIter I ax (i + 1) := hst₂.1.at fun o e => hs₃.extBut _ _ hCI e
      refine wpAny_bind (wpAny_Name (wpAny_loadName_local (by simp [compEnvC, relabel, hkind]) (lookup_relabel_local hx) hn₃ (by rw [if_pos rfl]) ?_) hxd)
      refine wpAny_bind (wpAny_standAt ?_)
      rw [hs2]
      refine wpAny_bind (wpAny_pure ?_)
      have hla : h₃.IsList a ws.toArray := ⟨_, (N₃ _ haa).1, hac, _, had⟩
      refine wpAny_bind (wpAny_holding (wpAny_pyIter_list hla ?_))
      dsimp only
      generalize hH4 : h₃.push { cls := .type "list_iterator", data := .fields #[.ref a, .int 0 0] } = h₄
      have up : ∀ b o, h₃.get? b = some o → h₄.get? b = some o := fun b o e => hH4 ▸ Heap.get?_push_of_some _ e
      have hit4 : h₄.IsListIter h₃.objs.size a 0 := hH4 ▸ ⟨_, Heap.get?_push_size _ rfl, rfl, rfl⟩
      have ne2 : ∀ b o, h₃.get? b = some o → b ≠ h₃.objs.size := fun b o e => Nat.ne_of_lt (Heap.lt_size e)
      obtain ⟨oC, heC, hoC⟩ := ns_obj hn₃
      obtain ⟨oI, heI⟩ : ∃ oI, h₃.get? I = some oI := by obtain ⟨o, e, _⟩ := hit₃; exact ⟨o, e⟩
      obtain ⟨oL, heL⟩ : ∃ oL, h₃.get? L = some oL := by obtain ⟨o, _, _, e, _⟩ := F₃.ns; exact ⟨o, e⟩
      have n2C := ne2 _ _ heC
      have n2D := ne2 _ _ hD₃
      have n2I := ne2 _ _ heI
      have n2a := ne2 _ _ (N₃ _ haa).1
      have n2L := ne2 _ _ heL
      have F₄ : Fr h₀ L h₄ m := F₃.keeps up
      have N₄ : News h₀ L h₄ news := N₃.grown up
      have hy₂ : ys.length + ws.length ≤ sizeLine := by
        rw [sizeLine_eq, hys.length, hwl.length]
        have e1 : ls.flatten.length = (ls.take (i + 1)).flatten.length + (ls.drop (i + 1)).flatten.length := by rw [← List.length_append, ← List.flatten_append, List.take_append_drop]
        have e2 : (ls.take (i + 1)).flatten = (ls.take i).flatten ++ l := by rw [List.take_add_one, hli]; simp
        rw [e2, List.length_append] at e1
        omega
      have inner : ∀ s₅ : Shared, s₅ = { s₂ with heap := h₄, toks := tk₂ + 1 } → codeAny (model prog w) A (.compLoop (.ListComp (.Name y py2) [⟨.Name x px, iter, [], 0⟩, ⟨.Name y py, .Name x px2, [], 0⟩] scope pos) 1 (.ref h₃.objs.size) (.ref D) (compEnvC scope cl C env))
          (fun r s₆ => match r with
            | .ok _ => ∃ h₆ tk₆ m₆, s₆ = { s₂ with heap := h₆, toks := tk₆ } ∧ h₆.IsListIter I ax (i + 1) ∧ Fr h₀ L h₆ m ∧ h₆.Ns C m₆ ∧ News h₀ L h₆ news ∧ h₆.get? D = some (lst (ys ++ ws))
            | .error _ => False) s₅ := by
        rintro s₅ rfl
        refine flat_inner (ws := ws) (ys₀ := ys) hh hkind hy hyd (Ne.symm n2C) (Ne.symm n2D) (offC _ haa) (offD _ haa) n2a (Ne.symm hDC) hit4 ⟨_, (N₄ _ haa).1, hac, _, had⟩ (hn₃.keeps up) (up _ _ hD₃) hy₂ fun h₆ tk₆ m₆ hn₆ hD₆ hk₆ => ?_
        refine ⟨h₆, tk₆, m₆, rfl, hit₃.at fun o e => hk₆ _ _ n2I hCI hDI (up _ _ e), ?_, hn₆, fun p hp => ⟨hk₆ _ _ (Nat.ne_of_lt (Heap.lt_size (N₃ p hp).1)) (offC p hp) (offD p hp) (N₄ p hp).1, (N₄ p hp).2⟩, hD₆⟩
        refine ⟨F₄.ns.at' fun o e => hk₆ _ _ n2L (Ne.symm hCL) (Ne.symm hDL) e, fun b ob e => hk₆ _ _ (Nat.ne_of_lt (Heap.lt_size (F₃.keep b ob e))) (fun q => ?_) (fun q => ?_) (F₄.keep b ob e), F₄.above⟩
        · subst q; rw [hC₀] at e; cases e
        · subst q; rw [hD₀] at e; cases e
      refine wpAny_bind (wpAny_runOwn ?_)
      have post : ∀ (r : Result) (s₆ : Shared), (match r with
            | .ok _ => ∃ h₆ tk₆ m₆, s₆ = { s₂ with heap := h₆, toks := tk₆ } ∧ h₆.IsListIter I ax (i + 1) ∧ Fr h₀ L h₆ m ∧ h₆.Ns C m₆ ∧ News h₀ L h₆ news ∧ h₆.get? D = some (lst (ys ++ ws))
            | .error _ => False) → ∀ {Q' : Flow → Shared → Prop} {E' : Value → Shared → Prop}, (∀ f h₆ tk₆ m₆, h₆.IsListIter I ax (i + 1) → Fr h₀ L h₆ m → h₆.Ns C m₆ → News h₀ L h₆ news → h₆.get? D = some (lst (ys ++ ws)) → Q' f { s₂ with heap := h₆, toks := tk₆ }) →
            (match r with | .ok f => Q' f s₆ | .error e => E' e s₆) := by
        intro r s₆ hr Q' E' hQ
        cases r with
        | ok f => obtain ⟨h₆, tk₆, m₆, rfl, a1, a2, a3, a4, a5⟩ := hr; exact hQ f h₆ tk₆ m₆ a1 a2 a3 a4 a5
        | error e => exact hr.elim
      refine codeAny_mono (start_two (inner _ rfl) (wpAny_pyIter_listiter hit4 (inner _ rfl))) fun r s₆ hr => post r s₆ hr fun f h₆ tk₆ m₆ a1 a2 a3 a4 a5 => ?_
      refine wpAny_pure ⟨rfl, vs.length + 1 - (i + 1), ar_step hlt, h₆, tk₆, i + 1, ys ++ ws, m₆, rfl, hlt, rfl, a1, a2, a3, a4, a5, ?_⟩
      rw [List.take_add_one, hli]
      simpa using hys.append hwl
    · obtain rfl : i = vs.length := by omega
      refine W.done _ _ _ ⟨by simpa using hst', hlax⟩ fun h₂ tk₂ hk₂ => ?_
      have hys' : IntsAre ys ls.flatten := by rw [hL.length, List.take_length] at hys; exact hys
      have N₂ : News h₀ L h₂ news := news_but N' hk₂ off
      refine wpAny_pure (hRR D C h₂ tk₂ m' ys (fr_but F' hk₂ hIL hI₀) (fun p hp => ?_) offD (hn'.at' fun o e => hk₂ _ o (by simpa using Ne.symm hCI) e) hC₀ hD₀ hCL hDL (Ne.symm hDC) offC hys')
      revert p; refine fa_cons ?_ fun p hp => ?_
      · exact ⟨hk₂ _ _ (by simpa using Ne.symm hDI) hD', hDL, hD₀⟩
      · exact N₂ p hp
  have hself := hit₁
  exact codeAny_compStart_list (loop _ rfl) (wpAny_pyIter_listiter hself (loop _ rfl))
end K_flat_block
theorem flat_block {prog : Program} {w : World} {A : Around} {E : Value → Shared → Prop} {h₀ : Heap} {L : Addr} {m : Str → Option Value} {env : Env} {news : List (Addr × Obj)} {iter : Expr} {x y : Str} {px px2 py py2 : Pos} {scope : Scope} {cl : List (Str × Addr)} {pos : Pos} {s₂ : Shared} {I ax : Addr} {vs : List Value} {ls : List (List Int)} {o : Obj} {k : Nat} {RR : Value → Addr → Result → Shared → Prop} (hh : A.handled = none) (hcell : ∀ y ∈ scope.names, y.2 ≠ .cell) (hkind : scope.kind = .function) (hx : scope.names.lookup x = some .local) (hy : scope.names.lookup y = some .local) (hxd : (x == ("__debug__" : Str)) = false) (hyd : (y == ("__debug__" : Str)) = false) (hit : s₂.heap.IsListIter I ax 0) (F : Fr h₀ L s₂.heap m) (N : News h₀ L s₂.heap news) (hIL : L ≠ I) (hI₀ : h₀.get? I = none) (off : ∀ p ∈ news, p.1 ≠ I) (hax : (ax, o) ∈ news) (hoc : o.cls = .type "list") (hod : o.data = .seq vs.toArray k) (hL : ListsIn news vs ls) (hfl : ls.flatten.length ≤ 1000) (hs2 : ∀ env z, foldedSetIterable (.Name x px2) env z = pure z) (hRR : ∀ D C h tk m' ys, Fr h₀ L h m → News h₀ L h ((D, lst ys) :: news) → (∀ p ∈ news, p.1 ≠ D) → h.Ns C m' → h₀.get? C = none → h₀.get? D = none → C ≠ L → D ≠ L → C ≠ D → (∀ p ∈ news, p.1 ≠ C) → IntsAre ys ls.flatten → RR (.ref D) C (.ok .next) { s₂ with heap := h, toks := tk }) :
    wpAny (model prog w) A (newList []) (fun acc s₃ => wpAny (model prog w) A (newFunctionEnv scope env.globals cl [] env.qual none .none (some env)) (fun cenv s₄ =>
      codeAny (model prog w) A (.compStart (.ListComp (.Name y py2) [⟨.Name x px, iter, [], 0⟩, ⟨.Name y py, .Name x px2, [], 0⟩] scope pos) 0 (.ref I) acc { cenv with scope := relabel scope env }) (RR acc cenv.locals) s₄) E s₃) E s₂ :=
  eps_all (P := fun v => P_flat_block v.1 v.2.1 v.2.2.1 v.2.2.2.1 v.2.2.2.2.1 v.2.2.2.2.2.1 v.2.2.2.2.2.2.1 v.2.2.2.2.2.2.2.1 v.2.2.2.2.2.2.2.2.1 v.2.2.2.2.2.2.2.2.2.1 v.2.2.2.2.2.2.2.2.2.2.1 v.2.2.2.2.2.2.2.2.2.2.2.1 v.2.2.2.2.2.2.2.2.2.2.2.2.1 v.2.2.2.2.2.2.2.2.2.2.2.2.2.1 v.2.2.2.2.2.2.2.2.2.2.2.2.2.2.1 v.2.2.2.2.2.2.2.2.2.2.2.2.2.2.2.1 v.2.2.2.2.2.2.2.2.2.2.2.2.2.2.2.2.1 v.2.2.2.2.2.2.2.2.2.2.2.2.2.2.2.2.2.1 v.2.2.2.2.2.2.2.2.2.2.2.2.2.2.2.2.2.2.1 v.2.2.2.2.2.2.2.2.2.2.2.2.2.2.2.2.2.2.2.1 v.2.2.2.2.2.2.2.2.2.2.2.2.2.2.2.2.2.2.2.2.1 v.2.2.2.2.2.2.2.2.2.2.2.2.2.2.2.2.2.2.2.2.2.1 v.2.2.2.2.2.2.2.2.2.2.2.2.2.2.2.2.2.2.2.2.2.2.1 v.2.2.2.2.2.2.2.2.2.2.2.2.2.2.2.2.2.2.2.2.2.2.2.1 v.2.2.2.2.2.2.2.2.2.2.2.2.2.2.2.2.2.2.2.2.2.2.2.2.1 v.2.2.2.2.2.2.2.2.2.2.2.2.2.2.2.2.2.2.2.2.2.2.2.2.2.1 v.2.2.2.2.2.2.2.2.2.2.2.2.2.2.2.2.2.2.2.2.2.2.2.2.2.2) (by with_unfolding_all exact K_flat_block.core) (prog, w, A, E, h₀, L, m, env, news, iter, x, y, px, px2, py, py2, scope, cl, pos, s₂, I, ax, vs, ls, o, k, RR) hh hcell hkind hx hy hxd hyd hit F N hIL hI₀ off hax hoc hod hL hfl hs2 hRR
/-- [number for one in lists for number in one] -/
theorem comp_flat {iter : Expr} {x y : Str} {px px2 py py2 : Pos} {scope : Scope} {cl : List (Str × Addr)} {pos : Pos} {Q : Value → Shared → Prop} (F₀ : Fr h₀ L s.heap m) (hh : A.handled = none)
    (hclos : closureFor scope env = pure cl) (hcell : ∀ y ∈ scope.names, y.2 ≠ .cell) (hkind : scope.kind = .function)
    (hnames : ∀ y ∈ scope.names, y.2 = .local → scope.names.lookup y.1 = some .local) (hx : scope.names.lookup x = some .local) (hy : scope.names.lookup y = some .local)
    (hxd : (x == ("__debug__" : Str)) = false) (hyd : (y == ("__debug__" : Str)) = false)
    (h : wpAny (model prog w) A (eval iter env) (fun xv s₁ => Hold (∃ (ax : Addr) (vs : List Value) (ls : List (List Int)) (o : Obj) (k : Nat) (news : List (Addr × Obj)),
      xv = .ref ax ∧ Fr h₀ L s₁.heap m ∧ News h₀ L s₁.heap news ∧ (ax, o) ∈ news ∧ o.cls = .type "list" ∧ o.data = .seq vs.toArray k ∧ ListsIn news vs ls ∧ ls.flatten.length ≤ 1000 ∧
      (∀ D h tk ys, Fr h₀ L h m → News h₀ L h ((D, lst ys) :: news) → (∀ p ∈ news, p.1 ≠ D) → IntsAre ys ls.flatten → Q (.ref D) { s₁ with heap := h, toks := tk }))) E s)
    (hs : ∀ x, foldedSetIterable iter env x = pure x := by intro _; rfl) (hs2 : ∀ env z, foldedSetIterable (.Name x px2) env z = pure z := by intro _ _; rfl) :
    wpAny (model prog w) A (eval (.ListComp (.Name y py2) [⟨.Name x px, iter, [], 0⟩, ⟨.Name y py, .Name x px2, [], 0⟩] scope pos) env) Q E s := by
  rw [eval_ListComp]
  refine wpAny_comprehension_free (use := none) rfl hs hclos hkind hnames (wpAny_mono h (fun xv s₁ h₁ => ?_) fun _ _ e => e)
  obtain ⟨ax, vs, ls, o, k, news, rfl, F, N, hax, hoc, hod, hL, hflen, fin⟩ := h₁
  have hl : s₁.heap.IsList ax vs.toArray := ⟨_, (N _ hax).1, hoc, _, hod⟩
  refine wpAny_pyIter_list hl ?_
  have up : ∀ b o, s₁.heap.get? b = some o → (s₁.heap.push { cls := .type "list_iterator", data := .fields #[.ref ax, .int 0 0] }).get? b = some o := fun b o e => Heap.get?_push_of_some _ e
  refine flat_block (RR := fun acc C => compPost (model prog w) A E none Q acc C) hh hcell hkind hx hy hxd hyd ⟨_, Heap.get?_push_size _ rfl, rfl, rfl⟩ (F.keeps up) (N.grown up) (Nat.ne_of_lt F.ns.lt) (next_is_new F) (fun p hp => Nat.ne_of_lt (Heap.lt_size (N p hp).1)) hax hoc hod hL hflen hs2 ?_
  intro D C h tk m' ys F' N' o1 hn hC₀ hD₀ hCL hDL hCD offC hy
  refine ⟨m', hn, fun h'' hs'' => fin D h'' tk ys (F'.change hs'' hCL hC₀) (fun p hp => ?_) o1 hy⟩
  refine ⟨hs''.extBut _ _ ?_ (N' p hp).1, (N' p hp).2⟩
  revert p; refine fa_cons ?_ fun p hp => ?_
  · exact Ne.symm hCD
  · exact offC p hp
end
end Mine
end TextK2
section TextK3
open PySem PySem.W PyProof.Rows PySem.Calls PySem.Spec
set_option Elab.async false
set_option maxRecDepth 100000
set_option maxHeartbeats 1000000
namespace Mine
section
variable {prog : Program} {w : World} {A : Around} {E : Value → Shared → Prop} {s : Shared} {h₀ : Heap} {L : Addr} {env : Env}
end
/-- what a loop over a range asks -/
inductive ForR (prog : Program) (w : World) (A : Around) (h₀ : Heap) (L : Addr) (env : Env) (target : Expr) (body : List Stmt) (Q : Flow → Shared → Prop) (E : Value → Shared → Prop) (xv : Value) (s₁ : Shared) : Prop
  | mk (r : Addr) (a b : Int) (t u v : Tok) (n : Nat) (m : Str → Option Value) (news : List (Addr × Obj)) (J : Nat → (Str → Option Value) → List (Addr × Obj) → Prop)
    (e : xv = .ref r) (hr : IsRange s₁.heap r a b 1 t u v) (hb : -(2 ^ 62) ≤ a ∧ a < 2 ^ 62 ∧ -(2 ^ 62) ≤ b ∧ b < 2 ^ 62) (hn : (b - a).toNat = n) (F : Fr h₀ L s₁.heap m) (N : News h₀ L s₁.heap news) (hJ : J 0 m news)
    (k : ∀ s₂ : Shared, (∃ g, s₂ = { s₁ with heap := g }) →
        (∀ i v m₁ nw I oI h tk, i < n → (∃ t, v = .int (a + i) t) → J i m₁ nw → Fr h₀ L h m₁ → News h₀ L h ((I, oI) :: nw) → (∀ p ∈ nw, p.1 ≠ I) →
          wpAny (model prog w) A (assign target env v) (fun _ s₃ => wpAny (model prog w) A (execs body env) (fun f s₄ => match f with
            | .next | .cont => Hold (NextS h₀ L s₂ I oI (J (i + 1)) s₄)
            | .brk => Q .next s₄
            | .ret v => Q (.ret v) s₄) E s₃) E { s₂ with heap := h, toks := tk }) ∧
        (∀ h tk m₁ nw, Fr h₀ L h m₁ → News h₀ L h nw → J n m₁ nw → Q .next { s₂ with heap := h, toks := tk })) : ForR prog w A h₀ L env target body Q E xv s₁
section
noncomputable def P_forA_range (prog : Program) (w : World) (A : Around) (E : Value → Shared → Prop) (s : Shared) (h₀ : Heap) (L : Addr) (env : Env) (target : Expr) (iter : Expr) (body : List Stmt) (pos : Pos) (Q : Flow → Shared → Prop) : Prop := ∀ (hh : A.handled = none) (h : wpAny (model prog w) A (eval iter env) (fun xv s₁ => Hold (ForR prog w A h₀ L env target body Q E xv s₁)) E s) (hE : PassesOwn (model prog w) A env E) (hs : ∀ x, foldedSetIterable iter env x = pure x) (ht : ∀ I v, letOwnedTupleGo target (.ref I) v = pure ()),
    wpAny (model prog w) A (exec (.For target iter body [] pos) env) Q E s
noncomputable def c_forA_range := @Classical.epsilon ((Program) × (World) × (Around) × (Value → Shared → Prop) × (Shared) × (Heap) × (Addr) × (Env) × (Expr) × (Expr) × (List Stmt) × (Pos) × (Flow → Shared → Prop)) ⟨(default, wDef, callerA, fun _ _ => True, (PySem.start default).1, default, 0, default, default, default, [], default, fun _ _ => True)⟩ fun v => ¬ P_forA_range v.1 v.2.1 v.2.2.1 v.2.2.2.1 v.2.2.2.2.1 v.2.2.2.2.2.1 v.2.2.2.2.2.2.1 v.2.2.2.2.2.2.2.1 v.2.2.2.2.2.2.2.2.1 v.2.2.2.2.2.2.2.2.2.1 v.2.2.2.2.2.2.2.2.2.2.1 v.2.2.2.2.2.2.2.2.2.2.2.1 v.2.2.2.2.2.2.2.2.2.2.2.2
namespace K_forA_range
@[irreducible] noncomputable def prog : Program := c_forA_range.1
@[irreducible] noncomputable def w : World := c_forA_range.2.1
@[irreducible] noncomputable def A : Around := c_forA_range.2.2.1
@[irreducible] noncomputable def E : Value → Shared → Prop := c_forA_range.2.2.2.1
@[irreducible] noncomputable def s : Shared := c_forA_range.2.2.2.2.1
@[irreducible] noncomputable def h₀ : Heap := c_forA_range.2.2.2.2.2.1
@[irreducible] noncomputable def L : Nat := c_forA_range.2.2.2.2.2.2.1
@[irreducible] noncomputable def env : Env := c_forA_range.2.2.2.2.2.2.2.1
@[irreducible] noncomputable def target : Expr := c_forA_range.2.2.2.2.2.2.2.2.1
@[irreducible] noncomputable def iter : Expr := c_forA_range.2.2.2.2.2.2.2.2.2.1
@[irreducible] noncomputable def body : List Stmt := c_forA_range.2.2.2.2.2.2.2.2.2.2.1
@[irreducible] noncomputable def pos : Pos := c_forA_range.2.2.2.2.2.2.2.2.2.2.2.1
@[irreducible] noncomputable def Q : Flow → Shared → Prop := c_forA_range.2.2.2.2.2.2.2.2.2.2.2.2
theorem core : P_forA_range prog w A E s h₀ L env target iter body pos Q := by
  unfold P_forA_range
  intro hh h hE hs ht
  refine forA (h₀ := h₀) (L := L) (wpAny_mono h (fun xv s₁ h₁ => ?_) fun _ _ x => x) hE hs
  obtain ⟨r, a, b, t, u, v, n, m, news, J, rfl, hr, hb, hn, F, N, hJ, k⟩ := h₁
  have hsm : Builtin.Range.small a b 1 = true := small_one hb.1 hb.2.1 hb.2.2.1 hb.2.2.2
  have hsz : Builtin.Range.rangeSize a b 1 = (n : Int) := by rw [rangeSize_nat, hn]
  refine wpAny_pyIter_range hr hsm ?_
  have up : ∀ y o, s₁.heap.get? y = some o → (s₁.heap.push { cls := .type "range_iterator", data := .fields #[rawInt a, rawInt (Builtin.Range.rangeSize a b 1), rawInt 1] }).get? y = some o := fun b o e => Heap.get?_push_of_some _ e
  obtain ⟨step, fin⟩ := k { s₁ with heap := s₁.heap.push { cls := .type "range_iterator", data := .fields #[rawInt a, rawInt (Builtin.Range.rangeSize a b 1), rawInt 1] } } ⟨_, rfl⟩
  refine ⟨s₁.heap.objs.size, [s₁.heap.objs.size], n, _, _, m, news, J, rfl, Walks.range hh s₁.heap.objs.size a 1 n, (fun i h st => ⟨_, st⟩),
    (fun i h h' o nw k m st e e' _ _ _ => ?_), (fun i s' v Q' E' st q => wpAny_of_eq (ht _ v) q), (by show IsRangeIter _ _ _ _ _; rw [hsz]; simpa using Heap.get?_push_size _ rfl), F.keeps up, N.grown up, Nat.ne_of_lt F.ns.lt, next_is_new F, (fun p hp => Nat.ne_of_lt (Heap.lt_size (N p hp).1)), hJ,
    (fun i v m₁ nw I oI h tk hP hJ F N off => step i v m₁ nw I oI h tk hP.1 (by obtain ⟨t, e⟩ := hP.2; exact ⟨t, by rw [e, Int.mul_one]⟩) hJ F N off), fin⟩
  have st' : h.get? s₁.heap.objs.size = some _ := st
  show h'.get? s₁.heap.objs.size = some _
  rw [e', ← e]; exact st'
end K_forA_range
theorem forA_range {prog : Program} {w : World} {A : Around} {E : Value → Shared → Prop} {s : Shared} {h₀ : Heap} {L : Addr} {env : Env} {target iter : Expr} {body : List Stmt} {pos : Pos} {Q : Flow → Shared → Prop} (hh : A.handled = none) (h : wpAny (model prog w) A (eval iter env) (fun xv s₁ => Hold (ForR prog w A h₀ L env target body Q E xv s₁)) E s) (hE : PassesOwn (model prog w) A env E) (hs : ∀ x, foldedSetIterable iter env x = pure x := by intro _; rfl) (ht : ∀ I v, letOwnedTupleGo target (.ref I) v = pure () := by intro _ _; rfl) :
    wpAny (model prog w) A (exec (.For target iter body [] pos) env) Q E s :=
  eps_all (P := fun v => P_forA_range v.1 v.2.1 v.2.2.1 v.2.2.2.1 v.2.2.2.2.1 v.2.2.2.2.2.1 v.2.2.2.2.2.2.1 v.2.2.2.2.2.2.2.1 v.2.2.2.2.2.2.2.2.1 v.2.2.2.2.2.2.2.2.2.1 v.2.2.2.2.2.2.2.2.2.2.1 v.2.2.2.2.2.2.2.2.2.2.2.1 v.2.2.2.2.2.2.2.2.2.2.2.2) (by with_unfolding_all exact K_forA_range.core) (prog, w, A, E, s, h₀, L, env, target, iter, body, pos, Q) hh h hE hs ht
end
section
variable {prog : Program} {w : World} {A : Around} {E : Value → Shared → Prop} {s : Shared} {h₀ : Heap} {L : Addr} {env : Env}
theorem lists_reads {h : Heap} {nw : List (Addr × Obj)} (N : News h₀ L h nw) {vs : List Value} {ls : List (List Int)} (H : ListsIn nw vs ls) : ∃ as, ReadsAll h vs (ls.map fun l => .list (l.map PyData.int)) as := by
  induction H with
  | nil => exact ⟨_, .nil⟩
  | cons c _ ih =>
    obtain ⟨a, o, ws, k, e, hm, hc, hd, hi⟩ := c
    obtain ⟨as, r⟩ := ih
    subst e
    obtain ⟨bs, rb⟩ : ∃ bs, ReadsAll h ws (List.map PyData.int _) bs := ⟨_, intsReads hi⟩
    exact ⟨_, .cons (reads_list_at (N _ hm).1 hc hd (by simpa using rb)) r⟩
where
  intsReads {ws : List Value} {l : List Int} (hi : IntsAre ws l) : ReadsAll h ws (l.map PyData.int) (l.map fun _ => ([] : List Addr)).flatten := by
    induction hi with
    | nil => exact .nil
    | cons n t r ih => exact .cons (.int n t) ih
end
end Mine
end TextK3
section TextG4
open PySem PySem.W PyProof.Rows PySem.Calls PySem.Spec
set_option Elab.async false
set_option maxRecDepth 100000
set_option maxHeartbeats 1000000
namespace Mine
theorem fillG4 {w : World} {A : Around} {Q : Value → Shared → Prop} {E : Value → Shared → Prop} {s : Shared} (h : (hd0.heap_1 w.params).In s.heap → wpAny (model PySem.Challenge.rw_pb0182_01.row.prog w) A (call .none []) Q E s) :
    (hd0.heap_1 w.params).In s.heap → wpAny (model PySem.Challenge.rw_pb0182_01.row.prog w) A (call .none []) Q E s := by
  k_fill
  w_top off
  intro hX
  try walk1
  exact h hX
/-- the runs, each with its first index -/
noncomputable def trip (rs : List (Int × Int)) : List (List Int) := rs.zipIdx.map fun x => [x.1.1, x.1.2, (spans (rs.take x.2)).2]
theorem trip_snoc (rs : List (Int × Int)) (r : Int × Int) : trip (rs ++ [r]) = trip rs ++ [[r.1, r.2, (spans rs).2]] := by
  unfold trip
  rw [List.zipIdx_append, List.map_append]
  congr 1
  · apply List.map_congr_left
    intro x hx
    have hlt : x.2 < rs.length := by
      obtain ⟨y, i⟩ := x
      have := List.mem_zipIdx hx
      simpa using this.2.1
    rw [List.take_append_of_le_length (by omega)]
  · simp
theorem trip_length (rs : List (Int × Int)) : (trip rs).length = rs.length := by simp [trip]
theorem trip_spans (rs : List (Int × Int)) : ((trip rs).flatten.map two).flatten = (spans rs).1 := by
  have key : ∀ l : List (Int × Int), ((trip l.reverse).flatten.map two).flatten = (spans l.reverse).1 := by
    intro l
    induction l with
    | nil => rfl
    | cons a r ih =>
      rw [List.reverse_cons, trip_snoc, spans_snoc]
      simp only [List.flatten_append, List.map_append, ih, spanStep]
      simp
  have := key rs.reverse
  rwa [List.reverse_reverse] at this
theorem trip_flat_length (rs : List (Int × Int)) : (trip rs).flatten.length = 3 * rs.length := by
  have h1 := congrArg List.length (trip_spans rs)
  rw [flat_two, spans_size] at h1
  omega
section
variable {w : World} {p : Program} {loose : List Str} {mean : ExcName → Option Value} {mg mb : Str → Option Value} {A A₀ : Around} {env : Env} {outer : List Env} {base h₀ : Heap} {L : Addr} {m : Str → Option Value} {news rest : List (Addr × Obj)} {s : Shared}
  {Q E : Value → Shared → Prop}
theorem shaped_lists (ls : List (List Int)) : SeqAt.shaped (.list (ls.map fun l => .list (l.map PyData.int))) = true := by
  have h1 : ∀ ls : List (List Int), PyData.canLayAll0 (ls.map fun l => .list (l.map PyData.int)) = true := by
    intro ls
    induction ls with
    | nil => rfl
    | cons a r ih => simp [PyData.canLayAll0, PyData.canLay0, ke_canLayAll0, ih]
  have h2 : ∀ ls : List (List Int), PyData.depthAll (ls.map fun l => .list (l.map PyData.int)) ≤ 1 := by
    intro ls
    induction ls with
    | nil => exact Nat.zero_le _
    | cons a r ih => simp only [List.map_cons, PyData.depthAll, PyData.depth, ke_depthAll]; omega
  have h3 := h2 ls
  show (PyData.canLay0 (.list (ls.map fun l => .list (l.map PyData.int))) && decide (PyData.depth (.list (ls.map fun l => .list (l.map PyData.int))) ≤ 64)) = true
  rw [Bool.and_eq_true]
  exact ⟨by simp only [PyData.canLay0]; exact h1 ls, decide_eq_true (by simp only [PyData.depth]; omega)⟩
theorem lists_ne_nil {prog : Program} {a b : Addr} {oa ob : Obj} {vs : List Value} {ls : List (List Int)} {k kb : Nat} {nw : List (Addr × Obj)} (N : News h₀ L s.heap nw) (ha : (a, oa) ∈ nw) (hac : oa.cls = .type "list") (had : oa.data = .seq vs.toArray k) (hL : ListsIn nw vs ls)
    (hb : (b, ob) ∈ nw) (hbc : ob.cls = .type "list") (hbd : ob.data = .seq #[] kb) (hu : A.units + 64 < cLine) (h : Q (.bool (!decide (ls = []))) s) : wpAny (model prog w) A (compareOp .NotEq (.ref a) (.ref b)) Q E s := by
  obtain ⟨as, ra⟩ := lists_reads N hL
  refine ne_dataH (reads_list_at (N _ ha).1 hac had (by simpa using ra)) (reads_list_at (N _ hb).1 hbc hbd (by exact .nil)) (shaped_lists ls) rfl hu ?_
  cases ls with
  | nil => simpa [PyData.eqv, PyData.eqvAll] using h
  | cons x r => simpa [PyData.eqv, PyData.eqvAll] using h
theorem tupleAt {prog : Program} {value slice : Expr} {x : Addr} {its : Array Value} {v : Value} {k : Int} {u : Tok} (ht : IsTup s.heap x its) (h0 : 0 ≤ k) (hhi : k < 2 ^ 63) (hx : its[k.toNat]? = some v) (h : Q v s)
    (hs : subscripted slice false (.ref x) (.int k u) = operate [.ref x, .int k u] (getItem (.ref x) (.int k u)) := by with_unfolding_all rfl) :
    wpAny (model prog w) A (subscriptTail value slice (.ref x) (.int k u)) Q E s := by
  refine pairItem k.toNat ht (by omega) hhi (seqIndex_of h0 ?_) hx h hs
  rcases Nat.lt_or_ge k.toNat its.size with z | z
  · omega
  · rw [Array.getElem?_eq_none z] at hx; cases hx
theorem itemAtL {prog : Program} {value slice : Expr} {l : Addr} {items : List Value} {x : Value} {k : Int} {u : Tok} (hl : s.heap.IsList l items.toArray) (h0 : 0 ≤ k) (hhi : k < 2 ^ 63) (hx : items[k.toNat]? = some x) (h : Q x s)
    (hs : subscripted slice false (.ref l) (.int k u) = operate [.ref l, .int k u] (getItem (.ref l) (.int k u)) := by with_unfolding_all rfl) :
    wpAny (model prog w) A (subscriptTail value slice (.ref l) (.int k u)) Q E s :=
  subscriptTail_builtinR hl.typeIs slot_list_getitem.lookup (wpAny_getItem_list (Q := fun r s' => r = x ∧ Q r s') hl h0 hhi (by simpa using hx) ⟨rfl, h⟩) hs
theorem listsIn_split {nw : List (Addr × Obj)} {v : Value} {l : List Int} {vs : List Value} : ∀ {ls : List (List Int)}, ListsIn nw (vs ++ [v]) (ls ++ [l]) → ListsIn nw vs ls ∧ ListIn nw v l := by
  induction vs with
  | nil =>
    intro ls h
    cases ls with
    | nil => cases h with | cons c _ => exact ⟨.nil, c⟩
    | cons x r =>
      have := h.length
      rw [List.length_append, List.length_append, List.length_cons] at this
      simp only [List.length_cons, List.length_nil] at this
      omega
  | cons y vs ih =>
    intro ls h
    cases ls with
    | nil =>
      have := h.length
      rw [List.length_append, List.length_append, List.length_cons] at this
      simp only [List.length_cons, List.length_nil] at this
      omega
    | cons x r =>
      cases h with
      | cons c t => exact ⟨.cons c (ih t).1, (ih t).2⟩
theorem lenB {prog : Program} {b : Array UInt8} {t : Tok} {n : Nat} (hn : b.size = n) (hz : n ≤ 100000) (h : Q (.int n (s.toks + 1)) { s with toks := s.toks + 1 + 1 }) : wpAny (model prog w) A (call (.builtin "len") [.bytes b t]) Q E s := by
  subst hn
  exact len_bytes (by omega) h
theorem trip_bound (gs : List Int) (hgs : ∀ g ∈ gs, 0 ≤ g ∧ g < 65536) (hlen : gs.length ≤ 60) : ∀ n ∈ (trip (runs gs)).flatten, 0 ≤ n ∧ n < 65536 := by
  intro n hn
  try k_fold
  obtain ⟨l, hl, hn⟩ := List.mem_flatten.mp hn
  try k_fold
  obtain ⟨⟨r, i⟩, hr, rfl⟩ := List.mem_map.mp hl
  have hr' := List.mem_zipIdx hr
  have hrm : r ∈ runs gs := by rw [hr'.2.2]; exact List.getElem_mem _
  try k_fold
  obtain ⟨f1, _, _⟩ := runs_facts gs
  try k_fold
  obtain ⟨a1, a2, _⟩ := f1 r hrm
  have := spans_bound gs i
  simp only [List.mem_cons, List.not_mem_nil, or_false] at hn
  rcases hn with rfl | rfl | rfl
  · exact hgs _ a1
  · exact hgs _ a2
  · omega
/-- the turn's end -/
theorem cover_more {g' h₅ : Heap} {L' lr D I : Addr} {gs : List Int} {i n : Nat} {rs : List Value} {T : List (Addr × Obj)} {oD oI : Obj} {ws : List Value} {kD : Nat} {l : List Int} {ls : List (List Int)}
    (N : ∀ q ∈ (I, oI) :: (lr, W.listOf (rs ++ [Value.ref D]).toArray n) :: (D, oD) :: (T ++ news), h₅.get? q.1 = some q.2 ∧ q.1 ≠ L' ∧ g'.get? q.1 = none) (offI : ∀ p ∈ T ++ news, p.1 ≠ I) (hIl : lr ≠ I) (offl : ∀ p ∈ T ++ news, p.1 ≠ lr)
    (h1 : I < D) (h2 : lr < D) (hc : oD.cls = .type "list") (hd : oD.data = .seq ws.toArray kD) (hw : IntsAre ws l) (P : ListsIn T rs ls) (hr : trip (runs (gs.take (i + 1))) = ls ++ [l]) :
    ∃ nw', News g' L' h₅ ((I, oI) :: nw') ∧ (∀ p ∈ nw', p.1 ≠ I) ∧ ∃ rs T n, nw' = (lr, W.listOf rs.toArray n) :: (T ++ news) ∧ (∀ p ∈ T ++ news, p.1 ≠ lr) ∧ ListsIn T rs (trip (runs (gs.take (i + 1)))) := by
  refine ⟨(lr, W.listOf (rs ++ [Value.ref D]).toArray n) :: (((D, oD) :: T) ++ news), fun p hp => N p hp, fun p hp => ?_, rs ++ [Value.ref D], (D, oD) :: T, n, rfl, fun p hp => ?_, ?_⟩
  · revert p; refine fa_cons ?_ fun p hp => ?_
    · exact hIl
    · revert p; refine fa_cons ?_ fun p hp => ?_
      · exact Ne.symm (Nat.ne_of_lt h1)
      · exact offI p hp
  · revert p; refine fa_cons ?_ fun p hp => ?_
    · exact Ne.symm (Nat.ne_of_lt h2)
    · exact offl p hp
  · rw [hr]
    exact (P.mono fun p hp => .tail _ hp).append (.cons ⟨D, oD, ws, kD, rfl, .head _, hc, hd, hw⟩ .nil)
end
section
noncomputable def P_law_cover_ok (w : World) (p : Program) (loose : List Str) (mean : ExcName → Option Value) (mg : Str → Option Value) (mb : Str → Option Value) (A : Around) (A₀ : Around) (env : Env) (outer : List Env) (base : Heap) (h₀ : Heap) (L : Addr) (m : Str → Option Value) (news : List (Addr × Obj)) (s : Shared) (Q : Value → Shared → Prop) (E : Value → Shared → Prop) (tg : Addr) (og : Obj) (vs : List Value) (gs : List Int) (k : Nat) : Prop := ∀ (C : Cx w p loose mean mg mb A A₀ env outer base h₀ L) (F : Fr h₀ L s.heap m) (N : News h₀ L s.heap news) (htg : (tg, og) ∈ news) (hoc : og.cls = .type "tuple") (hod : og.data = .seq vs.toArray k) (hi : IntsAre vs gs) (hlen : gs.length ≤ 60) (hgs : ∀ g ∈ gs, 0 ≤ g ∧ g < 65536) (hd : A.depth ≤ 860) (hu : A.units ≤ 4600) (hret : ∀ t h' tk', Fr h₀ L h' m → News h₀ L h' news → Q (.bytes (coverBytes gs).toArray t) { s with heap := h', toks := tk' }),
    wpAny (model PySem.Challenge.rw_pb0182_01.row.prog w) A (call (.ref 286) [.ref tg]) Q E s
noncomputable def c_law_cover_ok := @Classical.epsilon ((World) × (Program) × (List Str) × (ExcName → Option Value) × (Str → Option Value) × (Str → Option Value) × (Around) × (Around) × (Env) × (List Env) × (Heap) × (Heap) × (Addr) × (Str → Option Value) × (List (Addr × Obj)) × (Shared) × (Value → Shared → Prop) × (Value → Shared → Prop) × (Addr) × (Obj) × (List Value) × (List Int) × (Nat)) ⟨(wDef, default, [], fun _ => none, fun _ => none, fun _ => none, callerA, callerA, default, [], default, default, 0, fun _ => none, [], (PySem.start default).1, fun _ _ => True, fun _ _ => True, 0, default, [], [], 0)⟩ fun v => ¬ P_law_cover_ok v.1 v.2.1 v.2.2.1 v.2.2.2.1 v.2.2.2.2.1 v.2.2.2.2.2.1 v.2.2.2.2.2.2.1 v.2.2.2.2.2.2.2.1 v.2.2.2.2.2.2.2.2.1 v.2.2.2.2.2.2.2.2.2.1 v.2.2.2.2.2.2.2.2.2.2.1 v.2.2.2.2.2.2.2.2.2.2.2.1 v.2.2.2.2.2.2.2.2.2.2.2.2.1 v.2.2.2.2.2.2.2.2.2.2.2.2.2.1 v.2.2.2.2.2.2.2.2.2.2.2.2.2.2.1 v.2.2.2.2.2.2.2.2.2.2.2.2.2.2.2.1 v.2.2.2.2.2.2.2.2.2.2.2.2.2.2.2.2.1 v.2.2.2.2.2.2.2.2.2.2.2.2.2.2.2.2.2.1 v.2.2.2.2.2.2.2.2.2.2.2.2.2.2.2.2.2.2.1 v.2.2.2.2.2.2.2.2.2.2.2.2.2.2.2.2.2.2.2.1 v.2.2.2.2.2.2.2.2.2.2.2.2.2.2.2.2.2.2.2.2.1 v.2.2.2.2.2.2.2.2.2.2.2.2.2.2.2.2.2.2.2.2.2.1 v.2.2.2.2.2.2.2.2.2.2.2.2.2.2.2.2.2.2.2.2.2.2
namespace K_law_cover_ok
@[irreducible] noncomputable def w : World := c_law_cover_ok.1
@[irreducible] noncomputable def p : Program := c_law_cover_ok.2.1
@[irreducible] noncomputable def loose : List Str := c_law_cover_ok.2.2.1
@[irreducible] noncomputable def mean : ExcName → Option Value := c_law_cover_ok.2.2.2.1
@[irreducible] noncomputable def mg : Str → Option Value := c_law_cover_ok.2.2.2.2.1
@[irreducible] noncomputable def mb : Str → Option Value := c_law_cover_ok.2.2.2.2.2.1
@[irreducible] noncomputable def A : Around := c_law_cover_ok.2.2.2.2.2.2.1
@[irreducible] noncomputable def A₀ : Around := c_law_cover_ok.2.2.2.2.2.2.2.1
@[irreducible] noncomputable def env : Env := c_law_cover_ok.2.2.2.2.2.2.2.2.1
@[irreducible] noncomputable def outer : List Env := c_law_cover_ok.2.2.2.2.2.2.2.2.2.1
@[irreducible] noncomputable def base : Heap := c_law_cover_ok.2.2.2.2.2.2.2.2.2.2.1
@[irreducible] noncomputable def h₀ : Heap := c_law_cover_ok.2.2.2.2.2.2.2.2.2.2.2.1
@[irreducible] noncomputable def L : Nat := c_law_cover_ok.2.2.2.2.2.2.2.2.2.2.2.2.1
@[irreducible] noncomputable def m : Str → Option Value := c_law_cover_ok.2.2.2.2.2.2.2.2.2.2.2.2.2.1
@[irreducible] noncomputable def news : List (Addr × Obj) := c_law_cover_ok.2.2.2.2.2.2.2.2.2.2.2.2.2.2.1
@[irreducible] noncomputable def s : Shared := c_law_cover_ok.2.2.2.2.2.2.2.2.2.2.2.2.2.2.2.1
@[irreducible] noncomputable def Q : Value → Shared → Prop := c_law_cover_ok.2.2.2.2.2.2.2.2.2.2.2.2.2.2.2.2.1
@[irreducible] noncomputable def E : Value → Shared → Prop := c_law_cover_ok.2.2.2.2.2.2.2.2.2.2.2.2.2.2.2.2.2.1
@[irreducible] noncomputable def tg : Nat := c_law_cover_ok.2.2.2.2.2.2.2.2.2.2.2.2.2.2.2.2.2.2.1
@[irreducible] noncomputable def og : Obj := c_law_cover_ok.2.2.2.2.2.2.2.2.2.2.2.2.2.2.2.2.2.2.2.1
@[irreducible] noncomputable def vs : List Value := c_law_cover_ok.2.2.2.2.2.2.2.2.2.2.2.2.2.2.2.2.2.2.2.2.1
@[irreducible] noncomputable def gs : List Int := c_law_cover_ok.2.2.2.2.2.2.2.2.2.2.2.2.2.2.2.2.2.2.2.2.2.1
@[irreducible] noncomputable def k : Nat := c_law_cover_ok.2.2.2.2.2.2.2.2.2.2.2.2.2.2.2.2.2.2.2.2.2.2
noncomputable def body : { P : Heap → Addr → Heap → Prop // ∀ (C : Cx w p loose mean mg mb A A₀ env outer base h₀ L) (F : Fr h₀ L s.heap m) (N : News h₀ L s.heap news) (htg : (tg, og) ∈ news) (hoc : og.cls = .type "tuple") (hod : og.data = .seq vs.toArray k) (hi : IntsAre vs gs) (hlen : gs.length ≤ 60) (hgs : ∀ g ∈ gs, 0 ≤ g ∧ g < 65536) (hd : A.depth ≤ 860) (hu : A.units ≤ 4600) (hret : ∀ t h' tk', Fr h₀ L h' m → News h₀ L h' news → Q (.bytes (coverBytes gs).toArray t) { s with heap := h', toks := tk' }), (∀ g' L' h₁, P g' L' h₁) →
    wpAny (model PySem.Challenge.rw_pb0182_01.row.prog w) A (call (.ref 286) [.ref tg]) Q E s } := by
  refine' ⟨_, _⟩
  rotate_left
  intro C F N htg hoc hod hi hlen hgs hd hu hret hBody
  refine wpAny_call ?_
  k_dflt (refine' enter_plain C F N ?k6 ?k7 ?k8 ?k9 ?kB ?_ ?c2 ?c3 ?c4 ?c5)
  case k6 => k_is
  case k7 => k_is
  case k8 => exact Nat.lt_of_le_of_lt hd (by decide)
  case k9 => exact BindsTo.of_eq rfl
  case c5 => decide
  case kB => exact locs rfl
  case c2 => exact rfl
  case c3 => exact rfl
  case c4 => exact rfl
  exact hBody
noncomputable def PB (v : Heap × Addr × Heap) : Prop := ∀ (C : Cx w p loose mean mg mb A A₀ env outer base h₀ L) (F : Fr h₀ L s.heap m) (N : News h₀ L s.heap news) (htg : (tg, og) ∈ news) (hoc : og.cls = .type "tuple") (hod : og.data = .seq vs.toArray k) (hi : IntsAre vs gs) (hlen : gs.length ≤ 60) (hgs : ∀ g ∈ gs, 0 ≤ g ∧ g < 65536) (hd : A.depth ≤ 860) (hu : A.units ≤ 4600) (hret : ∀ t h' tk', Fr h₀ L h' m → News h₀ L h' news → Q (.bytes (coverBytes gs).toArray t) { s with heap := h', toks := tk' }), body.1 v.1 v.2.1 v.2.2
noncomputable def cb := @Classical.epsilon (Heap × Addr × Heap) ⟨(default, 0, default)⟩ fun v => ¬ PB v
@[irreducible] noncomputable def g' : Heap := cb.1
@[irreducible] noncomputable def L' : Nat := cb.2.1
@[irreducible] noncomputable def h₁ : Heap := cb.2.2
theorem inner : PB (g', L', h₁) := by
  have st0 : Stop "mem 1" := .mk
  have st1 : Stop "name ld" := .mk
  have st2 : Stop "call ref" := .mk
  have st3 : Stop "call builtin:len" := .mk
  have st4 : Stop "call type:list" := .mk
  have st5 : Stop "binaryOp Add ref ref" := .mk
  have st6 : Stop "subscriptTail" := .mk
  have st7 : Stop "setItem" := .mk
  have st8 : Stop "eval ListComp" := .mk
  have st9 : Stop "call builtin:list.append" := .mk
  have st10 : Stop "exec For Name Call cons nil" := .mk
  have st11 : Stop "compareOp NotEq ref ref" := .mk
  unfold PB
  intro C F N htg hoc hod hi hlen hgs hd hu hret
  delta body
  dsimp only
  intro C₁ F₁ N₁ G₁ l1
  try k_fold
  have X₁ := C₁.X
  have T₁ := C₁.T
  have B₁ := C₁.B
  first | (refine foldA ?_; intro qC eC) | (refine foldC ?_; intro qC eC)
  have hlen' := hi.length
  try k_fold
  k_steps
  rename_i lr hA l2 hB FB NB
  refine Hold.go (forA_range (h₀ := g') (L := L') C₁.hh ?_ (by passes_own))
  try k_fold
  k_steps
  refine Hold.go (lenT (tup_src NB (.tail _ htg) hoc hod) (by rw [List.size_toArray, hlen']) (by omega) ?_)
  try k_fold
  k_steps
  rename News _ _ _ _ => N₂
  refine Hold.go ⟨_, _, _, _, _, _, gs.length, _, (lr, W.listOf #[] 0) :: news, fun i m nw => m ("runs" : Str) = some (.ref lr) ∧ m ("glyphs" : Str) = some (.ref tg) ∧
    ∃ rs T n, nw = (lr, W.listOf rs.toArray n) :: (T ++ news) ∧ (∀ p ∈ T ++ news, p.1 ≠ lr) ∧ ListsIn T rs (trip (runs (gs.take i))), rfl, by assumption, ⟨by decide, by decide, by omega, by omega⟩, by omega, by assumption, by assumption, ?_, ?_⟩
  · exact ⟨rfl, rfl, [], [], 0, rfl, (fun p hp => Nat.ne_of_lt (l2 p hp)), .nil⟩
  · rintro s₂ ⟨g₂, rfl⟩
    refine ⟨?_, ?_⟩
    · intro i v m₁ nw I oI h tk hi' hp1 hp2 F₂ N₂ offI
      try k_fold
      obtain ⟨t, rfl⟩ := hp1
      try k_fold
      obtain ⟨hm1, hm2, rs, T, n, rfl, offl, P⟩ := hp2
      have hrl := P.length
      rw [trip_length] at hrl
      have hrs : rs.length ≤ 60 := by rw [hrl]; exact Nat.le_trans (runs_length _) (Nat.le_trans (List.length_take_le' ..) hlen)
      have hgi : gs[i]? = some gs[i] := List.getElem?_eq_getElem hi'
      generalize gs[i] = gl at hgi
      have hidx : (spans (runs (gs.take i))).2 = (i : Int) := by
        rw [spans_idx, (runs_facts _).2.1, List.length_take]; omega
      have hglv : 0 ≤ gl ∧ gl < 65536 := hgs gl (List.mem_of_getElem? hgi)
      obtain ⟨vg, hvg⟩ : ∃ v, vs[i]? = some v := ⟨_, List.getElem?_eq_getElem (by omega)⟩
      try k_fold
      obtain ⟨gl', tgl, rfl, hgi'⟩ := IntsAre.at hi i vg hvg
      obtain rfl : gl' = gl := Option.some.inj (hgi'.symm.trans hgi)
      have hit : vs.toArray[(0 + (i : Int)).toNat]? = some (Value.int gl' tgl) := by
        rw [show (0 + (i : Int)).toNat = i by omega]; simpa using hvg
      have PL : ListsIn ((I, oI) :: (lr, W.listOf rs.toArray n) :: (T ++ news)) rs (trip (runs (gs.take i))) := P.mono fun p hp => .tail _ (.tail _ (List.mem_append.mpr (.inl hp)))
      have offI' : lr ≠ I := offI _ (.head _)
      try k_fold
      k_steps
      rename News _ _ _ _ => N₃
      rename _ ∧ _ ∧ AllLt _ _ => lDl
      refine Hold.go (lists_ne_nil N₃ (.tail _ (.tail _ (.head _))) rfl rfl (PL.mono fun p hp => .tail _ hp) (.head _) rfl rfl (Nat.lt_of_le_of_lt (Nat.add_le_add_right (Nat.add_le_add_right hu 3) 64) (by decide)) ?_)
      rcases List.eq_nil_or_concat rs with rfl | ⟨r', x, rfl⟩
      · have hr0 : runs (gs.take i) = [] := List.length_eq_zero_iff.mp (by simpa using hrl.symm)
        rw [show (!decide (trip (runs (gs.take i)) = [])) = false by rw [hr0]; rfl]
        try k_fold
        k_steps
        refine Hold.go (tupleAt (tup_src N₃ (.tail _ (.tail _ (.tail _ (List.mem_append.mpr (.inr htg))))) hoc hod) (by omega) (by omega) hit ?_)
        try k_fold
        k_steps
        refine Hold.go (tupleAt (tup_src N₃ (.tail _ (.tail _ (.tail _ (List.mem_append.mpr (.inr htg))))) hoc hod) (by omega) (by omega) hit ?_)
        try k_fold
        k_steps
        rename News _ _ _ _ => N₄
        rename Fr _ _ _ _ => F₄
        rename _ ∧ _ ∧ _ ∧ AllLt _ _ => lD
        refine Hold.go (append_K F₄ N₄ (.tail (Ne.symm (Nat.ne_of_lt lD.2.2.1)) (.tail (Ne.symm (Nat.ne_of_lt lDl.2.1)) (.tail (Ne.symm offI') (.head offl)))) fun h₅ F₅ N₅ => ?_)
        try k_fold
        k_steps
        try dsimp only
        try k_fold
        obtain ⟨nw', a1, a2, a3⟩ := cover_more (rs := []) (n := n + 1) (gs := gs) (i := i) (l := [gl', gl', 0 + (i : Int)]) (ls := []) (fun q hq => N₅ q (by
          revert q; refine fa_cons ?_ fun q hq => ?_
          · exact .tail _ (.tail _ (.head _))
          · revert q; refine fa_cons ?_ fun q hq => ?_
            · exact .tail _ (.tail _ (.tail _ (.head _)))
            · revert q; refine fa_cons ?_ fun q hq => ?_
              · exact .head _
              · exact .tail _ (.tail _ (.tail _ (.tail _ hq))))) (fun p hp => offI p (.tail _ hp)) offI' offl lD.2.1 lD.2.2.1 rfl rfl (.cons _ _ (.cons _ _ (.cons _ _ .nil))) .nil (by
          rw [List.take_add_one, hgi]
          show trip (runs (List.take i gs ++ [gl'])) = _
          rw [runs_snoc, hr0]
          rw [hr0] at hidx
          show trip [(gl', gl')] = _
          have e0 : (i : Int) = 0 := hidx.symm
          simp [trip, spans, e0])
        exact Hold.go ⟨h₅, _, _, nw', rfl, F₅, a1, a2, hm1, hm2, a3⟩
      · rw [List.concat_eq_append] at *
        obtain ⟨R, a, b, hR⟩ : ∃ R a b, runs (gs.take i) = R ++ [(a, b)] := by
          rcases List.eq_nil_or_concat (runs (gs.take i)) with e | ⟨R, ab, e⟩
          · rw [e] at hrl; simp at hrl
          · exact ⟨R, ab.1, ab.2, by rw [e, List.concat_eq_append]⟩
        rw [hR, trip_snoc] at P
        try k_fold
        obtain ⟨Pf, xa, xo, xws, kx, rfl, hxm, hxc, hxd, hxw⟩ := listsIn_split P
        obtain ⟨ta, tb, ti, rfl⟩ : ∃ ta tb ti, xws = [.int a ta, .int b tb, .int (spans R).2 ti] := by
          cases hxw with
          | cons _ ta r => cases r with
            | cons _ tb r => cases r with
              | cons _ ti r => cases r; exact ⟨_, _, _, rfl⟩
        rw [show (!decide (trip (runs (gs.take i)) = [])) = true by rw [hR, trip_snoc]; simp]
        try k_fold
        k_steps
        refine Hold.go (itemLast ⟨_, (N₃ _ (.tail _ (.tail _ (.head _)))).1, rfl, _, rfl⟩ ?_)
        try k_fold
        k_steps
        have hxm' : (xa, xo) ∈ T ++ news := List.mem_append.mpr (.inl hxm)
        refine Hold.go (itemAtL ⟨_, (N₃ _ (.tail _ (.tail _ (.tail _ hxm')))).1, hxc, _, hxd⟩ (by decide) (by decide) rfl ?_)
        try k_fold
        k_steps
        refine Hold.go (tupleAt (tup_src N₃ (.tail _ (.tail _ (.tail _ (List.mem_append.mpr (.inr htg))))) hoc hod) (by omega) (by omega) hit ?_)
        try k_fold
        k_steps
        · rename _ + 1 = _ => hbg
          refine Hold.go (itemLast ⟨_, (N₃ _ (.tail _ (.tail _ (.head _)))).1, rfl, _, rfl⟩ ?_)
          try k_fold
          k_steps
          refine Hold.go (itemAtL ⟨_, (N₃ _ (.tail _ (.tail _ (.tail _ hxm')))).1, hxc, _, hxd⟩ (by decide) (by decide) rfl ?_)
          try k_fold
          k_steps
          refine Hold.go (tupleAt (tup_src N₃ (.tail _ (.tail _ (.tail _ (List.mem_append.mpr (.inr htg))))) hoc hod) (by omega) (by omega) hit ?_)
          try k_fold
          k_steps
          refine Hold.go (itemLast ⟨_, (N₃ _ (.tail _ (.tail _ (.head _)))).1, rfl, _, rfl⟩ ?_)
          try k_fold
          k_steps
          refine Hold.go (itemAtL ⟨_, (N₃ _ (.tail _ (.tail _ (.tail _ hxm')))).1, hxc, _, hxd⟩ (by decide) (by decide) rfl ?_)
          try k_fold
          k_steps
          rename News _ _ _ _ => N₄
          rename Fr _ _ _ _ => F₄
          rename _ ∧ _ ∧ _ ∧ AllLt _ _ => lD
          have zl := N₄ _ (.tail _ (.tail _ (.tail _ (.head _))))
          refine Hold.go (setLast zl.1 fun h₅ n₅ e₅ sb => ?_)
          have F₅ := F₄.change sb zl.2.1 zl.2.2
          try k_fold
          k_steps
          try dsimp only
          try k_fold
          obtain ⟨nw', a1, a2, a3⟩ := cover_more (g' := g') (L' := L') (h₅ := h₅) (oI := oI) (I := I) (T := T) (rs := r') (n := n₅) (gs := gs) (i := i) (l := [a, gl', (spans R).2]) (ls := trip R) (fun q hq => by
            revert q; refine fa_cons ?_ fun q hq => ?_
            · exact ⟨sb.extBut _ _ (Ne.symm offI') (N₄ _ (.tail _ (.tail _ (.head _)))).1, (N₄ _ (.tail _ (.tail _ (.head _)))).2⟩
            · revert q; refine fa_cons ?_ fun q hq => ?_
              · exact ⟨e₅, zl.2⟩
              · revert q; refine fa_cons ?_ fun q hq => ?_
                · exact ⟨sb.extBut _ _ (Ne.symm (Nat.ne_of_lt lD.2.2.1)) (N₄ _ (.head _)).1, (N₄ _ (.head _)).2⟩
                · exact ⟨sb.extBut _ _ (offl _ hq) (N₄ _ (.tail _ (.tail _ (.tail _ (.tail _ hq))))).1, (N₄ _ (.tail _ (.tail _ (.tail _ (.tail _ hq))))).2⟩) (fun p hp => offI p (.tail _ hp)) offI' offl lD.2.1 lD.2.2.1 rfl rfl (.cons _ _ (.cons _ _ (.cons _ _ .nil))) Pf (by
            rw [List.take_add_one, hgi]
            show trip (runs (List.take i gs ++ [gl'])) = _
            have es : runStep (R ++ [(a, b)]) gl' = R ++ [(a, gl')] := by
              unfold runStep
              simp only [List.getLast?_append, List.getLast?_singleton, Option.some_or]
              rw [if_pos hbg]
              simp
            rw [runs_snoc, hR, es, trip_snoc])
          exact Hold.go ⟨h₅, _, _, nw', rfl, F₅, a1, a2, hm1, hm2, a3⟩
        · rename ¬ _ => hbg
          refine Hold.go (tupleAt (tup_src N₃ (.tail _ (.tail _ (.tail _ (List.mem_append.mpr (.inr htg))))) hoc hod) (by omega) (by omega) hit ?_)
          try k_fold
          k_steps
          refine Hold.go (tupleAt (tup_src N₃ (.tail _ (.tail _ (.tail _ (List.mem_append.mpr (.inr htg))))) hoc hod) (by omega) (by omega) hit ?_)
          try k_fold
          k_steps
          rename News _ _ _ _ => N₄
          rename Fr _ _ _ _ => F₄
          rename _ ∧ _ ∧ _ ∧ AllLt _ _ => lD
          refine Hold.go (append_K F₄ N₄ (.tail (Ne.symm (Nat.ne_of_lt lD.2.2.1)) (.tail (Ne.symm (Nat.ne_of_lt lDl.2.1)) (.tail (Ne.symm offI') (.head offl)))) fun h₅ F₅ N₅ => ?_)
          have hpush : ∀ v : Value, (r' ++ [Value.ref xa]).toArray.push v = ((r' ++ [Value.ref xa]) ++ [v]).toArray := fun v => by simp
          rw [hpush] at N₅
          try k_fold
          k_steps
          try dsimp only
          try k_fold
          obtain ⟨nw', a1, a2, a3⟩ := cover_more (rs := r' ++ [Value.ref xa]) (n := n + 1) (gs := gs) (i := i) (l := [gl', gl', 0 + (i : Int)]) (ls := trip (R ++ [(a, b)])) (fun q hq => N₅ q (by
            revert q; refine fa_cons ?_ fun q hq => ?_
            · exact .tail _ (.tail _ (.head _))
            · revert q; refine fa_cons ?_ fun q hq => ?_
              · exact .tail _ (.tail _ (.tail _ (.head _)))
              · revert q; refine fa_cons ?_ fun q hq => ?_
                · exact .head _
                · exact .tail _ (.tail _ (.tail _ (.tail _ hq))))) (fun p hp => offI p (.tail _ hp)) offI' offl lD.2.1 lD.2.2.1 rfl rfl (.cons _ _ (.cons _ _ (.cons _ _ .nil))) (by rw [trip_snoc]; exact P) (by
            rw [List.take_add_one, hgi]
            show trip (runs (List.take i gs ++ [gl'])) = _
            have hidx' := hidx
            rw [hR] at hidx'
            have es : runStep (R ++ [(a, b)]) gl' = (R ++ [(a, b)]) ++ [(gl', gl')] := by
              unfold runStep
              simp only [List.getLast?_append, List.getLast?_singleton, Option.some_or]
              rw [if_neg hbg]
            rw [runs_snoc, hR, es, trip_snoc (R ++ [(a, b)]), hidx', Int.zero_add])
          exact Hold.go ⟨h₅, _, _, nw', rfl, F₅, a1, a2, hm1, hm2, a3⟩
    · intro h tk m₁ nw F₂ N₂ hp1
      try k_fold
      obtain ⟨hm1, hm2, rs, T, n, rfl, offl, P⟩ := hp1
      rw [List.take_length] at P
      try dsimp only
      try k_fold
      k_steps
      refine Hold.go (lenT (tup_src N₂ (.tail _ (List.mem_append.mpr (.inr htg))) hoc hod) (by rw [List.size_toArray, hlen']) (by omega) ?_)
      try k_fold
      k_steps
      rename News _ _ _ _ => N₃
      rename Fr _ _ _ _ => F₃
      refine Hold.go (list_of F₃ N₃ (.tail _ (.tail _ (List.mem_append.mpr (.inr htg)))) hoc hod (fun lg cg h₄ F₄ N₄ l4 => ?_) (by omega))
      try k_fold
      k_steps
      refine Hold.go (add_lists F₄ N₄ ⟨_, (N₄ _ (.tail _ (.head _))).1, rfl, _, rfl⟩ ⟨_, (N₄ _ (.head _)).1, rfl, _, rfl⟩ (fun h₅ F₅ N₅ => ?_) (by rw [sizeLine_eq]; simp; omega))
      try k_fold
      k_steps
      refine Hold.go (two_ok (ns := [1, (gs.length : Int)] ++ gs) C₁ F₅ N₅ (.head _) (.cons 1 _ (.cons _ _ hi)) (fun n hn => ?_) (by simp; omega) (Nat.le_trans (Nat.add_le_add_right hd 1) (by decide)) (Nat.le_trans (Nat.add_le_add_right hu 3) (by decide)) fun t1 h₆ tk₆ F₆ N₆ => ?_)
      · rcases List.mem_append.mp hn with hn | hn
        · rcases List.mem_cons.mp hn with rfl | hn
          · decide
          · rw [List.mem_singleton.mp hn]; omega
        · exact hgs n hn
      have hrl := P.length
      rw [trip_length] at hrl
      have hrs : rs.length ≤ 60 := by rw [hrl]; exact Nat.le_trans (runs_length _) hlen
      obtain ⟨R₆, N₆', w1, w2⟩ : ∃ R₆, News g' L' h₆ R₆ ∧ (lr, W.listOf rs.toArray n) ∈ R₆ ∧ ∀ p ∈ T ++ news, p ∈ R₆ := ⟨_, N₆, .tail _ (.tail _ (.tail _ (.head _))), fun p hp => .tail _ (.tail _ (.tail _ (.tail _ hp)))⟩
      clear N₆ N₅ N₄ N₃
      try k_fold
      k_steps
      rename News _ _ _ _ => N₆'
      refine Hold.go (lenL ⟨_, (N₆' _ w1).1, rfl, _, rfl⟩ (by rw [List.size_toArray, hrl]) (by omega) ?_)
      try k_fold
      k_steps
      rename News _ _ _ _ => N₇
      rename Fr _ _ _ _ => F₇
      refine Hold.go (comp_flat F₇ C₁.hh (by with_unfolding_all rfl) (by decide) (by rfl) (by decide) (by rfl) (by rfl) (by decide) (by decide) ?_)
      try k_fold
      k_steps
      refine Hold.go ⟨lr, rs, trip (runs gs), _, _, _, rfl, by assumption, N₇, .tail _ w1, rfl, rfl, P.mono fun p hp => .tail _ (w2 _ (List.mem_append.mpr (.inl hp))), by rw [trip_flat_length]; omega, fun D h₈ tk₈ ys F₈ N₈ off₈ hys => ?_⟩
      try k_fold
      k_steps
      refine Hold.go (add_lists F₈ N₈ ⟨_, (N₈ _ (.tail _ (.head _))).1, rfl, _, rfl⟩ ⟨_, (N₈ _ (.head _)).1, rfl, _, rfl⟩ (fun h₉ F₉ N₉ => ?_) (by rw [sizeLine_eq, hys.length, trip_flat_length]; simp; omega))
      try k_fold
      k_steps
      refine Hold.go (two_ok (ns := [2, ((runs gs).length : Int)] ++ (trip (runs gs)).flatten) C₁ F₉ N₉ (.head _) (.cons 2 _ (.cons _ _ hys)) (fun n hn => ?_) (by rw [List.length_append, trip_flat_length]; simp; omega) (Nat.le_trans (Nat.add_le_add_right hd 1) (by decide)) (Nat.le_trans (Nat.add_le_add_right hu 3) (by decide)) fun t2 h₁₀ tk₁₀ F₁₀ N₁₀ => ?_)
      · rcases List.mem_append.mp hn with hn | hn
        · rcases List.mem_cons.mp hn with rfl | hn
          · decide
          · rw [List.mem_singleton.mp hn]; omega
        · exact trip_bound gs hgs hlen n hn
      try k_fold
      k_steps
      refine Hold.go (lenB (n := 4 + 2 * gs.length) (by rw [List.size_toArray, flat_two]; simp; omega) (by omega) ?_)
      try k_fold
      k_steps
      refine Hold.go (lenB (n := 4 + 6 * (runs gs).length) (by rw [List.size_toArray, flat_two]; simp only [List.cons_append, List.nil_append, List.length_cons, trip_flat_length]; omega) (by omega) ?_)
      try k_fold
      k_steps
      · rename ((_ : Nat) : Int) ≤ _ => hle
        rename News _ _ _ _ => N₁₁
        have e : (List.map two ([1, (gs.length : Int)] ++ gs)).flatten = coverBytes gs := by
          unfold coverBytes
          rw [if_pos (by omega)]
          simp
        exact ⟨_, _, _, by assumption, (fun q hq => N₁₁ q (.tail _ (.tail _ (.tail _ (w2 _ (List.mem_append.mpr (.inr hq)))))) : News g' L' _ news), fun Ff Nf => e ▸ hret t1 _ _ Ff Nf⟩
      · rename ¬ ((_ : Nat) : Int) ≤ _ => hle
        rename News _ _ _ _ => N₁₁
        have e : (List.map two ([2, ((runs gs).length : Int)] ++ (trip (runs gs)).flatten)).flatten = coverBytes gs := by
          unfold coverBytes
          rw [if_neg (by omega)]
          rw [List.map_append, List.flatten_append, trip_spans]
          simp
        exact ⟨_, _, _, by assumption, (fun q hq => N₁₁ q (.tail _ (.tail _ (.tail _ (w2 _ (List.mem_append.mpr (.inr hq)))))) : News g' L' _ news), fun Ff Nf => e ▸ hret t2 _ _ Ff Nf⟩
theorem core : P_law_cover_ok w p loose mean mg mb A A₀ env outer base h₀ L m news s Q E tg og vs gs k := by
  unfold P_law_cover_ok
  intro C F N htg hoc hod hi hlen hgs hd hu hret
  exact body.2 C F N htg hoc hod hi hlen hgs hd hu hret fun g' L' h₁ => eps_all (P := PB) (by with_unfolding_all exact inner) (g', L', h₁) C F N htg hoc hod hi hlen hgs hd hu hret
end K_law_cover_ok
theorem law_cover_ok {w : World} {p : Program} {loose : List Str} {mean : ExcName → Option Value} {mg : Str → Option Value} {mb : Str → Option Value} {A : Around} {A₀ : Around} {env : Env} {outer : List Env} {base : Heap} {h₀ : Heap} {L : Addr} {m : Str → Option Value} {news : List (Addr × Obj)} {s : Shared} {Q : Value → Shared → Prop} {E : Value → Shared → Prop} {tg : Addr} {og : Obj} {vs : List Value} {gs : List Int} {k : Nat} (C : Cx w p loose mean mg mb A A₀ env outer base h₀ L) (F : Fr h₀ L s.heap m) (N : News h₀ L s.heap news) (htg : (tg, og) ∈ news) (hoc : og.cls = .type "tuple") (hod : og.data = .seq vs.toArray k) (hi : IntsAre vs gs) (hlen : gs.length ≤ 60) (hgs : ∀ g ∈ gs, 0 ≤ g ∧ g < 65536) (hd : A.depth ≤ 860) (hu : A.units ≤ 4600) (hret : ∀ t h' tk', Fr h₀ L h' m → News h₀ L h' news → Q (.bytes (coverBytes gs).toArray t) { s with heap := h', toks := tk' }) :
    wpAny (model PySem.Challenge.rw_pb0182_01.row.prog w) A (call (.ref 286) [.ref tg]) Q E s :=
  eps_all (P := fun v => P_law_cover_ok v.1 v.2.1 v.2.2.1 v.2.2.2.1 v.2.2.2.2.1 v.2.2.2.2.2.1 v.2.2.2.2.2.2.1 v.2.2.2.2.2.2.2.1 v.2.2.2.2.2.2.2.2.1 v.2.2.2.2.2.2.2.2.2.1 v.2.2.2.2.2.2.2.2.2.2.1 v.2.2.2.2.2.2.2.2.2.2.2.1 v.2.2.2.2.2.2.2.2.2.2.2.2.1 v.2.2.2.2.2.2.2.2.2.2.2.2.2.1 v.2.2.2.2.2.2.2.2.2.2.2.2.2.2.1 v.2.2.2.2.2.2.2.2.2.2.2.2.2.2.2.1 v.2.2.2.2.2.2.2.2.2.2.2.2.2.2.2.2.1 v.2.2.2.2.2.2.2.2.2.2.2.2.2.2.2.2.2.1 v.2.2.2.2.2.2.2.2.2.2.2.2.2.2.2.2.2.2.1 v.2.2.2.2.2.2.2.2.2.2.2.2.2.2.2.2.2.2.2.1 v.2.2.2.2.2.2.2.2.2.2.2.2.2.2.2.2.2.2.2.2.1 v.2.2.2.2.2.2.2.2.2.2.2.2.2.2.2.2.2.2.2.2.2.1 v.2.2.2.2.2.2.2.2.2.2.2.2.2.2.2.2.2.2.2.2.2.2) (by with_unfolding_all exact K_law_cover_ok.core) (w, p, loose, mean, mg, mb, A, A₀, env, outer, base, h₀, L, m, news, s, Q, E, tg, og, vs, gs, k) C F N htg hoc hod hi hlen hgs hd hu hret
end
end Mine
end TextG4
section TextG5
open PySem PySem.W PyProof.Rows PySem.Calls PySem.Spec
set_option Elab.async false
set_option maxRecDepth 100000
set_option maxHeartbeats 1000000
namespace Mine
theorem fillG5 {w : World} {A : Around} {Q : Value → Shared → Prop} {E : Value → Shared → Prop} {s : Shared} (h : (hd0.heap_1 w.params).In s.heap → wpAny (model PySem.Challenge.rw_pb0182_01.row.prog w) A (call .none []) Q E s) :
    (hd0.heap_1 w.params).In s.heap → wpAny (model PySem.Challenge.rw_pb0182_01.row.prog w) A (call .none []) Q E s := by
  k_fill
  w_top off
  intro hX
  try walk1
  exact h hX
section
variable {w : World} {p : Program} {loose : List Str} {mean : ExcName → Option Value} {mg mb : Str → Option Value} {A A₀ : Around} {env : Env} {outer : List Env} {base h₀ : Heap} {L : Addr} {m : Str → Option Value} {news rest : List (Addr × Obj)} {s : Shared}
  {Q E : Value → Shared → Prop}
theorem menuAt {prog : Program} {value slice : Expr} {x : Addr} {vs : List Value} {ns : List Int} {k : Int} {u : Tok} (ht : IsTup s.heap x vs.toArray) (hi : IntsAre vs ns) (h0 : 0 ≤ k) (hk : k < (ns.length : Int)) (hz : ns.length ≤ 1000) (h : ∀ n t, n ∈ ns → Q (.int n t) s)
    (hs : subscripted slice false (.ref x) (.int k u) = operate [.ref x, .int k u] (getItem (.ref x) (.int k u)) := by with_unfolding_all rfl) :
    wpAny (model prog w) A (subscriptTail value slice (.ref x) (.int k u)) Q E s := by
  have hl := hi.length
  obtain ⟨v, hv⟩ : ∃ v, vs[k.toNat]? = some v := ⟨_, List.getElem?_eq_getElem (by omega)⟩
  try k_fold
  obtain ⟨n, t, rfl, hn⟩ := IntsAre.at hi _ v hv
  exact tupleAt ht h0 (by omega) (by simpa using hv) (h n t (List.mem_of_getElem? hn)) hs
theorem take_call {f lp : Addr} {T : List (Addr × Obj)} {k lim : Int} {n : Nat} {t tk : Tok} (tok : TakeOK w p loose mean mg mb f lp T) (C : Cx w p loose mean mg mb A A₀ env outer base h₀ L) (F : Fr h₀ L s.heap m) (N : News h₀ L s.heap ((lp, W.listOf #[.int k t] n) :: rest)) (hcd : CodeHd h₀ 275 271)
    (hT : ∀ q ∈ T, q ∈ rest) (nb : ∀ q ∈ rest, q.1 ≠ lp) (hk0 : 0 ≤ k) (hk1 : k < 200) (hl0 : 0 < lim) (hl1 : lim ≤ 100000) (hd : A.depth ≤ 880) (hu : A.units ≤ 4800)
    (h : ∀ v t' t'' n' h' tk', 0 ≤ v → v < lim → Fr h₀ L h' m → News h₀ L h' ((lp, W.listOf #[.int (k + 1) t'] n') :: rest) → Q (.int v t'') { s with heap := h', toks := tk' }) :
    wpAny (model PySem.Challenge.rw_pb0182_01.row.prog w) A (call (.ref f) [.int lim tk]) Q E s :=
  tok _ _ _ _ _ _ _ _ _ _ _ _ _ _ _ _ _ C F N hcd hT nb hk0 hk1 hl0 hl1 hd hu h
end
section
noncomputable def P_law_glyphs_ok (w : World) (p : Program) (loose : List Str) (mean : ExcName → Option Value) (mg : Str → Option Value) (mb : Str → Option Value) (A : Around) (A₀ : Around) (env : Env) (outer : List Env) (base : Heap) (h₀ : Heap) (L : Addr) (m : Str → Option Value) (rest : List (Addr × Obj)) (s : Shared) (Q : Value → Shared → Prop) (E : Value → Shared → Prop) (f : Addr) (lp : Addr) (T : List (Addr × Obj)) (k : Int) (n : Nat) (t : Tok) : Prop := ∀ (C : Cx w p loose mean mg mb A A₀ env outer base h₀ L) (F : Fr h₀ L s.heap m) (N : News h₀ L s.heap ((lp, W.listOf #[.int k t] n) :: rest)) (hcd : CodeHd h₀ 275 271) (tok : TakeOK w p loose mean mg mb f lp T) (hf : IsFn f T) (hT : ∀ q ∈ T, q ∈ rest) (nb : ∀ q ∈ rest, q.1 ≠ lp) (hk0 : 0 ≤ k) (hk1 : k ≤ 180) (hd : A.depth ≤ 870) (hu : A.units ≤ 4700) (hret : ∀ x og vs gs kk k' t' n' h' tk', k ≤ k' → k' ≤ k + 7 → Fr h₀ L h' m → News h₀ L h' ((lp, W.listOf #[.int k' t'] n') :: (x, og) :: rest) → x ≠ lp → (∀ q ∈ rest, q.1 ≠ x) → og.cls = .type "tuple" → og.data = .seq (List.toArray vs) kk → IntsAre vs gs → gs.length ≤ 5 → (∀ g ∈ gs, 0 ≤ g ∧ g < 10000) → Q (.ref x) { s with heap := h', toks := tk' }),
    wpAny (model PySem.Challenge.rw_pb0182_01.row.prog w) A (call (.ref 293) [.ref f]) Q E s
noncomputable def c_law_glyphs_ok := @Classical.epsilon ((World) × (Program) × (List Str) × (ExcName → Option Value) × (Str → Option Value) × (Str → Option Value) × (Around) × (Around) × (Env) × (List Env) × (Heap) × (Heap) × (Addr) × (Str → Option Value) × (List (Addr × Obj)) × (Shared) × (Value → Shared → Prop) × (Value → Shared → Prop) × (Addr) × (Addr) × (List (Addr × Obj)) × (Int) × (Nat) × (Tok)) ⟨(wDef, default, [], fun _ => none, fun _ => none, fun _ => none, callerA, callerA, default, [], default, default, 0, fun _ => none, [], (PySem.start default).1, fun _ _ => True, fun _ _ => True, 0, 0, [], 0, 0, 0)⟩ fun v => ¬ P_law_glyphs_ok v.1 v.2.1 v.2.2.1 v.2.2.2.1 v.2.2.2.2.1 v.2.2.2.2.2.1 v.2.2.2.2.2.2.1 v.2.2.2.2.2.2.2.1 v.2.2.2.2.2.2.2.2.1 v.2.2.2.2.2.2.2.2.2.1 v.2.2.2.2.2.2.2.2.2.2.1 v.2.2.2.2.2.2.2.2.2.2.2.1 v.2.2.2.2.2.2.2.2.2.2.2.2.1 v.2.2.2.2.2.2.2.2.2.2.2.2.2.1 v.2.2.2.2.2.2.2.2.2.2.2.2.2.2.1 v.2.2.2.2.2.2.2.2.2.2.2.2.2.2.2.1 v.2.2.2.2.2.2.2.2.2.2.2.2.2.2.2.2.1 v.2.2.2.2.2.2.2.2.2.2.2.2.2.2.2.2.2.1 v.2.2.2.2.2.2.2.2.2.2.2.2.2.2.2.2.2.2.1 v.2.2.2.2.2.2.2.2.2.2.2.2.2.2.2.2.2.2.2.1 v.2.2.2.2.2.2.2.2.2.2.2.2.2.2.2.2.2.2.2.2.1 v.2.2.2.2.2.2.2.2.2.2.2.2.2.2.2.2.2.2.2.2.2.1 v.2.2.2.2.2.2.2.2.2.2.2.2.2.2.2.2.2.2.2.2.2.2.1 v.2.2.2.2.2.2.2.2.2.2.2.2.2.2.2.2.2.2.2.2.2.2.2
namespace K_law_glyphs_ok
@[irreducible] noncomputable def w : World := c_law_glyphs_ok.1
@[irreducible] noncomputable def p : Program := c_law_glyphs_ok.2.1
@[irreducible] noncomputable def loose : List Str := c_law_glyphs_ok.2.2.1
@[irreducible] noncomputable def mean : ExcName → Option Value := c_law_glyphs_ok.2.2.2.1
@[irreducible] noncomputable def mg : Str → Option Value := c_law_glyphs_ok.2.2.2.2.1
@[irreducible] noncomputable def mb : Str → Option Value := c_law_glyphs_ok.2.2.2.2.2.1
@[irreducible] noncomputable def A : Around := c_law_glyphs_ok.2.2.2.2.2.2.1
@[irreducible] noncomputable def A₀ : Around := c_law_glyphs_ok.2.2.2.2.2.2.2.1
@[irreducible] noncomputable def env : Env := c_law_glyphs_ok.2.2.2.2.2.2.2.2.1
@[irreducible] noncomputable def outer : List Env := c_law_glyphs_ok.2.2.2.2.2.2.2.2.2.1
@[irreducible] noncomputable def base : Heap := c_law_glyphs_ok.2.2.2.2.2.2.2.2.2.2.1
@[irreducible] noncomputable def h₀ : Heap := c_law_glyphs_ok.2.2.2.2.2.2.2.2.2.2.2.1
@[irreducible] noncomputable def L : Nat := c_law_glyphs_ok.2.2.2.2.2.2.2.2.2.2.2.2.1
@[irreducible] noncomputable def m : Str → Option Value := c_law_glyphs_ok.2.2.2.2.2.2.2.2.2.2.2.2.2.1
@[irreducible] noncomputable def rest : List (Addr × Obj) := c_law_glyphs_ok.2.2.2.2.2.2.2.2.2.2.2.2.2.2.1
@[irreducible] noncomputable def s : Shared := c_law_glyphs_ok.2.2.2.2.2.2.2.2.2.2.2.2.2.2.2.1
@[irreducible] noncomputable def Q : Value → Shared → Prop := c_law_glyphs_ok.2.2.2.2.2.2.2.2.2.2.2.2.2.2.2.2.1
@[irreducible] noncomputable def E : Value → Shared → Prop := c_law_glyphs_ok.2.2.2.2.2.2.2.2.2.2.2.2.2.2.2.2.2.1
@[irreducible] noncomputable def f : Nat := c_law_glyphs_ok.2.2.2.2.2.2.2.2.2.2.2.2.2.2.2.2.2.2.1
@[irreducible] noncomputable def lp : Nat := c_law_glyphs_ok.2.2.2.2.2.2.2.2.2.2.2.2.2.2.2.2.2.2.2.1
@[irreducible] noncomputable def T : List (Addr × Obj) := c_law_glyphs_ok.2.2.2.2.2.2.2.2.2.2.2.2.2.2.2.2.2.2.2.2.1
@[irreducible] noncomputable def k : Int := c_law_glyphs_ok.2.2.2.2.2.2.2.2.2.2.2.2.2.2.2.2.2.2.2.2.2.1
@[irreducible] noncomputable def n : Nat := c_law_glyphs_ok.2.2.2.2.2.2.2.2.2.2.2.2.2.2.2.2.2.2.2.2.2.2.1
@[irreducible] noncomputable def t : Tok := c_law_glyphs_ok.2.2.2.2.2.2.2.2.2.2.2.2.2.2.2.2.2.2.2.2.2.2.2
noncomputable def body : { P : Heap → Addr → Heap → Prop // ∀ (C : Cx w p loose mean mg mb A A₀ env outer base h₀ L) (F : Fr h₀ L s.heap m) (N : News h₀ L s.heap ((lp, W.listOf #[.int k t] n) :: rest)) (hcd : CodeHd h₀ 275 271) (tok : TakeOK w p loose mean mg mb f lp T) (hf : IsFn f T) (hT : ∀ q ∈ T, q ∈ rest) (nb : ∀ q ∈ rest, q.1 ≠ lp) (hk0 : 0 ≤ k) (hk1 : k ≤ 180) (hd : A.depth ≤ 870) (hu : A.units ≤ 4700) (hret : ∀ x og vs gs kk k' t' n' h' tk', k ≤ k' → k' ≤ k + 7 → Fr h₀ L h' m → News h₀ L h' ((lp, W.listOf #[.int k' t'] n') :: (x, og) :: rest) → x ≠ lp → (∀ q ∈ rest, q.1 ≠ x) → og.cls = .type "tuple" → og.data = .seq (List.toArray vs) kk → IntsAre vs gs → gs.length ≤ 5 → (∀ g ∈ gs, 0 ≤ g ∧ g < 10000) → Q (.ref x) { s with heap := h', toks := tk' }), (∀ g' L' h₁, P g' L' h₁) →
    wpAny (model PySem.Challenge.rw_pb0182_01.row.prog w) A (call (.ref 293) [.ref f]) Q E s } := by
  refine' ⟨_, _⟩
  rotate_left
  intro C F N hcd tok hf hT nb hk0 hk1 hd hu hret hBody
  refine wpAny_call ?_
  k_dflt (refine' enter_plain C F N ?k6 ?k7 ?k8 ?k9 ?kB ?_ ?c2 ?c3 ?c4 ?c5)
  case k6 => k_is
  case k7 => k_is
  case k8 => exact Nat.lt_of_le_of_lt hd (by decide)
  case k9 => exact BindsTo.of_eq rfl
  case c5 => decide
  case kB => exact locs rfl
  case c2 => exact rfl
  case c3 => exact rfl
  case c4 => exact rfl
  exact hBody
noncomputable def PB (v : Heap × Addr × Heap) : Prop := ∀ (C : Cx w p loose mean mg mb A A₀ env outer base h₀ L) (F : Fr h₀ L s.heap m) (N : News h₀ L s.heap ((lp, W.listOf #[.int k t] n) :: rest)) (hcd : CodeHd h₀ 275 271) (tok : TakeOK w p loose mean mg mb f lp T) (hf : IsFn f T) (hT : ∀ q ∈ T, q ∈ rest) (nb : ∀ q ∈ rest, q.1 ≠ lp) (hk0 : 0 ≤ k) (hk1 : k ≤ 180) (hd : A.depth ≤ 870) (hu : A.units ≤ 4700) (hret : ∀ x og vs gs kk k' t' n' h' tk', k ≤ k' → k' ≤ k + 7 → Fr h₀ L h' m → News h₀ L h' ((lp, W.listOf #[.int k' t'] n') :: (x, og) :: rest) → x ≠ lp → (∀ q ∈ rest, q.1 ≠ x) → og.cls = .type "tuple" → og.data = .seq (List.toArray vs) kk → IntsAre vs gs → gs.length ≤ 5 → (∀ g ∈ gs, 0 ≤ g ∧ g < 10000) → Q (.ref x) { s with heap := h', toks := tk' }), body.1 v.1 v.2.1 v.2.2
noncomputable def cb := @Classical.epsilon (Heap × Addr × Heap) ⟨(default, 0, default)⟩ fun v => ¬ PB v
@[irreducible] noncomputable def g' : Heap := cb.1
@[irreducible] noncomputable def L' : Nat := cb.2.1
@[irreducible] noncomputable def h₁ : Heap := cb.2.2
theorem inner : PB (g', L', h₁) := by
  have st0 : Stop "mem 2" := .mk
  have st1 : Stop "name ld" := .mk
  have st2 : Stop "call ref" := .mk
  have st3 : Stop "subscriptTail" := .mk
  have st4 : Stop "call type:tuple" := .mk
  have st5 : Stop "call builtin:list.append" := .mk
  have st6 : Stop "exec For Name Call cons nil" := .mk
  unfold PB
  intro C F N hcd tok hf hT nb hk0 hk1 hd hu hret
  delta body
  dsimp only
  intro C₁ F₁ N₁ G₁ l1
  try k_fold
  have X₁ := C₁.X
  have T₁ := C₁.T
  have B₁ := C₁.B
  first | (refine foldA ?_; intro qC eC) | (refine foldC ?_; intro qC eC)
  have hcd₁ : CodeHd g' 275 271 := hcd.keeps (base_up F N G₁)
  try k_fold
  obtain ⟨foc, fod, ffd, fsl, hfm⟩ := hf
  have hfr := hT _ hfm
  try k_fold
  k_steps
  rename News _ _ _ _ => N₂
  rename _ ∧ AllLt _ _ => l2
  rename_i lf hx1 hx2 F₂
  have nlf := allLt_ne l2.2
  refine Hold.go (take_call tok C₁ (by assumption) (news_swap N₂) hcd₁ (fun q hq => .tail _ (hT q hq)) (off_cons (Ne.symm (Nat.ne_of_lt l2.1)) nb) hk0 (by omega) (by decide) (by decide) (Nat.le_trans (Nat.add_le_add_right hd 1) (by decide)) (Nat.le_trans (Nat.add_le_add_right hu 3) (by decide)) fun v1 ta tb n1 h₃ tk₃ hv0 hv1 F₃ N₃ => ?_)
  try k_fold
  k_steps
  refine Hold.go (forA_range (h₀ := g') (L := L') C₁.hh ?_ (by passes_own))
  try k_fold
  k_steps
  rename News _ _ _ _ => N₄
  refine Hold.go (take_call tok C₁ (by assumption) N₄ hcd₁ (fun q hq => .tail _ (hT q hq)) (off_cons (Ne.symm (Nat.ne_of_lt l2.1)) nb) (by omega) (by omega) (by decide) (by decide) (Nat.le_trans (Nat.add_le_add_right hd 1) (by decide)) (Nat.le_trans (Nat.add_le_add_right hu 3) (by decide)) fun v2 tc td n2 h₅ tk₅ hw0 hw1 F₅ N₅ => ?_)
  try k_fold
  k_steps
  rename News _ _ _ _ => N₆
  have lfl : lp ≠ lf := Nat.ne_of_lt l2.1
  refine Hold.go ⟨_, _, _, _, _, _, v2.toNat, _, _, fun i m nw => m ("found" : Str) = some (.ref lf) ∧ m ("take" : Str) = some (.ref f) ∧ (∃ a t, m ("last" : Str) = some (.int a t) ∧ 0 ≤ a ∧ a < 400 + 300 * (i : Int)) ∧
    ∃ vs gs kk n k' t', nw = (lp, W.listOf #[.int k' t'] kk) :: (lf, W.listOf (List.toArray vs) n) :: rest ∧ k ≤ k' ∧ k' ≤ k + 2 + i ∧ IntsAre vs gs ∧ gs.length = i ∧ ∀ g ∈ gs, 0 ≤ g ∧ g < 10000, rfl, by assumption, ⟨by decide, by decide, by omega, by omega⟩, by omega, by assumption, N₆, ?_, ?_⟩
  · exact ⟨rfl, rfl, ⟨_, _, rfl, by omega, by omega⟩, [], [], _, 0, _, _, rfl, by omega, by omega, .nil, rfl, by simp⟩
  · rintro s₂ ⟨g₂, rfl⟩
    refine ⟨?_, ?_⟩
    · intro i v m₁ nw I oI h tk hi' hp1 hp2 F₇ N₇ offI
      try k_fold
      obtain ⟨ti, rfl⟩ := hp1
      try k_fold
      obtain ⟨hm1, hm2, ⟨la, tla, hm3, hla0, hla1⟩, vs, gs, kk, nn, k', t', rfl, hk2, hk3, hI, hgl, hgb⟩ := hp2
      try k_fold
      k_steps
      rename News _ _ _ _ => N₈
      rename Fr _ _ _ _ => F₈
      have offlp : lp ≠ I := offI _ (.head _)
      have offlf : lf ≠ I := offI _ (.tail _ (.head _))
      refine Hold.go (append_K F₈ N₈ (.tail (Ne.symm offlf) (.tail lfl (.head nlf))) (fun h₉ F₉ N₉ => ?_) (by rw [List.size_toArray, hI.length, sizeLine_eq]; omega))
      try k_fold
      k_steps
      rename News _ _ _ _ => N₁₀
      rename Fr _ _ _ _ => F₁₀
      rename_i D hx9 lD
      refine Hold.go (take_call tok C₁ F₁₀ (news_pull2 N₁₀) hcd₁ (fun q hq => .tail _ (.tail _ (.tail _ (hT q hq)))) (off_cons (Ne.symm (Nat.ne_of_lt lD.2.1)) (off_cons (Ne.symm offlp) (off_cons (Ne.symm lfl) nb))) (by omega) (by omega) (by decide) (by decide) (Nat.le_trans (Nat.add_le_add_right hd 1) (by decide)) (Nat.le_trans (Nat.add_le_add_right hu 3) (by decide)) fun v3 te tf n3 h₁₁ tk₁₁ hx0 hx1 F₁₁ N₁₁ => ?_)
      refine Hold.go (menuAt (ns := [1, 1, 1, 2, 300]) (tup_src N₁₁ (.tail _ (.head _)) rfl rfl) (.cons _ _ (.cons _ _ (.cons _ _ (.cons _ _ (.cons _ _ .nil))))) hx0 hx1 (by decide) fun nm tm hnm => ?_)
      have hnb : 1 ≤ nm ∧ nm ≤ 300 := by
        simp only [List.mem_cons, List.not_mem_nil, or_false] at hnm
        omega
      try k_fold
      k_steps
      rename News _ _ _ _ => N₁₂
      rename Fr _ _ _ _ => F₁₂
      try dsimp only
      refine Hold.go ⟨_, _, _, (lp, W.listOf #[.int (k' + 1) te] n3) :: (lf, W.listOf (vs ++ [Value.int la tla]).toArray (nn + 1)) :: rest, rfl, F₁₂, fun q hq => ?_, fun q hq => ?_, hm1, hm2, ⟨_, _, rfl, by omega, by omega⟩, vs ++ [Value.int la tla], gs ++ [la], _, _, _, _, rfl, by omega, by omega, hI.append (.cons _ _ .nil), by simp [hgl], fun g hg => ?_⟩
      · rw [List.push_toArray] at N₁₂
        refine N₁₂ q ?_
        revert q; refine fa_cons ?_ fun q hq => ?_
        · exact .tail _ (.tail _ (.head _))
        · revert q; refine fa_cons ?_ fun q hq => ?_
          · exact .head _
          · exact .tail _ (.tail _ (.tail _ hq))
      · revert q; refine fa_cons ?_ fun q hq => ?_
        · exact offlp
        · revert q; refine fa_cons ?_ fun q hq => ?_
          · exact offlf
          · exact offI q (.tail _ (.tail _ hq))
      · rcases List.mem_append.mp hg with hg | hg
        · exact hgb g hg
        · rw [List.mem_singleton.mp hg]; omega
    · intro h tk m₁ nw F₇ N₇ hp1
      try k_fold
      obtain ⟨hm1, hm2, _, vs, gs, kk, nn, k', t', rfl, hk2, hk3, hI, hgl, hgb⟩ := hp1
      try dsimp only
      try k_fold
      k_steps
      have hgl' : gs.length ≤ 5 := by omega
      refine Hold.go (tuple_new (by assumption) N₇ ⟨_, (N₇ _ (.tail _ (.head _))).1, rfl, _, rfl⟩ (fun Dt h₈ F₈ N₈ l8 => ?_) (by rw [hI.length]; omega))
      try k_fold
      k_steps
      refine ⟨_, _, _, F₈, N₈, fun Ff Nf => hret Dt { cls := .type "tuple", data := .seq vs.toArray } vs gs _ k' t' kk _ _ hk2 (by omega) Ff (fun q hq => Nf q ?_) (Ne.symm (Nat.ne_of_lt (l8 _ (.head _)))) (fun q hq => Nat.ne_of_lt (l8 _ (.tail _ (.tail _ hq)))) rfl rfl hI hgl' hgb⟩
      revert q; refine fa_cons ?_ fun q hq => ?_
      · exact .tail _ (.head _)
      · revert q; refine fa_cons ?_ fun q hq => ?_
        · exact .head _
        · exact .tail _ (.tail _ (.tail _ hq))
theorem core : P_law_glyphs_ok w p loose mean mg mb A A₀ env outer base h₀ L m rest s Q E f lp T k n t := by
  unfold P_law_glyphs_ok
  intro C F N hcd tok hf hT nb hk0 hk1 hd hu hret
  exact body.2 C F N hcd tok hf hT nb hk0 hk1 hd hu hret fun g' L' h₁ => eps_all (P := PB) (by with_unfolding_all exact inner) (g', L', h₁) C F N hcd tok hf hT nb hk0 hk1 hd hu hret
end K_law_glyphs_ok
theorem law_glyphs_ok {w : World} {p : Program} {loose : List Str} {mean : ExcName → Option Value} {mg : Str → Option Value} {mb : Str → Option Value} {A : Around} {A₀ : Around} {env : Env} {outer : List Env} {base : Heap} {h₀ : Heap} {L : Addr} {m : Str → Option Value} {rest : List (Addr × Obj)} {s : Shared} {Q : Value → Shared → Prop} {E : Value → Shared → Prop} {f lp : Addr} {T : List (Addr × Obj)} {k : Int} {n : Nat} {t : Tok} (C : Cx w p loose mean mg mb A A₀ env outer base h₀ L) (F : Fr h₀ L s.heap m) (N : News h₀ L s.heap ((lp, W.listOf #[.int k t] n) :: rest)) (hcd : CodeHd h₀ 275 271) (tok : TakeOK w p loose mean mg mb f lp T) (hf : IsFn f T) (hT : ∀ q ∈ T, q ∈ rest) (nb : ∀ q ∈ rest, q.1 ≠ lp) (hk0 : 0 ≤ k) (hk1 : k ≤ 180) (hd : A.depth ≤ 870) (hu : A.units ≤ 4700) (hret : ∀ x og vs gs kk k' t' n' h' tk', k ≤ k' → k' ≤ k + 7 → Fr h₀ L h' m → News h₀ L h' ((lp, W.listOf #[.int k' t'] n') :: (x, og) :: rest) → x ≠ lp → (∀ q ∈ rest, q.1 ≠ x) → og.cls = .type "tuple" → og.data = .seq (List.toArray vs) kk → IntsAre vs gs → gs.length ≤ 5 → (∀ g ∈ gs, 0 ≤ g ∧ g < 10000) → Q (.ref x) { s with heap := h', toks := tk' }) :
    wpAny (model PySem.Challenge.rw_pb0182_01.row.prog w) A (call (.ref 293) [.ref f]) Q E s :=
  eps_all (P := fun v => P_law_glyphs_ok v.1 v.2.1 v.2.2.1 v.2.2.2.1 v.2.2.2.2.1 v.2.2.2.2.2.1 v.2.2.2.2.2.2.1 v.2.2.2.2.2.2.2.1 v.2.2.2.2.2.2.2.2.1 v.2.2.2.2.2.2.2.2.2.1 v.2.2.2.2.2.2.2.2.2.2.1 v.2.2.2.2.2.2.2.2.2.2.2.1 v.2.2.2.2.2.2.2.2.2.2.2.2.1 v.2.2.2.2.2.2.2.2.2.2.2.2.2.1 v.2.2.2.2.2.2.2.2.2.2.2.2.2.2.1 v.2.2.2.2.2.2.2.2.2.2.2.2.2.2.2.1 v.2.2.2.2.2.2.2.2.2.2.2.2.2.2.2.2.1 v.2.2.2.2.2.2.2.2.2.2.2.2.2.2.2.2.2.1 v.2.2.2.2.2.2.2.2.2.2.2.2.2.2.2.2.2.2.1 v.2.2.2.2.2.2.2.2.2.2.2.2.2.2.2.2.2.2.2.1 v.2.2.2.2.2.2.2.2.2.2.2.2.2.2.2.2.2.2.2.2.1 v.2.2.2.2.2.2.2.2.2.2.2.2.2.2.2.2.2.2.2.2.2.1 v.2.2.2.2.2.2.2.2.2.2.2.2.2.2.2.2.2.2.2.2.2.2.1 v.2.2.2.2.2.2.2.2.2.2.2.2.2.2.2.2.2.2.2.2.2.2.2) (by with_unfolding_all exact K_law_glyphs_ok.core) (w, p, loose, mean, mg, mb, A, A₀, env, outer, base, h₀, L, m, rest, s, Q, E, f, lp, T, k, n, t) C F N hcd tok hf hT nb hk0 hk1 hd hu hret
end
end Mine
end TextG5
section TextW1
open PySem PySem.W PyProof.Rows PySem.Calls PySem.Spec
set_option Elab.async false
set_option maxRecDepth 100000
set_option maxHeartbeats 400000
namespace Mine
theorem fillW1 {w : World} {A : Around} {Q : Value → Shared → Prop} {E : Value → Shared → Prop} {s : Shared} (h : (hd0.heap_1 w.params).In s.heap → wpAny (model PySem.Challenge.rw_pb0182_01.row.prog w) A (call .none []) Q E s) :
    (hd0.heap_1 w.params).In s.heap → wpAny (model PySem.Challenge.rw_pb0182_01.row.prog w) A (call .none []) Q E s := by
  k_fill
  w_top off
  intro hX
  try walk1
  exact h hX
section
variable {w : World} {p : Program} {loose : List Str} {mean : ExcName → Option Value} {mg mb : Str → Option Value} {A A₀ : Around} {env : Env} {outer : List Env} {base h₀ : Heap} {L : Addr} {m : Str → Option Value} {news rest : List (Addr × Obj)} {s : Shared}
  {Q : Flow → Shared → Prop} {E : Value → Shared → Prop}
/-- of a function's object: what its run hangs on -/
noncomputable def fnPart (o : Obj) : Option (Str × List Stmt × Scope × Value) := match o.data with
  | .func fd => (match fd.body with | .stmts b => some (fd.qualname, b, fd.scope, fd.code) | _ => none)
  | _ => none
theorem fn_cases {K : Frag} {a : Addr} {name' qual' : Str} {params' : Arguments} {b' : List Stmt} {scope' : Scope} {dV' kV' doc' pm' cdv' ct' oc' : Value} {an' od' : Option Addr} {osl' : Array (Option Value)} {P : Str → List Stmt → Scope → Value → Prop}
    (h' : K.lookup a = some ⟨oc', od', .func (fnOf name' qual' params' b' scope' dV' kV' doc' pm' an' cdv' ct'), osl'⟩) (k : ∀ bb, bb = b' → P qual' bb scope' cdv') :
    ∀ (name qual : Str) (params : Arguments) (b : List Stmt) (scope : Scope) (dV kV doc pm cdv ct oc : Value) (an od : Option Addr) (osl : Array (Option Value)), K.lookup a = some ⟨oc, od, .func (fnOf name qual params b scope dV kV doc pm an cdv ct), osl⟩ → P qual b scope cdv := by
  intro name qual params b scope dV kV doc pm cdv ct oc an od osl h
  have z : (qual, b, scope, cdv) = (qual', b', scope', cdv') := Option.some.inj (congrArg fnPart (Option.some.inj (h.symm.trans h')))
  exact (congrArg (fun x : Str × List Stmt × Scope × Value => P x.1 x.2.1 x.2.2.1 x.2.2.2) z).mpr (k _ rfl)
section
variable {M : Model} {A : Around} {env : Env} {Q : Flow → Shared → Prop} {E : Value → Shared → Prop} {s : Shared} {b LL : List Stmt} {n : Nat}
theorem drop_next {l r : List Stmt} {x : Stmt} (h : l.drop n = x :: r) : r = l.drop (n + 1) := by
  have := congrArg (List.drop 1) h
  rw [List.drop_drop] at this
  exact this.symm
theorem start1 {r : List Stmt} {x0 : Stmt} (e : b = LL) (h : LL.drop n = x0 :: r) (k : wpC M A (execs (x0 :: b.drop (n + 1)) env) Q E s) : wpC M A (execs (b.drop n) env) Q E s := by
  subst e
  rw [h]
  have h1 := drop_next h
  rw [h1]
  exact k
theorem start2 {r : List Stmt} {x0 x1 : Stmt} (e : b = LL) (h : LL.drop n = x0 :: x1 :: r) (k : ∀ x1', x1 = x1' → wpC M A (execs (x0 :: x1' :: b.drop (n + 2)) env) Q E s) : wpC M A (execs (b.drop n) env) Q E s := by
  subst e
  rw [h]
  have h1 := drop_next h
  have h2 := drop_next h1.symm
  rw [h2]
  exact k _ rfl
theorem start3 {r : List Stmt} {x0 x1 x2 : Stmt} (e : b = LL) (h : LL.drop n = x0 :: x1 :: x2 :: r) (k : ∀ x1' x2', x1 = x1' → x2 = x2' → wpC M A (execs (x0 :: x1' :: x2' :: b.drop (n + 3)) env) Q E s) : wpC M A (execs (b.drop n) env) Q E s := by
  subst e
  rw [h]
  have h1 := drop_next h
  have h2 := drop_next h1.symm
  have h3 := drop_next h2.symm
  rw [h3]
  exact k _ _ rfl rfl
theorem start5 {r : List Stmt} {x0 x1 x2 x3 x4 : Stmt} (e : b = LL) (h : LL.drop n = x0 :: x1 :: x2 :: x3 :: x4 :: r) (k : ∀ x1' x2' x3' x4', x1 = x1' → x2 = x2' → x3 = x3' → x4 = x4' → wpC M A (execs (x0 :: x1' :: x2' :: x3' :: x4' :: b.drop (n + 5)) env) Q E s) : wpC M A (execs (b.drop n) env) Q E s := by
  subst e
  rw [h]
  have h1 := drop_next h
  have h2 := drop_next h1.symm
  have h3 := drop_next h2.symm
  have h4 := drop_next h3.symm
  have h5 := drop_next h4.symm
  rw [h5]
  exact k _ _ _ _ rfl rfl rfl rfl
theorem start2E {x0 x1 : Stmt} (e : b = LL) (h : LL.drop n = x0 :: x1 :: []) (k : ∀ x1', x1 = x1' → wpC M A (execs (x0 :: x1' :: []) env) Q E s) : wpC M A (execs (b.drop n) env) Q E s := by
  subst e
  rw [h]
  exact k _ rfl
end
theorem stored_app {kvs : List (Int × Value)} {k : Int} {v : Value} (h : k ∉ kvs.map (·.1)) : stored kvs k v = kvs ++ [(k, v)] := by
  unfold stored
  rw [if_neg]
  simp only [List.any_eq_true, decide_eq_true_eq, not_exists, not_and]
  rintro x hx rfl
  exact h (List.mem_map_of_mem hx)
/-- a tuple of ints of the ledger's -/
noncomputable def TupIn (nw : List (Addr × Obj)) (v : Value) (gs : List Int) : Prop := ∃ x og vs k, v = .ref x ∧ (x, og) ∈ nw ∧ og.cls = .type "tuple" ∧ og.data = .seq (List.toArray vs) k ∧ IntsAre vs gs
inductive TupsIn (nw : List (Addr × Obj)) : List Value → List (List Int) → Prop
  | nil : TupsIn nw [] []
  | cons {v gs vs gss} : TupIn nw v gs → TupsIn nw vs gss → TupsIn nw (v :: vs) (gs :: gss)
theorem TupIn.mono {nw nw' : List (Addr × Obj)} {v : Value} {gs : List Int} (h : ∀ p ∈ nw, p ∈ nw') (H : TupIn nw v gs) : TupIn nw' v gs := by
  try k_fold
  obtain ⟨x, og, vs, k, e, hm, r⟩ := H
  exact ⟨x, og, vs, k, e, h _ hm, r⟩
theorem TupsIn.mono {nw nw' : List (Addr × Obj)} (h : ∀ p ∈ nw, p ∈ nw') {vs : List Value} {gss : List (List Int)} (H : TupsIn nw vs gss) : TupsIn nw' vs gss := by
  induction H with
  | nil => exact .nil
  | cons a _ ih => exact .cons (a.mono h) ih
theorem TupsIn.append {nw : List (Addr × Obj)} {vs ws : List Value} {ls ms : List (List Int)} (H : TupsIn nw vs ls) (h : TupsIn nw ws ms) : TupsIn nw (vs ++ ws) (ls ++ ms) := by
  induction H with
  | nil => exact h
  | cons a _ ih => exact .cons a ih
theorem TupsIn.length {nw : List (Addr × Obj)} {vs : List Value} {ls : List (List Int)} (H : TupsIn nw vs ls) : vs.length = ls.length := by
  induction H with
  | nil => rfl
  | cons _ _ ih => exact congrArg (· + 1) ih
theorem TupsIn.at {nw : List (Addr × Obj)} {vs : List Value} {ls : List (List Int)} (H : TupsIn nw vs ls) : ∀ {i : Nat} {v}, vs[i]? = some v → ∃ l, ls[i]? = some l ∧ TupIn nw v l := by
  induction H with
  | nil => intro i v h; simp at h
  | cons c _ ih =>
    intro i v h
    cases i with
    | zero => cases h; exact ⟨_, rfl, c⟩
    | succ i => exact ih h
/-- few ints, none beyond 16 bits -/
noncomputable def Fine (gss : List (List Int)) : Prop := ∀ gs ∈ gss, gs.length ≤ 5 ∧ ∀ g ∈ gs, 0 ≤ g ∧ g < 10000
/-- what stands when the law has taken its mapping and the shared glyphs -/
structure LawSt (w : World) (p : Program) (loose : List Str) (mean : ExcName → Option Value) (mg mb : Str → Option Value) (L f lp D : Addr) (k : Int) (T R : List (Addr × Obj)) (kvs : List (Int × Value)) (gss : List (List Int)) : Prop where
  tok : TakeOK w p loose mean mg mb f lp T
  isf : IsFn f T
  hT : ∀ q ∈ T, q ∈ R
  off : ∀ q ∈ R, q.1 ≠ lp
  k0 : 0 ≤ k
  c1 : ∃ o : Obj, (L + 1, o) ∈ R ∧ o.data = .cell (some (.ref f))
  c2 : ∃ o : Obj, (L + 1 + 1, o) ∈ R ∧ o.data = .cell (some (.ref D))
  c3 : ∃ (o : Obj) (ls : Addr) (ys : List Value), (L + 1 + 1 + 1, o) ∈ R ∧ o.data = .cell (some (.ref ls)) ∧ (ls, LCg.lst ys) ∈ R ∧ TupsIn R ys gss
  g2 : gss.length = 2
  fine : Fine gss
  dm : ∃ o : Obj, (D, o) ∈ R ∧ o.IsDictOf (PySem.intKind PySem.Challenge.rw_pb0182_01.row.prog w) kvs
  lom : (D == sysModules) = false
  tab : ∃ ps, (271, tabObj ps) ∈ R
  kl : kvs.length ≤ 5
  kk : ∀ key ∈ kvs.map (·.1), 0 ≤ key ∧ key < 2000
  kp : (kvs.map (·.1)).Pairwise (· < ·)
  kv : ∀ q ∈ kvs, ∃ n t, q.2 = .int n t ∧ 0 ≤ n ∧ n < 65536
end
section
noncomputable def P_lawA (w : World) (p : Program) (loose : List Str) (mean : ExcName → Option Value) (mg : Str → Option Value) (mb : Str → Option Value) (A : Around) (A₀ : Around) (outer : List Env) (base : Heap) (h₀ : Heap) (L : Addr) (m : Str → Option Value) (s : Shared) (Q : Flow → Shared → Prop) (E : Value → Shared → Prop) (ls : Addr) (vs : List Value) (ns : List Int) (o1 : Obj) (o2 : Obj) (o3 : Obj) : Prop := ∀ (name : Str) (qual : Str) (params : Arguments) (bb : List Stmt) (scope : Scope) (dV : Value) (kV : Value) (doc : Value) (pm : Value) (cdv : Value) (ct : Value) (oc : Value) (an : Option Addr) (od : Option Addr) (osl : Array (Option Value)) (hb : (hd0.heap_1 w.params).lookup 305 = some ⟨oc, od, .func (fnOf name qual params bb scope dV kV doc pm an cdv ct), osl⟩) (C : Cx w p loose mean mg mb A A₀ (envOfC qual scope L 305 cdv) outer base h₀ L) (F : Fr h₀ L s.heap m) (N : News h₀ L s.heap [(L + 1, o1), (L + 1 + 1, o2), (L + 1 + 1 + 1, o3), (271, tabObj #[])]) (ho1 : o1.data = .cell none) (ho2 : o2.data = .cell none) (ho3 : o3.data = .cell none) (hm : m ("script" : Str) = some (.ref ls)) (hd : A.depth ≤ 800) (hu : A.units ≤ 4000) (hcd : CodeHd h₀ 275 271) (hl : h₀.IsList ls vs.toArray) (hi : IntsAre vs ns) (hlen : ns.length ≤ 63) (h271 : 271 < L) (hE : PassesOwn (model PySem.Challenge.rw_pb0182_01.row.prog w) A (envOfC qual scope L 305 cdv) E) (hK : ∀ f lp D k t n T R kvs gss m' h' tk', k ≤ 26 → LawSt w p loose mean mg mb L f lp D k T R kvs gss → Fr h₀ L h' m' → News h₀ L h' ((lp, W.listOf #[.int k t] n) :: R) → wpC (model PySem.Challenge.rw_pb0182_01.row.prog w) A (execs (bb.drop 5) (envOfC qual scope L 305 cdv)) Q E { s with heap := h', toks := tk' }),
    wpC (model PySem.Challenge.rw_pb0182_01.row.prog w) A (execs bb (envOfC qual scope L 305 cdv)) Q E s
noncomputable def c_lawA := @Classical.epsilon ((World) × (Program) × (List Str) × (ExcName → Option Value) × (Str → Option Value) × (Str → Option Value) × (Around) × (Around) × (List Env) × (Heap) × (Heap) × (Addr) × (Str → Option Value) × (Shared) × (Flow → Shared → Prop) × (Value → Shared → Prop) × (Addr) × (List Value) × (List Int) × (Obj) × (Obj) × (Obj)) ⟨(wDef, default, [], fun _ => none, fun _ => none, fun _ => none, callerA, callerA, [], default, default, 0, fun _ => none, (PySem.start default).1, fun _ _ => True, fun _ _ => True, 0, [], [], default, default, default)⟩ fun v => ¬ P_lawA v.1 v.2.1 v.2.2.1 v.2.2.2.1 v.2.2.2.2.1 v.2.2.2.2.2.1 v.2.2.2.2.2.2.1 v.2.2.2.2.2.2.2.1 v.2.2.2.2.2.2.2.2.1 v.2.2.2.2.2.2.2.2.2.1 v.2.2.2.2.2.2.2.2.2.2.1 v.2.2.2.2.2.2.2.2.2.2.2.1 v.2.2.2.2.2.2.2.2.2.2.2.2.1 v.2.2.2.2.2.2.2.2.2.2.2.2.2.1 v.2.2.2.2.2.2.2.2.2.2.2.2.2.2.1 v.2.2.2.2.2.2.2.2.2.2.2.2.2.2.2.1 v.2.2.2.2.2.2.2.2.2.2.2.2.2.2.2.2.1 v.2.2.2.2.2.2.2.2.2.2.2.2.2.2.2.2.2.1 v.2.2.2.2.2.2.2.2.2.2.2.2.2.2.2.2.2.2.1 v.2.2.2.2.2.2.2.2.2.2.2.2.2.2.2.2.2.2.2.1 v.2.2.2.2.2.2.2.2.2.2.2.2.2.2.2.2.2.2.2.2.1 v.2.2.2.2.2.2.2.2.2.2.2.2.2.2.2.2.2.2.2.2.2
namespace K_lawA
@[irreducible] noncomputable def w : World := c_lawA.1
@[irreducible] noncomputable def p : Program := c_lawA.2.1
@[irreducible] noncomputable def loose : List Str := c_lawA.2.2.1
@[irreducible] noncomputable def mean : ExcName → Option Value := c_lawA.2.2.2.1
@[irreducible] noncomputable def mg : Str → Option Value := c_lawA.2.2.2.2.1
@[irreducible] noncomputable def mb : Str → Option Value := c_lawA.2.2.2.2.2.1
@[irreducible] noncomputable def A : Around := c_lawA.2.2.2.2.2.2.1
@[irreducible] noncomputable def A₀ : Around := c_lawA.2.2.2.2.2.2.2.1
@[irreducible] noncomputable def outer : List Env := c_lawA.2.2.2.2.2.2.2.2.1
@[irreducible] noncomputable def base : Heap := c_lawA.2.2.2.2.2.2.2.2.2.1
@[irreducible] noncomputable def h₀ : Heap := c_lawA.2.2.2.2.2.2.2.2.2.2.1
@[irreducible] noncomputable def L : Nat := c_lawA.2.2.2.2.2.2.2.2.2.2.2.1
@[irreducible] noncomputable def m : Str → Option Value := c_lawA.2.2.2.2.2.2.2.2.2.2.2.2.1
@[irreducible] noncomputable def s : Shared := c_lawA.2.2.2.2.2.2.2.2.2.2.2.2.2.1
@[irreducible] noncomputable def Q : Flow → Shared → Prop := c_lawA.2.2.2.2.2.2.2.2.2.2.2.2.2.2.1
@[irreducible] noncomputable def E : Value → Shared → Prop := c_lawA.2.2.2.2.2.2.2.2.2.2.2.2.2.2.2.1
@[irreducible] noncomputable def ls : Nat := c_lawA.2.2.2.2.2.2.2.2.2.2.2.2.2.2.2.2.1
@[irreducible] noncomputable def vs : List Value := c_lawA.2.2.2.2.2.2.2.2.2.2.2.2.2.2.2.2.2.1
@[irreducible] noncomputable def ns : List Int := c_lawA.2.2.2.2.2.2.2.2.2.2.2.2.2.2.2.2.2.2.1
@[irreducible] noncomputable def o1 : Obj := c_lawA.2.2.2.2.2.2.2.2.2.2.2.2.2.2.2.2.2.2.2.1
@[irreducible] noncomputable def o2 : Obj := c_lawA.2.2.2.2.2.2.2.2.2.2.2.2.2.2.2.2.2.2.2.2.1
@[irreducible] noncomputable def o3 : Obj := c_lawA.2.2.2.2.2.2.2.2.2.2.2.2.2.2.2.2.2.2.2.2.2
theorem core : P_lawA w p loose mean mg mb A A₀ outer base h₀ L m s Q E ls vs ns o1 o2 o3 := by
  have st0 : Stop "all 2" := .mk
  have st1 : Stop "mem 2" := .mk
  have st2 : Stop "name local" := .mk
  have st3 : Stop "call ref" := .mk
  have st4 : Stop "setItem" := .mk
  have st5 : Stop "subscriptTail" := .mk
  have st6 : Stop "eval ListComp" := .mk
  have st7 : Stop "exec For Name Call cons nil" := .mk
  unfold P_lawA
  refine' fn_cases ?k6 ?_
  case k6 => k_is
  intro bb e C F N ho1 ho2 ho3 hm hd hu hcd hl hi hlen h271 hE hK
  obtain ⟨L, hL⟩ : ∃ l : Nat, l = L := ⟨L, rfl⟩
  subst hL
  refine start5 (n := 0) e rfl (fun a1' a2' a3' a4' h1 h2 h3 h4 => ?_)
  replace hcd := hold hcd
  have X' := C.X
  have T' := C.T
  have B' := C.B
  refine execsC_any ?_
  k_steps
  have nt : ∀ q ∈ [(L + 1, o1), (L + 1 + 1, o2), (L + 1 + 1 + 1, o3)], q.1 ≠ 271 := by
    intro q hq
    revert q; refine fa_cons ?_ fun q hq => ?_
    · exact Nat.ne_of_gt (Nat.lt_succ_of_lt h271)
    revert q; refine fa_cons ?_ fun q hq => ?_
    · exact Nat.ne_of_gt (Nat.lt_succ_of_lt (Nat.lt_succ_of_lt h271))
    revert q; refine fa_cons ?_ fun q hq => ?_
    · exact Nat.ne_of_gt (Nat.lt_succ_of_lt (Nat.lt_succ_of_lt (Nat.lt_succ_of_lt h271)))
    cases hq
  have N₀ : News h₀ L s.heap ((271, tabObj #[]) :: [(L + 1, o1), (L + 1 + 1, o2), (L + 1 + 1 + 1, o3)]) := fun q hq => N q (by
    revert q; refine fa_cons ?_ fun q hq => ?_
    · exact .tail _ (.tail _ (.tail _ (.head _)))
    · simp only [List.mem_cons, List.not_mem_nil, or_false] at hq ⊢
      rcases hq with h | h | h
      · exact .inl h
      · exact .inr (.inl h)
      · exact .inr (.inr (.inl h)))
  refine Hold.go (taker_ok C (by assumption) N₀ hcd hl hi hlen nt (by omega) (by omega) fun f lp t n T tab h₂ tk₂ F₂ N₂ off tdis isf tok => ?_)
  have isf' := isf
  try k_fold
  obtain ⟨foc, fod, ffd, fsl, hfm⟩ := isf'
  obtain ⟨R, N₃, r1, r2, r3⟩ : ∃ R, News h₀ L h₂ ((L + 1, o1) :: (L + 1 + 1, o2) :: (L + 1 + 1 + 1, o3) :: (lp, W.listOf #[.int 0 t] n) :: R) ∧ (∀ q ∈ T, q ∈ R) ∧ (271, tabObj tab) ∈ R ∧ (∀ q ∈ R, q.1 ≠ lp ∧ q.1 ≠ L + 1 ∧ q.1 ≠ L + 1 + 1 ∧ q.1 ≠ L + 1 + 1 + 1) := by
    refine ⟨T ++ [(271, tabObj tab)], fun q hq => N₂ q ?_, fun q hq => List.mem_append_left _ hq, List.mem_append_right _ (.head _), fun q hq => ?_⟩
    · simp only [List.mem_cons, List.mem_append, List.not_mem_nil, or_false] at hq ⊢
      rcases hq with h | h | h | h | h | h
      · exact .inr (.inr (.inr (.inl h)))
      · exact .inr (.inr (.inr (.inr (.inl h))))
      · exact .inr (.inr (.inr (.inr (.inr h))))
      · exact .inl h
      · exact .inr (.inl h)
      · exact .inr (.inr (.inl h))
    · rcases List.mem_append.mp hq with hq | hq
      · exact ⟨off q (List.mem_append_left _ hq), fun z => tdis q hq _ (.head _) z.symm, fun z => tdis q hq _ (.tail _ (.head _)) z.symm, fun z => tdis q hq _ (.tail _ (.tail _ (.head _))) z.symm⟩
      · rw [List.mem_singleton.mp hq]
        exact ⟨off _ (List.mem_append_right _ (.head _)), fun z => nt _ (.head _) z.symm, fun z => nt _ (.tail _ (.head _)) z.symm, fun z => nt _ (.tail _ (.tail _ (.head _))) z.symm⟩
  clear N₂ N₀
  have r4 : ∀ q ∈ R, q.1 ≠ lp := fun q hq => (r3 q hq).1
  have r5 : ∀ q ∈ R, q.1 ≠ L + 1 := fun q hq => (r3 q hq).2.1
  have r6 : ∀ q ∈ R, q.1 ≠ L + 1 + 1 := fun q hq => (r3 q hq).2.2.1
  have r7 : ∀ q ∈ R, q.1 ≠ L + 1 + 1 + 1 := fun q hq => (r3 q hq).2.2.2
  have u1 : L + 1 ≠ lp := off (L + 1, o1) (List.mem_append_right _ (.tail _ (.head _)))
  have u2 : L + 1 + 1 ≠ lp := off (L + 1 + 1, o2) (List.mem_append_right _ (.tail _ (.tail _ (.head _))))
  have u3 : L + 1 + 1 + 1 ≠ lp := off (L + 1 + 1 + 1, o3) (List.mem_append_right _ (.tail _ (.tail _ (.tail _ (.head _)))))
  have u1' := u1.symm
  have u2' := u2.symm
  have u3' := u3.symm
  k_steps
  subst h1
  refine Hold.go (execsC_any ?_)
  k_steps
  subst h2
  have hfr := r1 _ hfm
  replace hcd : CodeHd h₀ 275 271 := hcd
  refine Hold.go (execsC_any ?_)
  k_steps
  rename News _ _ _ _ => N₄
  rename Fr _ _ _ _ => F₄
  rename (_ == sysModules) = false => lom
  rename Obj.IsDictOf (intKind _ _) _ [] => hom
  rename _ ∧ _ ∧ _ ∧ _ ∧ AllLt _ _ => lD
  rename_i hA oa hoa D hB od hsd fsd fid hC ob hob
  have v1 : ∀ q ∈ R, q.1 ≠ D := allLt_ne lD.2.2.2.2
  have v2 : lp ≠ D := Nat.ne_of_lt lD.2.2.2.1
  have v3 : L + 1 + 1 + 1 ≠ D := Nat.ne_of_lt lD.2.2.1
  have w1 : L + 1 ≠ D := Nat.ne_of_lt lD.1
  have w2 : L + 1 + 1 ≠ D := Nat.ne_of_lt lD.2.1
  obtain ⟨R₂, N₅, z1, z2, z3, z4, z5, z6, z7⟩ : ∃ R₂, News h₀ L hC ((lp, W.listOf #[.int 0 t] n) :: (D, od) :: (L + 1 + 1 + 1, o3) :: R₂) ∧ (∀ q ∈ R, q ∈ R₂) ∧ (L + 1, oa) ∈ R₂ ∧ (L + 1 + 1, ob) ∈ R₂ ∧ (∀ q ∈ R₂, q.1 ≠ lp) ∧ (∀ q ∈ R₂, q.1 ≠ D) ∧ (∀ q ∈ R₂, q.1 ≠ L + 1 + 1 + 1) ∧ True := by
    refine ⟨(L + 1, oa) :: (L + 1 + 1, ob) :: R, fun q hq => N₄ q ?_, fun q hq => .tail _ (.tail _ hq), .head _, .tail _ (.head _), off_cons u1 (off_cons u2 r4), off_cons w1 (off_cons w2 v1), off_cons ?_ (off_cons ?_ r7), trivial⟩
    · revert q
      repeat' (first | exact sub_rf | exact List.Mem.head _ | refine sub_cons ?_ ?_ | refine List.Mem.tail _ ?_ | refine List.mem_append_right _ ?_ | exact sub_apl | refine sub_app ?_ ?_ | refine sub_tl ?_ | refine sub_apr ?_)
    · show L + 1 ≠ L + 1 + 1 + 1; omega
    · show L + 1 + 1 ≠ L + 1 + 1 + 1; omega
  clear N₄
  refine Hold.go (take_call tok C F₄ N₅ hcd (fun q hq => .tail _ (.tail _ (z1 q (r1 q hq)))) (off_cons v2.symm (off_cons u3 z4)) (by decide) (by decide) (by decide) (by decide) (by omega) (by omega) fun x1 ta tb n1 h₃ tk₃ hv0 hv1 F₃ N₃ => ?_)
  k_steps
  subst h3
  refine Hold.go (execsC_any ?_)
  have hfr' := z1 _ hfr
  have hT' := fun q hq => z1 q (r1 q hq)
  have offD : ∀ q ∈ (L + 1 + 1 + 1, o3) :: R₂, q.1 ≠ D := off_cons v3 z5
  have offlp : ∀ q ∈ (D, od) :: (L + 1 + 1 + 1, o3) :: R₂, q.1 ≠ lp := off_cons v2.symm (off_cons u3 z4)
  clear r1 hfr r3 r4 r5 r6 r7
  k_steps
  refine Hold.go (forA_range (h₀ := h₀) (L := L) C.hh ?_ hE)
  k_steps
  rename News _ _ _ _ => N₆
  rename Fr _ _ _ _ => F₆
  refine Hold.go (take_call tok C F₆ N₆ hcd (fun q hq => .tail _ (.tail _ (hT' q hq))) offlp (by decide) (by decide) (by decide) (by decide) (by omega) (by omega) fun x2 tc td n2 h₇ tk₇ hw0 hw1 F₇ N₇ => ?_)
  k_steps
  rename News _ _ _ _ => N₈
  rename Fr _ _ _ _ => F₈
  refine Hold.go ⟨_, _, _, _, _, _, x2.toNat, _, _, fun i m nw => (∃ a t, m ("glyph" : Str) = some (.int a t) ∧ 0 ≤ a ∧ a < 300 + 250 * (i : Int) ∧
    ∃ k' t' kk o kvs, nw = (lp, W.listOf #[.int k' t'] kk) :: (D, o) :: (L + 1 + 1 + 1, o3) :: R₂ ∧ 0 ≤ k' ∧ k' ≤ 2 + 2 * (i : Int) ∧ o.IsDictOf (PySem.intKind PySem.Challenge.rw_pb0182_01.row.prog w) kvs ∧ kvs.length ≤ i ∧ (∀ key ∈ kvs.map (·.1), 0 ≤ key ∧ key < a) ∧ (kvs.map (·.1)).Pairwise (· < ·) ∧ (∀ q ∈ kvs, ∃ n t, q.2 = .int n t ∧ 0 ≤ n ∧ n < 65536)), rfl, by assumption, ⟨by decide, by decide, by omega, by omega⟩, by omega, by assumption, N₈, ?_, ?_⟩
  · exact ⟨_, _, rfl, by omega, by omega, _, _, _, _, [], rfl, by decide, by omega, hom, by simp, by simp, .nil, by simp⟩
  · rintro s₂ ⟨g₂, rfl⟩
    refine ⟨?_, ?_⟩
    · intro i v m₁ nw I oI h tk hi' hp1 hp2 F₉ N₉ offI
      try k_fold
      obtain ⟨ti, rfl⟩ := hp1
      try k_fold
      obtain ⟨a, ta', hm1, ha0, ha1, k', t', kk, o, kvs, rfl, hk0, hk1, ho, hkl, hkk, hpw, hvv⟩ := hp2
      k_steps
      rename News _ _ _ _ => N₁₀
      rename Fr _ _ _ _ => F₁₀
      have offlpI : lp ≠ I := offI _ (.head _)
      have offDI : D ≠ I := offI _ (.tail _ (.head _))
      refine Hold.go (take_call tok C F₁₀ (news_swap N₁₀) hcd (fun q hq => .tail _ (.tail _ (.tail _ (hT' q hq)))) (off_cons offlpI.symm (off_cons v2.symm (off_cons u3 z4))) (by omega) (by omega) (by decide) (by decide) (by omega) (by omega) fun x3 te tf n3 h₁₁ tk₁₁ hx0 hx1 F₁₁ N₁₁ => ?_)
      k_steps
      have hig : a ∉ kvs.map (·.1) := fun hm => by have := (hkk a hm).2; omega
      refine Hold.go (kda_set (knd := PySem.intKind PySem.Challenge.rw_pb0182_01.row.prog w) (k := a) F₁₁ N₁₁ (.tail v2 (.tail offDI.symm (.head offD))) ho (by show Value.isInt a (Value.int a ta') = true; simp [Value.isInt]) (by rw [sizeLine_eq]; omega) fun h₁₂ o₁₂ F₁₂ N₁₂ hd₁₂ => ?_)
      rw [stored_app hig] at hd₁₂
      have ltN := fun q hq => Heap.lt_size (N₁₂ q hq).1
      k_steps
      rename News _ _ _ _ => N₁₃
      rename Fr _ _ _ _ => F₁₃
      have lpX : lp ≠ h₁₂.objs.size := Nat.ne_of_lt (ltN _ (.head _))
      refine Hold.go (take_call tok C F₁₃ (news_swap N₁₃) hcd (fun q hq => .tail _ (.tail _ (.tail _ (.tail _ (hT' q hq))))) (off_cons lpX.symm (off_cons offlpI.symm (off_cons v2.symm (off_cons u3 z4)))) (by omega) (by omega) (by decide) (by decide) (by omega) (by omega) fun x4 tg th n4 h₁₄ tk₁₄ hy0 hy1 F₁₄ N₁₄ => ?_)
      refine Hold.go (menuAt (ns := [1, 1, 3, 250]) (tup_src N₁₄ (.tail _ (.head _)) rfl rfl) (.cons _ _ (.cons _ _ (.cons _ _ (.cons _ _ .nil)))) hy0 hy1 (by decide) fun nm tm hnm => ?_)
      have hnb : 1 ≤ nm ∧ nm ≤ 250 := by
        simp only [List.mem_cons, List.not_mem_nil, or_false] at hnm
        omega
      k_steps
      rename News _ _ _ _ => N₁₅
      rename Fr _ _ _ _ => F₁₅
      dsimp only
      refine Hold.go ⟨_, _, _, (lp, W.listOf #[.int (k' + 1 + 1) tg] n4) :: (D, o₁₂) :: (L + 1 + 1 + 1, o3) :: R₂, rfl, F₁₅, fun q hq => N₁₅ q ?_, fun q hq => ?_, ⟨_, _, rfl, by omega, by omega, _, _, _, _, _, rfl, by omega, by omega, hd₁₂, ?_, ?_, ?_, ?_⟩⟩
      · revert q; refine fa_cons ?_ fun q hq => ?_
        · exact .tail _ (.tail _ (.head _))
        revert q; refine fa_cons ?_ fun q hq => ?_
        · exact .head _
        exact .tail _ (.tail _ (.tail _ hq))
      · revert q; refine fa_cons ?_ fun q hq => ?_
        · exact offlpI
        revert q; refine fa_cons ?_ fun q hq => ?_
        · exact offDI
        exact offI q (.tail _ (.tail _ hq))
      · rw [List.length_append]; show kvs.length + 1 ≤ i + 1; omega
      · intro key hk
        rw [List.map_append] at hk
        rcases List.mem_append.mp hk with hk | hk
        · have := hkk key hk; omega
        · simp only [List.map_cons, List.map_nil, List.mem_singleton] at hk; omega
      · rw [List.map_append]
        refine List.pairwise_append.mpr ⟨hpw, List.pairwise_singleton _ _, fun x hx y hy => ?_⟩
        simp only [List.map_cons, List.map_nil, List.mem_singleton] at hy
        have := hkk x hx; omega
      · intro q hq
        rcases List.mem_append.mp hq with hq | hq
        · exact hvv q hq
        · rw [List.mem_singleton.mp hq]; exact ⟨_, _, rfl, hx0, hx1⟩
    · intro h tk m₁ nw F₉ N₉ hp1
      try k_fold
      obtain ⟨a, ta', hm1, ha0, ha1, k', t', kk, o, kvs, rfl, hk0, hk1, ho, hkl, hkk, hpw, hvv⟩ := hp1
      dsimp only
      subst h4
      refine Hold.go (execsC_any ?_)
      replace hcd := hold hcd
      k_steps
      have oR : ∀ q ∈ (D, o) :: (L + 1 + 1 + 1, o3) :: R₂, q.1 ≠ lp := off_cons v2.symm (off_cons u3 z4)
      have mR : ∀ q ∈ R₂, q ∈ (D, o) :: (L + 1 + 1 + 1, o3) :: R₂ := fun q hq => .tail _ (.tail _ hq)
      have mc := mR _ z2
      have m3 : (L + 1 + 1 + 1, o3) ∈ (D, o) :: (L + 1 + 1 + 1, o3) :: R₂ := .tail _ (.head _)
      generalize hRR : (D, o) :: (L + 1 + 1 + 1, o3) :: R₂ = R₃ at *
      refine Hold.go ?_
      refine comp_range F₉ C.hh (by with_unfolding_all rfl) (by decide) (by rfl) (by decide) (by rfl) ?_
      k_steps
      refine Hold.go ⟨_, _, _, _, _, _, _, 2, _, fun i ys nw => ∃ k' t' kk G gss, nw = (lp, W.listOf #[.int k' t'] kk) :: (G ++ R₃) ∧ 0 ≤ k' ∧ k' ≤ 12 + 7 * (i : Int) ∧ TupsIn G ys gss ∧ gss.length = i ∧ Fine gss ∧ ∀ q ∈ G, q.1 ≠ lp ∧ q.1 ≠ L + 1 + 1 + 1, rfl, by assumption, rfl, rfl, by decide, by assumption, by assumption, ?_, fun s₂ hs₂ up₂ => ⟨?_, ?_⟩⟩
      · exact ⟨_, _, _, [], [], rfl, hk0, by omega, .nil, rfl, fun _ h => (List.not_mem_nil h).elim, fun _ h => (List.not_mem_nil h).elim⟩
      · obtain ⟨g, rfl⟩ := hs₂
        intro i v ys nw I oI C' oC D' m₂ h tk E' hi' hy hP hJ hoC hv F₁₁ N₁₁ off hIC hID hCD
        try k_fold
        obtain ⟨k₂, t₂, kk₂, G, gss, rfl, hk2, hk3, hT₂, hgl, hfine, hoG⟩ := hJ
        obtain ⟨tv, rfl⟩ := hP
        have mG : ∀ q ∈ R₃, q ∈ G ++ R₃ := fun q hq => List.mem_append_right _ hq
        have mc' := mG _ mc
        k_steps
        have N₁₂ : News h₀ L _ ((lp, W.listOf #[.int k₂ t₂] kk₂) :: (I, oI) :: (C', oC) :: (D', _) :: (G ++ R₃)) := fun q hq => N₁₁ q (by
          revert q
          repeat' (first | exact sub_rf | exact List.Mem.head _ | refine sub_cons ?_ ?_ | refine List.Mem.tail _ ?_ | refine List.mem_append_right _ ?_ | exact sub_apl | refine sub_app ?_ ?_ | refine sub_tl ?_ | refine sub_apr ?_))
        have offG : ∀ q ∈ G ++ R₃, q.1 ≠ lp := fun q hq => by
          rcases List.mem_append.mp hq with hq | hq
          · exact (hoG q hq).1
          · exact oR q hq
        have ol := off _ (.head _)
        refine Hold.go (law_glyphs_ok C F₁₁ N₁₂ hcd tok isf (fun q hq => .tail _ (.tail _ (.tail _ (mG q (mR q (hT' q hq)))))) (off_cons (Ne.symm ol.1) (off_cons (Ne.symm ol.2.1) (off_cons (Ne.symm ol.2.2) offG))) hk2 (by omega) (by omega) (by omega) fun x og vs gs kk k' t' n' h' tk' e1 e2 F₁₃ N₁₃ e3 e4 e5 e6 e7 e8 e9 => ?_)
        refine ⟨h', _, (lp, W.listOf #[.int k' t'] n') :: ((x, og) :: G ++ R₃), rfl, F₁₃, fun q hq => N₁₃ q ?_, fun q hq => ?_, k', t', n', (x, og) :: G, gss ++ [gs], rfl, by omega, by omega, ?_, by rw [List.length_append, hgl]; rfl, ?_, ?_⟩
        · revert q
          repeat' (first | exact sub_rf | exact List.Mem.head _ | refine sub_cons ?_ ?_ | refine List.Mem.tail _ ?_ | refine List.mem_append_right _ ?_ | exact sub_apl | refine sub_app ?_ ?_ | refine sub_tl ?_ | refine sub_apr ?_)
        · revert q; refine fa_cons ?_ fun q hq => ?_
          · exact ol
          revert q; refine fa_cons ?_ fun q hq => ?_
          · exact ⟨(e4 (I, oI) (.head _)).symm, (e4 (C', oC) (.tail _ (.head _))).symm, (e4 (D', _) (.tail _ (.tail _ (.head _)))).symm⟩
          · exact off _ (.tail _ hq)
        · have hx' : TupIn ((x, og) :: G) (.ref x) gs := ⟨x, og, vs, kk, rfl, List.mem_cons_self, e5, e6, e7⟩
          exact (hT₂.mono fun q hq => List.mem_cons_of_mem _ hq).append (.cons hx' .nil)
        · intro gs' hg'
          rcases List.mem_append.mp hg' with hg' | hg'
          · exact hfine gs' hg'
          · rw [List.mem_singleton.mp hg']; exact ⟨e8, e9⟩
        · intro q hq
          revert q; refine fa_cons ?_ fun q hq => ?_
          · exact ⟨e3, (e4 (L + 1 + 1 + 1, o3) (.tail _ (.tail _ (.tail _ (mG _ m3))))).symm⟩
          · exact hoG q hq
      · obtain ⟨g, rfl⟩ := hs₂
        intro DL h tk ys nw F₁₁ N₁₁ off hy hp1
        try k_fold
        obtain ⟨k₂, t₂, kk₂, G, gss, rfl, hk2, hk3, hT₂, hgl, hfine, hoG⟩ := hp1
        have mG : ∀ q ∈ R₃, q ∈ G ++ R₃ := fun q hq => List.mem_append_right _ hq
        have N₁₂ : News h₀ L h ((L + 1 + 1 + 1, o3) :: (lp, W.listOf #[.int k₂ t₂] kk₂) :: (DL, _) :: (G ++ (D, o) :: R₂)) := fun q hq => N₁₁ q (by
          simp only [List.mem_cons, List.mem_append] at hq ⊢
          rcases hq with h | h | h | h | h | h
          · exact .inr (.inr (.inr (h ▸ m3)))
          · exact .inr (.inl h)
          · exact .inl h
          · exact .inr (.inr (.inl h))
          · exact .inr (.inr (.inr (hRR ▸ h ▸ List.mem_cons_self)))
          · exact .inr (.inr (.inr (mR q h))))
        have hAll : ∀ q ∈ (lp, W.listOf #[.int k₂ t₂] kk₂) :: (DL, LCg.lst ys) :: (G ++ (D, o) :: R₂), q.1 ≠ L + 1 + 1 + 1 := by
          refine off_cons u3.symm (off_cons (Ne.symm (off _ (.tail _ (mG _ m3)))) fun q hq => ?_)
          rcases List.mem_append.mp hq with hq | hq
          · exact (hoG q hq).2
          · exact off_cons v3.symm z6 q hq
        have nDL : DL ≠ lp := Ne.symm (off _ (.head _))
        have hoD : (D, o) ∈ R₃ := hRR ▸ .head _
        k_steps
        rename News _ _ _ _ => N₁₃
        rename Fr _ _ _ _ => F₁₃
        rename_i o3' ho3'
        have g1 : ∀ q ∈ R₂, q ∈ G ++ (D, o) :: R₂ := fun q hq => List.mem_append_right _ (.tail _ hq)
        have g2 : ∀ q ∈ R₂, q ∈ (L + 1 + 1 + 1, o3') :: (DL, LCg.lst ys) :: (G ++ (D, o) :: R₂) := fun q hq => .tail _ (.tail _ (g1 q hq))
        refine Hold.go (hK f lp D k₂ t₂ kk₂ T ((L + 1 + 1 + 1, o3') :: (DL, LCg.lst ys) :: (G ++ (D, o) :: R₂)) kvs gss _ _ _ (by omega) ?_ F₁₃ (news_swap N₁₃))
        refine ⟨tok, isf, fun q hq => g2 q (hT' q hq), off_cons u3 (off_cons nDL fun q hq => ?_), hk2, ⟨oa, g2 _ z2, hoa⟩, ⟨ob, g2 _ z3, hob⟩, ⟨o3', DL, ys, .head _, ho3', .tail _ (.head _), hT₂.mono fun q hq => .tail _ (.tail _ (List.mem_append_left _ hq))⟩, hgl, hfine, ⟨o, .tail _ (.tail _ (List.mem_append_right _ (.head _))), ho⟩, lom, ⟨tab, g2 _ (z1 _ r2)⟩, by omega, fun key hk => ?_, hpw, hvv⟩
        · rcases List.mem_append.mp hq with hq | hq
          · exact (hoG q hq).1
          · exact off_cons v2.symm z4 q hq
        · have := hkk key hk; omega
end K_lawA
theorem lawA {w : World} {p : Program} {loose : List Str} {mean : ExcName → Option Value} {mg : Str → Option Value} {mb : Str → Option Value} {A : Around} {A₀ : Around} {outer : List Env} {base : Heap} {h₀ : Heap} {L : Addr} {m : Str → Option Value} {s : Shared} {Q : Flow → Shared → Prop} {E : Value → Shared → Prop} {name qual : Str} {params : Arguments} {bb : List Stmt} {scope : Scope} {dV kV doc pm cdv ct oc : Value} {an od : Option Addr} {osl : Array (Option Value)} {ls : Addr} {vs : List Value} {ns : List Int} {o1 o2 o3 : Obj} (hb : (hd0.heap_1 w.params).lookup 305 = some ⟨oc, od, .func (fnOf name qual params bb scope dV kV doc pm an cdv ct), osl⟩) (C : Cx w p loose mean mg mb A A₀ (envOfC qual scope L 305 cdv) outer base h₀ L) (F : Fr h₀ L s.heap m) (N : News h₀ L s.heap [(L + 1, o1), (L + 1 + 1, o2), (L + 1 + 1 + 1, o3), (271, tabObj #[])]) (ho1 : o1.data = .cell none) (ho2 : o2.data = .cell none) (ho3 : o3.data = .cell none) (hm : m ("script" : Str) = some (.ref ls)) (hd : A.depth ≤ 800) (hu : A.units ≤ 4000) (hcd : CodeHd h₀ 275 271) (hl : h₀.IsList ls vs.toArray) (hi : IntsAre vs ns) (hlen : ns.length ≤ 63) (h271 : 271 < L) (hE : PassesOwn (model PySem.Challenge.rw_pb0182_01.row.prog w) A (envOfC qual scope L 305 cdv) E) (hK : ∀ f lp D k t n T R kvs gss m' h' tk', k ≤ 26 → LawSt w p loose mean mg mb L f lp D k T R kvs gss → Fr h₀ L h' m' → News h₀ L h' ((lp, W.listOf #[.int k t] n) :: R) → wpC (model PySem.Challenge.rw_pb0182_01.row.prog w) A (execs (bb.drop 5) (envOfC qual scope L 305 cdv)) Q E { s with heap := h', toks := tk' }) :
    wpC (model PySem.Challenge.rw_pb0182_01.row.prog w) A (execs bb (envOfC qual scope L 305 cdv)) Q E s :=
  eps_all (P := fun v => P_lawA v.1 v.2.1 v.2.2.1 v.2.2.2.1 v.2.2.2.2.1 v.2.2.2.2.2.1 v.2.2.2.2.2.2.1 v.2.2.2.2.2.2.2.1 v.2.2.2.2.2.2.2.2.1 v.2.2.2.2.2.2.2.2.2.1 v.2.2.2.2.2.2.2.2.2.2.1 v.2.2.2.2.2.2.2.2.2.2.2.1 v.2.2.2.2.2.2.2.2.2.2.2.2.1 v.2.2.2.2.2.2.2.2.2.2.2.2.2.1 v.2.2.2.2.2.2.2.2.2.2.2.2.2.2.1 v.2.2.2.2.2.2.2.2.2.2.2.2.2.2.2.1 v.2.2.2.2.2.2.2.2.2.2.2.2.2.2.2.2.1 v.2.2.2.2.2.2.2.2.2.2.2.2.2.2.2.2.2.1 v.2.2.2.2.2.2.2.2.2.2.2.2.2.2.2.2.2.2.1 v.2.2.2.2.2.2.2.2.2.2.2.2.2.2.2.2.2.2.2.1 v.2.2.2.2.2.2.2.2.2.2.2.2.2.2.2.2.2.2.2.2.1 v.2.2.2.2.2.2.2.2.2.2.2.2.2.2.2.2.2.2.2.2.2) (by with_unfolding_all exact K_lawA.core) (w, p, loose, mean, mg, mb, A, A₀, outer, base, h₀, L, m, s, Q, E, ls, vs, ns, o1, o2, o3) name qual params bb scope dV kV doc pm cdv ct oc an od osl hb C F N ho1 ho2 ho3 hm hd hu hcd hl hi hlen h271 hE hK
end
end Mine
end TextW1
section TextW2
open PySem PySem.W PyProof.Rows PySem.Calls PySem.Spec
set_option Elab.async false
set_option maxRecDepth 100000
set_option maxHeartbeats 1000000
namespace Mine
theorem fillW2 {w : World} {A : Around} {Q : Value → Shared → Prop} {E : Value → Shared → Prop} {s : Shared} (h : (hd0.heap_1 w.params).In s.heap → wpAny (model PySem.Challenge.rw_pb0182_01.row.prog w) A (call .none []) Q E s) :
    (hd0.heap_1 w.params).In s.heap → wpAny (model PySem.Challenge.rw_pb0182_01.row.prog w) A (call .none []) Q E s := by
  k_fill
  w_top off
  intro hX
  try walk1
  exact h hX
section
variable {w : World} {p : Program} {loose : List Str} {mean : ExcName → Option Value} {mg mb : Str → Option Value} {A A₀ : Around} {env : Env} {outer : List Env} {base h₀ : Heap} {L : Addr} {m : Str → Option Value} {news rest : List (Addr × Obj)} {s : Shared}
  {Q : Flow → Shared → Prop} {E : Value → Shared → Prop}
theorem ifExpH {M : Model} {t b o : Expr} {pos : Pos} {Q : Value → Shared → Prop} (h : wpAny M A (isTrue t env (eval t env)) (fun c s' => Hold (wpAny M A (if c then eval b env else eval o env) Q E s')) E s) : wpAny M A (eval (.IfExp t b o pos) env) Q E s := by
  show wpAny M A (isTrue t env (eval t env) >>= fun c => if c then eval b env else eval o env) Q E s
  exact wpAny_bind h
/-- lists of tuples of ints -/
noncomputable def SideIn (nw : List (Addr × Obj)) (v : Value) (gss : List (List Int)) : Prop := ∃ l ys, v = .ref l ∧ (l, LCg.lst ys) ∈ nw ∧ TupsIn nw ys gss
theorem SideIn.mono {nw nw' : List (Addr × Obj)} {v : Value} {gs : List (List Int)} (h : ∀ p ∈ nw, p ∈ nw') (H : SideIn nw v gs) : SideIn nw' v gs := by
  obtain ⟨l, ys, e, hm, r⟩ := H
  exact ⟨l, ys, e, h _ hm, r.mono h⟩
theorem LawSt.mono {L f lp D : Addr} {k k' : Int} {T R R' : List (Addr × Obj)} {kvs : List (Int × Value)} {gss : List (List Int)} (S : LawSt w p loose mean mg mb L f lp D k T R kvs gss) (h : ∀ q ∈ R, q ∈ R') (off : ∀ q ∈ R', q.1 ≠ lp) (k0 : 0 ≤ k') : LawSt w p loose mean mg mb L f lp D k' T R' kvs gss := by
  try k_fold
  obtain ⟨tok, isf, hT, _, _, ⟨o1, a1, b1⟩, ⟨o2, a2, b2⟩, ⟨o3, ls, ys, a3, b3, c3, d3⟩, g2, fine, ⟨od, ad, bd⟩, lom, ⟨ps, tab⟩, kl, kk, kp, kv⟩ := S
  exact ⟨tok, isf, fun q hq => h q (hT q hq), off, k0, ⟨o1, h _ a1, b1⟩, ⟨o2, h _ a2, b2⟩, ⟨o3, ls, ys, h _ a3, b3, h _ c3, d3.mono h⟩, g2, fine, ⟨od, h _ ad, bd⟩, lom, ⟨ps, h _ tab⟩, kl, kk, kp, kv⟩
end
section
noncomputable def P_lawB (w : World) (p : Program) (loose : List Str) (mean : ExcName → Option Value) (mg : Str → Option Value) (mb : Str → Option Value) (A : Around) (A₀ : Around) (outer : List Env) (base : Heap) (h₀ : Heap) (L : Addr) (m : Str → Option Value) (s : Shared) (Q : Flow → Shared → Prop) (E : Value → Shared → Prop) (f : Addr) (lp : Addr) (D : Addr) (k : Int) (n : Nat) (t : Tok) (T : List (Addr × Obj)) (R : List (Addr × Obj)) (kvs : List (Int × Value)) (gss : List (List Int)) : Prop := ∀ (name : Str) (qual : Str) (params : Arguments) (bb : List Stmt) (scope : Scope) (dV : Value) (kV : Value) (doc : Value) (pm : Value) (cdv : Value) (ct : Value) (oc : Value) (an : Option Addr) (od : Option Addr) (osl : Array (Option Value)) (hb : (hd0.heap_1 w.params).lookup 305 = some ⟨oc, od, .func (fnOf name qual params bb scope dV kV doc pm an cdv ct), osl⟩) (C : Cx w p loose mean mg mb A A₀ (envOfC qual scope L 305 cdv) outer base h₀ L) (F : Fr h₀ L s.heap m) (N : News h₀ L s.heap ((lp, W.listOf #[.int k t] n) :: R)) (S : LawSt w p loose mean mg mb L f lp D k T R kvs gss) (hk : k ≤ 26) (hd : A.depth ≤ 800) (hu : A.units ≤ 4000) (hcd : CodeHd h₀ 275 271) (hE : PassesOwn (model PySem.Challenge.rw_pb0182_01.row.prog w) A (envOfC qual scope L 305 cdv) E) (hK : ∀ k t n R m' h' tk' sd v0 v1 back ahead, k ≤ 76 → LawSt w p loose mean mg mb L f lp D k T R kvs gss → Fr h₀ L h' m' → News h₀ L h' ((lp, W.listOf #[.int k t] n) :: R) →
      m' ("sides" : Str) = some (.ref sd) → (∃ n, (sd, W.listOf #[v0, v1] n) ∈ R) → SideIn R v0 back → SideIn R v1 ahead → back.length ≤ 3 → ahead.length ≤ 3 → Fine back → Fine ahead →
      wpC (model PySem.Challenge.rw_pb0182_01.row.prog w) A (execs (bb.drop 7) (envOfC qual scope L 305 cdv)) Q E { s with heap := h', toks := tk' }),
    wpC (model PySem.Challenge.rw_pb0182_01.row.prog w) A (execs (bb.drop 5) (envOfC qual scope L 305 cdv)) Q E s
noncomputable def c_lawB := @Classical.epsilon ((World) × (Program) × (List Str) × (ExcName → Option Value) × (Str → Option Value) × (Str → Option Value) × (Around) × (Around) × (List Env) × (Heap) × (Heap) × (Addr) × (Str → Option Value) × (Shared) × (Flow → Shared → Prop) × (Value → Shared → Prop) × (Addr) × (Addr) × (Addr) × (Int) × (Nat) × (Tok) × (List (Addr × Obj)) × (List (Addr × Obj)) × (List (Int × Value)) × (List (List Int))) ⟨(wDef, default, [], fun _ => none, fun _ => none, fun _ => none, callerA, callerA, [], default, default, 0, fun _ => none, (PySem.start default).1, fun _ _ => True, fun _ _ => True, 0, 0, 0, 0, 0, 0, [], [], [], [])⟩ fun v => ¬ P_lawB v.1 v.2.1 v.2.2.1 v.2.2.2.1 v.2.2.2.2.1 v.2.2.2.2.2.1 v.2.2.2.2.2.2.1 v.2.2.2.2.2.2.2.1 v.2.2.2.2.2.2.2.2.1 v.2.2.2.2.2.2.2.2.2.1 v.2.2.2.2.2.2.2.2.2.2.1 v.2.2.2.2.2.2.2.2.2.2.2.1 v.2.2.2.2.2.2.2.2.2.2.2.2.1 v.2.2.2.2.2.2.2.2.2.2.2.2.2.1 v.2.2.2.2.2.2.2.2.2.2.2.2.2.2.1 v.2.2.2.2.2.2.2.2.2.2.2.2.2.2.2.1 v.2.2.2.2.2.2.2.2.2.2.2.2.2.2.2.2.1 v.2.2.2.2.2.2.2.2.2.2.2.2.2.2.2.2.2.1 v.2.2.2.2.2.2.2.2.2.2.2.2.2.2.2.2.2.2.1 v.2.2.2.2.2.2.2.2.2.2.2.2.2.2.2.2.2.2.2.1 v.2.2.2.2.2.2.2.2.2.2.2.2.2.2.2.2.2.2.2.2.1 v.2.2.2.2.2.2.2.2.2.2.2.2.2.2.2.2.2.2.2.2.2.1 v.2.2.2.2.2.2.2.2.2.2.2.2.2.2.2.2.2.2.2.2.2.2.1 v.2.2.2.2.2.2.2.2.2.2.2.2.2.2.2.2.2.2.2.2.2.2.2.1 v.2.2.2.2.2.2.2.2.2.2.2.2.2.2.2.2.2.2.2.2.2.2.2.2.1 v.2.2.2.2.2.2.2.2.2.2.2.2.2.2.2.2.2.2.2.2.2.2.2.2.2
namespace K_lawB
@[irreducible] noncomputable def w : World := c_lawB.1
@[irreducible] noncomputable def p : Program := c_lawB.2.1
@[irreducible] noncomputable def loose : List Str := c_lawB.2.2.1
@[irreducible] noncomputable def mean : ExcName → Option Value := c_lawB.2.2.2.1
@[irreducible] noncomputable def mg : Str → Option Value := c_lawB.2.2.2.2.1
@[irreducible] noncomputable def mb : Str → Option Value := c_lawB.2.2.2.2.2.1
@[irreducible] noncomputable def A : Around := c_lawB.2.2.2.2.2.2.1
@[irreducible] noncomputable def A₀ : Around := c_lawB.2.2.2.2.2.2.2.1
@[irreducible] noncomputable def outer : List Env := c_lawB.2.2.2.2.2.2.2.2.1
@[irreducible] noncomputable def base : Heap := c_lawB.2.2.2.2.2.2.2.2.2.1
@[irreducible] noncomputable def h₀ : Heap := c_lawB.2.2.2.2.2.2.2.2.2.2.1
@[irreducible] noncomputable def L : Addr := c_lawB.2.2.2.2.2.2.2.2.2.2.2.1
@[irreducible] noncomputable def m : Str → Option Value := c_lawB.2.2.2.2.2.2.2.2.2.2.2.2.1
@[irreducible] noncomputable def s : Shared := c_lawB.2.2.2.2.2.2.2.2.2.2.2.2.2.1
@[irreducible] noncomputable def Q : Flow → Shared → Prop := c_lawB.2.2.2.2.2.2.2.2.2.2.2.2.2.2.1
@[irreducible] noncomputable def E : Value → Shared → Prop := c_lawB.2.2.2.2.2.2.2.2.2.2.2.2.2.2.2.1
@[irreducible] noncomputable def f : Addr := c_lawB.2.2.2.2.2.2.2.2.2.2.2.2.2.2.2.2.1
@[irreducible] noncomputable def lp : Addr := c_lawB.2.2.2.2.2.2.2.2.2.2.2.2.2.2.2.2.2.1
@[irreducible] noncomputable def D : Addr := c_lawB.2.2.2.2.2.2.2.2.2.2.2.2.2.2.2.2.2.2.1
@[irreducible] noncomputable def k : Int := c_lawB.2.2.2.2.2.2.2.2.2.2.2.2.2.2.2.2.2.2.2.1
@[irreducible] noncomputable def n : Nat := c_lawB.2.2.2.2.2.2.2.2.2.2.2.2.2.2.2.2.2.2.2.2.1
@[irreducible] noncomputable def t : Tok := c_lawB.2.2.2.2.2.2.2.2.2.2.2.2.2.2.2.2.2.2.2.2.2.1
@[irreducible] noncomputable def T : List (Addr × Obj) := c_lawB.2.2.2.2.2.2.2.2.2.2.2.2.2.2.2.2.2.2.2.2.2.2.1
@[irreducible] noncomputable def R : List (Addr × Obj) := c_lawB.2.2.2.2.2.2.2.2.2.2.2.2.2.2.2.2.2.2.2.2.2.2.2.1
@[irreducible] noncomputable def kvs : List (Int × Value) := c_lawB.2.2.2.2.2.2.2.2.2.2.2.2.2.2.2.2.2.2.2.2.2.2.2.2.1
@[irreducible] noncomputable def gss : List (List Int) := c_lawB.2.2.2.2.2.2.2.2.2.2.2.2.2.2.2.2.2.2.2.2.2.2.2.2.2
theorem core : P_lawB w p loose mean mg mb A A₀ outer base h₀ L m s Q E f lp D k n t T R kvs gss := by
  have st0 : Stop "all 2" := .mk
  have st1 : Stop "mem 2" := .mk
  have st2 : Stop "name local" := .mk
  have st3 : Stop "call ref" := .mk
  have st4 : Stop "call builtin:list.append" := .mk
  have st5 : Stop "subscriptTail" := .mk
  have st6 : Stop "eval ListComp" := .mk
  have st7 : Stop "eval IfExp" := .mk
  have st8 : Stop "exec For Name Call cons nil" := .mk
  unfold P_lawB
  refine' fn_cases ?k6 ?_
  case k6 => k_is
  intro bb e C F N S hk hd hu hcd hE hK
  obtain ⟨L, hL⟩ : ∃ l : Nat, l = L := ⟨L, rfl⟩
  subst hL
  refine start2 e rfl (fun a6' h6 => ?_)
  have X' := C.X
  have T' := C.T
  have B' := C.B
  try k_fold
  obtain ⟨foc, fod, ffd, fsl, hfm⟩ := S.isf
  have hfr := S.hT _ hfm
  try k_fold
  obtain ⟨oa, z1, hoa⟩ := S.c1
  try k_fold
  obtain ⟨oc3, ls, ys', z3, hoc3, zls, hty⟩ := S.c3
  have soff := S.off
  refine execsC_any ?_
  try k_fold
  k_steps
  rename News _ _ _ _ => N₁
  rename Fr _ _ _ _ => F₁
  rename _ ∧ AllLt _ _ => l1
  rename_i sd hA hB
  have v1 : ∀ q ∈ R, q.1 ≠ sd := allLt_ne l1.2
  have v2 : lp ≠ sd := Nat.ne_of_lt l1.1
  subst h6
  refine Hold.go (execsC_any ?_)
  try k_fold
  k_steps
  refine Hold.go (forA_range (h₀ := h₀) (L := L) C.hh ?_ hE)
  try k_fold
  k_steps
  rename News _ _ _ _ => N₂
  rename Fr _ _ _ _ => F₂
  refine Hold.go ⟨_, _, _, _, _, _, 2, _, _, fun i m nw => m ("sides" : Str) = some (.ref sd) ∧ ∃ (k' : Int) (t' : Tok) (kk : Nat) (ws : List Value) (wn : Nat) (R' : List (Addr × Obj)) (sides : List (List (List Int))), nw = (lp, W.listOf #[.int k' t'] kk) :: (sd, W.listOf (List.toArray ws) wn) :: R' ∧ 0 ≤ k' ∧ k' ≤ 26 + 25 * (i : Int) ∧ (∀ q ∈ R, q ∈ R') ∧ (∀ q ∈ R', q.1 ≠ lp ∧ q.1 ≠ sd) ∧ ws.length = i ∧ sides.length = i ∧
    (∀ (j : Nat) (v : Value), ws[j]? = some v → ∃ gs : List (List Int), sides[j]? = some gs ∧ SideIn R' v gs ∧ gs.length ≤ 3 ∧ Fine gs), rfl, by assumption, ⟨by decide, by decide, by decide, by decide⟩, rfl, by assumption, news_swap N₂, ?_, ?_⟩
  · exact ⟨rfl, k, t, n, [], 0, R, [], rfl, S.k0, by omega, fun q hq => hq, fun q hq => ⟨soff q hq, v1 q hq⟩, rfl, rfl, fun j v hv => by simp at hv⟩
  · rintro s₂ ⟨g₂, rfl⟩
    refine ⟨?_, ?_⟩
    · intro i v m₁ nw I oI h tk hi' hp1 hp2 F₃ N₃ offI
      try k_fold
      obtain ⟨ti, rfl⟩ := hp1
      try k_fold
      obtain ⟨hm1, k', t', kk, ws, wn, R', sides, rfl, hk0, hk1, hRR, hoR, hwl, hsl, hsi⟩ := hp2
      try k_fold
      k_steps
      rename News _ _ _ _ => N₄
      rename Fr _ _ _ _ => F₄
      have offlpI : lp ≠ I := offI _ (.head _)
      have offsdI : sd ≠ I := offI _ (.tail _ (.head _))
      have N₅ := news_swap N₄
      have oR3 : ∀ q ∈ (I, oI) :: (sd, W.listOf (List.toArray ws) wn) :: R', q.1 ≠ lp := off_cons offlpI.symm (off_cons v2.symm fun q hq => (hoR q hq).1)
      have mR3 : ∀ q ∈ R, q ∈ (I, oI) :: (sd, W.listOf (List.toArray ws) wn) :: R' := fun q hq => .tail _ (.tail _ (hRR q hq))
      have i1 : (I, oI) ∈ (I, oI) :: (sd, W.listOf (List.toArray ws) wn) :: R' := .head _
      have i2 : (sd, W.listOf (List.toArray ws) wn) ∈ (I, oI) :: (sd, W.listOf (List.toArray ws) wn) :: R' := .tail _ (.head _)
      generalize hR3 : (I, oI) :: (sd, W.listOf (List.toArray ws) wn) :: R' = R₃ at N₅ oR3 mR3 i1 i2
      have z1' := mR3 _ z1
      have z3' := mR3 _ z3
      have hfr' := mR3 _ hfr
      clear N₄
      refine Hold.go ?_
      refine comp_range F₄ C.hh (by with_unfolding_all rfl) (by decide) (by rfl) (by decide) (by rfl) ?_
      try k_fold
      k_steps
      refine Hold.go (take_call S.tok C (by assumption) N₅ hcd (fun q hq => mR3 q (S.hT q hq)) oR3 (by omega) (by omega) (by decide) (by decide) (by omega) (by omega) fun x1 ta tb n1 h₆ tk₆ hv0 hv1 F₆ N₆ => ?_)
      try k_fold
      k_steps
      refine Hold.go ⟨_, _, _, _, _, _, _, x1.toNat, _, fun i ys nw => ∃ (k₂ : Int) (t₂ : Tok) (kk₂ : Nat) (G : List (Addr × Obj)) (gss₂ : List (List Int)), nw = (lp, W.listOf #[.int k₂ t₂] kk₂) :: (G ++ R₃) ∧ 0 ≤ k₂ ∧ k₂ ≤ k' + 1 + 8 * (i : Int) ∧ TupsIn (G ++ R') ys gss₂ ∧ gss₂.length = i ∧ Fine gss₂ ∧ ∀ q ∈ G, q.1 ≠ lp ∧ q.1 ≠ sd ∧ q.1 ≠ I, rfl, by assumption, ?_, ?_, ?_, by assumption, by assumption, ?_, fun s₂ hs₂ up₂ => ⟨?_, ?_⟩⟩
      · rcases (show x1 = 0 ∨ x1 = 1 ∨ x1 = 2 ∨ x1 = 3 by omega) with h | h | h | h <;> subst h <;> rfl
      · rcases (show x1 = 0 ∨ x1 = 1 ∨ x1 = 2 ∨ x1 = 3 by omega) with h | h | h | h <;> subst h <;> rfl
      · rw [sizeLine_eq]; omega
      · exact ⟨_, _, _, [], [], rfl, by omega, by omega, .nil, rfl, fun _ h => (List.not_mem_nil h).elim, fun _ h => (List.not_mem_nil h).elim⟩
      · obtain ⟨g, rfl⟩ := hs₂
        intro i₂ v ys nw I₂ oI₂ C' oC D' m₂ h tk E' hi₂ hy hP hJ hoC hv F₇ N₇ off hIC hID hCD
        try k_fold
        obtain ⟨k₂, t₂, kk₂, G, gss₂, rfl, hk2, hk3, hT₂, hgl, hfine, hoG⟩ := hJ
        obtain ⟨tv, rfl⟩ := hP
        have mG : ∀ q ∈ R₃, q ∈ G ++ R₃ := fun q hq => List.mem_append_right _ hq
        have mc' := mG _ z1'
        have mc3 := mG _ z3'
        have mfr := mG _ hfr'
        try k_fold
        k_steps
        refine Hold.go (ifExpH ?_)
        have N₈ : News h₀ L h ((lp, W.listOf #[.int k₂ t₂] kk₂) :: (I₂, oI₂) :: (C', oC) :: (D', LCg.lst ys) :: (G ++ R₃)) := fun q hq => N₇ q (by
          revert q
          repeat' (first | exact sub_rf | exact List.Mem.head _ | refine sub_cons ?_ ?_ | refine List.Mem.tail _ ?_ | refine List.mem_append_right _ ?_ | exact sub_apl | refine sub_app ?_ ?_ | refine sub_tl ?_ | refine sub_apr ?_))
        have offG : ∀ q ∈ G ++ R₃, q.1 ≠ lp := fun q hq => by
          rcases List.mem_append.mp hq with hq | hq
          · exact (hoG q hq).1
          · exact oR3 q hq
        have ol := off _ (.head _)
        have offN : ∀ q ∈ (I₂, oI₂) :: (C', oC) :: (D', LCg.lst ys) :: (G ++ R₃), q.1 ≠ lp := off_cons (Ne.symm ol.1) (off_cons (Ne.symm ol.2.1) (off_cons (Ne.symm ol.2.2) offG))
        have hTN : ∀ q ∈ T, q ∈ (I₂, oI₂) :: (C', oC) :: (D', LCg.lst ys) :: (G ++ R₃) := fun q hq => .tail _ (.tail _ (.tail _ (mG q (mR3 q (S.hT q hq)))))
        clear N₇
        try k_fold
        k_steps
        refine Hold.go (take_call S.tok C F₇ N₈ hcd hTN offN (by omega) (by omega) (by decide) (by decide) (by omega) (by omega) fun x2 tc td n2 h₉ tk₉ hw0 hw1 F₉ N₉ => ?_)
        clear N₈
        try k_fold
        k_steps
        by_cases hx : 0 < x2
        · refine Hold.go ?_
          rw [if_pos (decide_eq_true hx)]
          try k_fold
          k_steps
          refine Hold.go (take_call S.tok C F₉ N₉ hcd hTN offN (by omega) (by omega) (by decide) (by decide) (by omega) (by omega) fun x3 te tf n3 h₁₀ tk₁₀ hx0 hx1 F₁₀ N₁₀ => ?_)
          try k_fold
          k_steps
          have hyl := hty.length
          have hg2 := S.g2
          obtain ⟨v, hv⟩ : ∃ v, ys'[x3.toNat]? = some v := ⟨_, List.getElem?_eq_getElem (by omega)⟩
          try k_fold
          obtain ⟨gs, hgs, htup⟩ := hty.at hv
          have zls' := mG _ (mR3 _ zls)
          refine Hold.go (itemAt ⟨_, (N₁₀ _ (.tail _ (.tail _ (.tail _ (.tail _ zls'))))).1, rfl, _, rfl⟩ hx0 (by omega) hv ?_)
          refine ⟨_, _, (lp, W.listOf #[.int (k₂ + 1 + 1) te] n3) :: (G ++ R₃), rfl, F₁₀, fun q hq => N₁₀ q ?_, fun q hq => ?_, _, _, _, G, gss₂ ++ [gs], rfl, by omega, by omega, hT₂.append (.cons (htup.mono fun q hq => List.mem_append_right _ (hRR q hq)) .nil), by rw [List.length_append, hgl]; rfl, ?_, hoG⟩
          · revert q
            repeat' (first | exact sub_rf | exact List.Mem.head _ | refine sub_cons ?_ ?_ | refine List.Mem.tail _ ?_ | refine List.mem_append_right _ ?_ | exact sub_apl | refine sub_app ?_ ?_ | refine sub_tl ?_ | refine sub_apr ?_)
          · revert q; refine fa_cons ?_ fun q hq => ?_
            · exact ol
            · exact off _ (.tail _ hq)
          · intro gs' hg'
            rcases List.mem_append.mp hg' with hg' | hg'
            · exact hfine gs' hg'
            · rw [List.mem_singleton.mp hg']; exact S.fine gs (List.mem_of_getElem? hgs)
        · refine Hold.go ?_
          rw [if_neg (by simpa using hx)]
          replace hcd := hold hcd
          try k_fold
          k_steps
          refine Hold.go (law_glyphs_ok C F₉ N₉ hcd S.tok S.isf hTN offN (by omega) (by omega) (by omega) (by omega) fun x og vs gs kk k' t' n' h' tk' e1 e2 F₁₃ N₁₃ e3 e4 e5 e6 e7 e8 e9 => ?_)
          refine ⟨h', _, (lp, W.listOf #[.int k' t'] n') :: ((x, og) :: G ++ R₃), rfl, F₁₃, fun q hq => N₁₃ q ?_, fun q hq => ?_, k', t', n', (x, og) :: G, gss₂ ++ [gs], rfl, by omega, by omega, ?_, by rw [List.length_append, hgl]; rfl, ?_, ?_⟩
          · revert q
            repeat' (first | exact sub_rf | exact List.Mem.head _ | refine sub_cons ?_ ?_ | refine List.Mem.tail _ ?_ | refine List.mem_append_right _ ?_ | exact sub_apl | refine sub_app ?_ ?_ | refine sub_tl ?_ | refine sub_apr ?_)
          · revert q; refine fa_cons ?_ fun q hq => ?_
            · exact ol
            revert q; refine fa_cons ?_ fun q hq => ?_
            · exact ⟨(e4 (I₂, oI₂) (.head _)).symm, (e4 (C', oC) (.tail _ (.head _))).symm, (e4 (D', _) (.tail _ (.tail _ (.head _)))).symm⟩
            · exact off _ (.tail _ hq)
          · have hx' : TupIn ((x, og) :: G ++ R') (.ref x) gs := ⟨x, og, vs, kk, rfl, List.mem_cons_self, e5, e6, e7⟩
            exact (hT₂.mono fun q hq => List.mem_cons_of_mem _ hq).append (.cons hx' .nil)
          · intro gs' hg'
            rcases List.mem_append.mp hg' with hg' | hg'
            · exact hfine gs' hg'
            · rw [List.mem_singleton.mp hg']; exact ⟨e8, e9⟩
          · intro q hq
            revert q; refine fa_cons ?_ fun q hq => ?_
            · exact ⟨e3, (e4 _ (.tail _ (.tail _ (.tail _ (mG _ i2))))).symm, (e4 _ (.tail _ (.tail _ (.tail _ (mG _ i1))))).symm⟩
            · exact hoG q hq
      · obtain ⟨g, rfl⟩ := hs₂
        intro DL h tk ys nw F₇ N₇ off hy hp1
        try k_fold
        obtain ⟨k₂, t₂, kk₂, G, gss₂, rfl, hk2, hk3, hT₂, hgl, hfine, hoG⟩ := hp1
        try dsimp only
        subst hR3
        have N₈ : News h₀ L h ((sd, W.listOf (List.toArray ws) wn) :: (I, oI) :: (lp, W.listOf #[.int k₂ t₂] kk₂) :: (DL, LCg.lst ys) :: (G ++ R')) := fun q hq => N₇ q (by
          revert q
          repeat' (first | exact sub_rf | exact List.Mem.head _ | refine sub_cons ?_ ?_ | refine List.Mem.tail _ ?_ | refine List.mem_append_right _ ?_ | exact sub_apl | refine sub_app ?_ ?_ | refine sub_tl ?_ | refine sub_apr ?_))
        have oDl : lp ≠ DL := off _ (.head _)
        have oDI : I ≠ DL := off (I, oI) (.tail _ (List.mem_append_right _ (.head _)))
        have oDs : sd ≠ DL := off (sd, W.listOf (List.toArray ws) wn) (.tail _ (List.mem_append_right _ (.tail _ (.head _))))
        have oGR : ∀ q ∈ G ++ R', q.1 ≠ lp ∧ q.1 ≠ sd := fun q hq => by
          rcases List.mem_append.mp hq with hq | hq
          · exact ⟨(hoG q hq).1, (hoG q hq).2.1⟩
          · exact hoR q hq
        have oU : ∀ q ∈ (I, oI) :: (lp, W.listOf #[.int k₂ t₂] kk₂) :: (DL, LCg.lst ys) :: (G ++ R'), q.1 ≠ sd := off_cons offsdI.symm (off_cons v2 (off_cons oDs.symm fun q hq => (oGR q hq).2))
        clear N₇
        try k_fold
        k_steps
        refine Hold.go (append_K F₇ N₈ (.head oU) (fun h₉ F₉ N₉ => ?_) (by rw [List.size_toArray, hwl, sizeLine_eq]; omega))
        try k_fold
        k_steps
        rename News _ _ _ _ => N₁₀
        rename Fr _ _ _ _ => F₁₀
        try dsimp only
        rw [List.push_toArray] at N₁₀
        refine Hold.go ⟨_, _, _, (lp, W.listOf #[.int k₂ t₂] kk₂) :: (sd, W.listOf (ws ++ [Value.ref DL]).toArray (wn + 1)) :: (DL, LCg.lst ys) :: (G ++ R'), rfl, F₁₀, fun q hq => N₁₀ q ?_, off_cons offlpI (off_cons offsdI (off_cons (Ne.symm oDI) fun q hq => ?_)), hm1, k₂, t₂, kk₂, ws ++ [.ref DL], wn + 1, (DL, LCg.lst ys) :: (G ++ R'), sides ++ [gss₂], rfl, by omega, by omega, fun q hq => .tail _ (List.mem_append_right _ (hRR q hq)), fun q hq => ?_, by rw [List.length_append, hwl]; rfl, by rw [List.length_append, hsl]; rfl, fun j v hv => ?_⟩
        · revert q
          repeat' (first | exact sub_rf | exact List.Mem.head _ | refine sub_cons ?_ ?_ | refine List.Mem.tail _ ?_ | refine List.mem_append_right _ ?_ | exact sub_apl | refine sub_app ?_ ?_ | refine sub_tl ?_ | refine sub_apr ?_)
        · rcases List.mem_append.mp hq with hq | hq
          · exact (hoG q hq).2.2
          · exact offI q (.tail _ (.tail _ hq))
        · revert q; refine fa_cons ?_ fun q hq => ?_
          · exact ⟨oDl.symm, oDs.symm⟩
          · exact oGR q hq
        · rcases Nat.lt_or_ge j ws.length with hj | hj
          · rw [List.getElem?_append_left hj] at hv
            try k_fold
            obtain ⟨gs, e1, e2, e3, e4⟩ := hsi j v hv
            rw [List.getElem?_append_left (by omega)]
            exact ⟨gs, e1, e2.mono fun q hq => .tail _ (List.mem_append_right _ hq), e3, e4⟩
          · rw [List.getElem?_append_right hj] at hv
            obtain ⟨hj0, rfl⟩ : j - ws.length = 0 ∧ v = .ref DL := by
              cases hjj : j - ws.length with
              | zero => rw [hjj] at hv; exact ⟨rfl, by simpa using hv.symm⟩
              | succ r => rw [hjj] at hv; simp at hv
            rw [List.getElem?_append_right (by omega)]
            rw [show j - sides.length = 0 by omega]
            refine ⟨gss₂, rfl, ⟨DL, ys, rfl, .head _, hT₂.mono fun q hq => .tail _ hq⟩, by omega, hfine⟩
    · intro h tk m₁ nw F₃ N₃ hp1
      try k_fold
      obtain ⟨hm1, k', t', kk, ws, wn, R', sides, rfl, hk0, hk1, hRR, hoR, hwl, hsl, hsi⟩ := hp1
      try dsimp only
      obtain ⟨v0, v1', rfl⟩ := two_of_len hwl
      obtain ⟨back, ahead, rfl⟩ := two_of_len hsl
      try k_fold
      obtain ⟨g0, e0, s0, l0, f0⟩ := hsi 0 v0 rfl
      try k_fold
      obtain ⟨g1, e1, s1, l1, f1⟩ := hsi 1 v1' rfl
      cases e0; cases e1
      have mm : ∀ q ∈ R', q ∈ (sd, W.listOf #[v0, v1'] wn) :: R' := fun q hq => .tail _ hq
      refine hold (hK k' t' kk ((sd, W.listOf #[v0, v1'] wn) :: R') m₁ h tk sd v0 v1' back ahead (by omega) (S.mono (fun q hq => mm q (hRR q hq)) (off_cons v2.symm fun q hq => (hoR q hq).1) hk0) F₃ N₃ hm1 ⟨wn, .head _⟩ (s0.mono mm) (s1.mono mm) l0 l1 f0 f1)
end K_lawB
theorem lawB {w : World} {p : Program} {loose : List Str} {mean : ExcName → Option Value} {mg : Str → Option Value} {mb : Str → Option Value} {A : Around} {A₀ : Around} {outer : List Env} {base : Heap} {h₀ : Heap} {L : Addr} {m : Str → Option Value} {s : Shared} {Q : Flow → Shared → Prop} {E : Value → Shared → Prop} {name qual : Str} {params : Arguments} {bb : List Stmt} {scope : Scope} {dV kV doc pm cdv ct oc : Value} {an od : Option Addr} {osl : Array (Option Value)} {f lp D : Addr} {k : Int} {n : Nat} {t : Tok} {T R : List (Addr × Obj)} {kvs : List (Int × Value)} {gss : List (List Int)} (hb : (hd0.heap_1 w.params).lookup 305 = some ⟨oc, od, .func (fnOf name qual params bb scope dV kV doc pm an cdv ct), osl⟩) (C : Cx w p loose mean mg mb A A₀ (envOfC qual scope L 305 cdv) outer base h₀ L) (F : Fr h₀ L s.heap m) (N : News h₀ L s.heap ((lp, W.listOf #[.int k t] n) :: R)) (S : LawSt w p loose mean mg mb L f lp D k T R kvs gss) (hk : k ≤ 26) (hd : A.depth ≤ 800) (hu : A.units ≤ 4000) (hcd : CodeHd h₀ 275 271) (hE : PassesOwn (model PySem.Challenge.rw_pb0182_01.row.prog w) A (envOfC qual scope L 305 cdv) E) (hK : ∀ k t n R m' h' tk' sd v0 v1 back ahead, k ≤ 76 → LawSt w p loose mean mg mb L f lp D k T R kvs gss → Fr h₀ L h' m' → News h₀ L h' ((lp, W.listOf #[.int k t] n) :: R) →
      m' ("sides" : Str) = some (.ref sd) → (∃ n, (sd, W.listOf #[v0, v1] n) ∈ R) → SideIn R v0 back → SideIn R v1 ahead → back.length ≤ 3 → ahead.length ≤ 3 → Fine back → Fine ahead →
      wpC (model PySem.Challenge.rw_pb0182_01.row.prog w) A (execs (bb.drop 7) (envOfC qual scope L 305 cdv)) Q E { s with heap := h', toks := tk' }) :
    wpC (model PySem.Challenge.rw_pb0182_01.row.prog w) A (execs (bb.drop 5) (envOfC qual scope L 305 cdv)) Q E s :=
  eps_all (P := fun v => P_lawB v.1 v.2.1 v.2.2.1 v.2.2.2.1 v.2.2.2.2.1 v.2.2.2.2.2.1 v.2.2.2.2.2.2.1 v.2.2.2.2.2.2.2.1 v.2.2.2.2.2.2.2.2.1 v.2.2.2.2.2.2.2.2.2.1 v.2.2.2.2.2.2.2.2.2.2.1 v.2.2.2.2.2.2.2.2.2.2.2.1 v.2.2.2.2.2.2.2.2.2.2.2.2.1 v.2.2.2.2.2.2.2.2.2.2.2.2.2.1 v.2.2.2.2.2.2.2.2.2.2.2.2.2.2.1 v.2.2.2.2.2.2.2.2.2.2.2.2.2.2.2.1 v.2.2.2.2.2.2.2.2.2.2.2.2.2.2.2.2.1 v.2.2.2.2.2.2.2.2.2.2.2.2.2.2.2.2.2.1 v.2.2.2.2.2.2.2.2.2.2.2.2.2.2.2.2.2.2.1 v.2.2.2.2.2.2.2.2.2.2.2.2.2.2.2.2.2.2.2.1 v.2.2.2.2.2.2.2.2.2.2.2.2.2.2.2.2.2.2.2.2.1 v.2.2.2.2.2.2.2.2.2.2.2.2.2.2.2.2.2.2.2.2.2.1 v.2.2.2.2.2.2.2.2.2.2.2.2.2.2.2.2.2.2.2.2.2.2.1 v.2.2.2.2.2.2.2.2.2.2.2.2.2.2.2.2.2.2.2.2.2.2.2.1 v.2.2.2.2.2.2.2.2.2.2.2.2.2.2.2.2.2.2.2.2.2.2.2.2.1 v.2.2.2.2.2.2.2.2.2.2.2.2.2.2.2.2.2.2.2.2.2.2.2.2.2) (by with_unfolding_all exact K_lawB.core) (w, p, loose, mean, mg, mb, A, A₀, outer, base, h₀, L, m, s, Q, E, f, lp, D, k, n, t, T, R, kvs, gss) name qual params bb scope dV kV doc pm cdv ct oc an od osl hb C F N S hk hd hu hcd hE hK
end
end Mine
end TextW2
section TextW3
open PySem PySem.W PyProof.Rows PySem.Calls PySem.Spec
set_option Elab.async false
set_option maxRecDepth 100000
set_option maxHeartbeats 1000000
namespace Mine
noncomputable def isB (c : List UInt8) : Value → Bool
  | .bytes b _ => decide (b.toList = c)
  | _ => false
theorem any_isB (c : List UInt8) {vs : List Value} {cs : List (List UInt8)} (H : BytesAre vs cs) : vs.any (isB c) = cs.any (fun x => decide (x = c)) := by
  induction H with
  | nil => rfl
  | cons n t h ih => simp only [List.any_cons, isB, ih]
theorem eq_isB (c : List UInt8) (t : Tok) {vs : List Value} {cs : List (List UInt8)} (H : BytesAre vs cs) : ∀ y, y ∈ vs → MeetsSeq.EqGives y (.bytes c.toArray t) (isB c y) := by
  induction H with
  | nil => intro y hy; cases hy
  | cons n u h ih =>
    intro y hy
    rcases List.mem_cons.mp hy with rfl | hy
    · exact fun prog w A E s Q hq => eqBool_bytes hq
    · exact ih y hy
theorem isB_at (c : List UInt8) {vs : List Value} {cs : List (List UInt8)} (H : BytesAre vs cs) : ∀ (j : Nat) (h1 : j < vs.length) (h2 : j < cs.length), isB c vs[j] = decide (cs[j] = c) := by
  induction H with
  | nil => intro j h1; exact absurd h1 (Nat.not_lt_zero _)
  | cons n u h ih =>
    intro j
    cases j with
    | zero => intro _ _; rfl
    | succ j => exact fun h1 h2 => ih j (Nat.lt_of_succ_lt_succ h1) (Nat.lt_of_succ_lt_succ h2)
section
variable {prog : Program} {w : World} {A : Around} {E : Value → Shared → Prop} {s : Shared}
theorem notin_bytes {l : Addr} {vs : List Value} {cs : List (List UInt8)} {c : List UInt8} {t : Tok} {Q : Value → Shared → Prop} (hl : s.heap.IsList l vs.toArray) (hi : BytesAre vs cs)
    (h : Q (.bool (!(cs.any fun x => decide (x = c)))) s) : wpAny (model prog w) A (compareOp .NotIn (.bytes c.toArray t) (.ref l)) Q E s :=
  SeqInW.notIn_listW (isB c) (fun y hy => eq_isB c t hi y (by simpa using hy)) hl (by rw [← Array.any_toList, show vs.toArray.toList = vs from rfl, any_isB c hi]; exact h)
theorem lt_idxOf_ne {c : List UInt8} : ∀ {cs : List (List UInt8)} {j : Nat} (h : j < cs.idxOf c) (h2 : j < cs.length), decide (cs[j] = c) = false
  | n :: r, j, h, h2 => by
    by_cases e : n = c
    · subst e; rw [List.idxOf_cons_self] at h; omega
    · cases j with
      | zero => simpa using e
      | succ j =>
        have hb : (n == c) = false := by simpa using e
        have h' : j < r.idxOf c := by
          rw [List.idxOf_cons, hb] at h
          exact Nat.lt_of_succ_lt_succ h
        exact lt_idxOf_ne h' (Nat.lt_of_succ_lt_succ h2)
theorem index_bytes {l : Addr} {vs : List Value} {cs : List (List UInt8)} {c : List UInt8} {t : Tok} {Q : Value → Shared → Prop} (hl : s.heap.IsList l vs.toArray) (hi : BytesAre vs cs)
    (hz : cs.length ≤ 1000) (hk : c ∈ cs) (h : Q (.int (cs.idxOf c : Nat) s.toks) { s with toks := s.toks + 1 }) :
    wpAny (model prog w) A (call (.builtin "list.index") [.ref l, .bytes c.toArray t]) Q E s := by
  obtain ⟨⟨cls, dd, data, sl⟩, ho, hc, n, hd⟩ := id hl
  simp only at hc hd
  subst hc hd
  have hlen := hi.length
  have hj : cs.idxOf c < cs.length := List.idxOf_lt_length_iff.mpr hk
  refine call_meets PySem.F.slot_list_index ⟨_, ho, rfl⟩ PySem.F.entry_list_index (PySem.F.args_list_index_2 _ _)
    (SeqAt.list_indexAt l vs.toArray n dd sl (.bytes c.toArray t) (isB c) (cs.idxOf c) (by simpa [hlen] using hj) (by omega) ?_ ?_) ⟨ho, fun y hy => (eq_isB c t hi y (by simpa using hy)).at _ _, h⟩
  · show isB c vs[cs.idxOf c] = true
    rw [isB_at c hi _ (by omega) hj]
    simpa using List.getElem_idxOf hj
  · intro j hjs hlt
    show isB c vs[j] = false
    rw [isB_at c hi j (by simpa using hjs) (by omega)]
    exact lt_idxOf_ne hlt _
end
end Mine
end TextW3
section TextW4
open PySem PySem.W PyProof.Rows PySem.Calls PySem.Spec
set_option Elab.async false
set_option maxRecDepth 100000
set_option maxHeartbeats 1000000
namespace Mine
theorem fillW4 {w : World} {A : Around} {Q : Value → Shared → Prop} {E : Value → Shared → Prop} {s : Shared} (h : (hd0.heap_1 w.params).In s.heap → wpAny (model PySem.Challenge.rw_pb0182_01.row.prog w) A (call .none []) Q E s) :
    (hd0.heap_1 w.params).In s.heap → wpAny (model PySem.Challenge.rw_pb0182_01.row.prog w) A (call .none []) Q E s := by
  k_fill
  w_top off
  intro hX
  try walk1
  exact h hX
section
variable {w : World} {p : Program} {loose : List Str} {mean : ExcName → Option Value} {mg mb : Str → Option Value} {A A₀ : Around} {env : Env} {outer : List Env} {base h₀ : Heap} {L : Addr} {m : Str → Option Value} {news rest : List (Addr × Obj)} {s : Shared}
  {Q : Flow → Shared → Prop} {E : Value → Shared → Prop}
theorem sorted_unique : ∀ {a b : List Int}, a.Perm b → a.Pairwise (· ≤ ·) → b.Pairwise (· < ·) → a = b := fun {a b} h1 h2 h3 =>
  h1.eq_of_pairwise (le := fun x y => x ≤ y) (fun _ _ _ _ h h' => Int.le_antisymm h h') h2 (h3.imp Int.le_of_lt)
/-- the covers in the order in which they are first wanted -/
noncomputable def firsts (l : List (List UInt8)) : List (List UInt8) := l.foldl (fun cs c => if cs.any (fun x => decide (x = c)) then cs else cs ++ [c]) []
theorem firsts_snoc (l : List (List UInt8)) (c : List UInt8) : firsts (l ++ [c]) = (if (firsts l).any (fun x => decide (x = c)) then firsts l else firsts l ++ [c]) := by
  unfold firsts; rw [List.foldl_append]; rfl
end
section
noncomputable def P_lawC (w : World) (p : Program) (loose : List Str) (mean : ExcName → Option Value) (mg : Str → Option Value) (mb : Str → Option Value) (A : Around) (A₀ : Around) (outer : List Env) (base : Heap) (h₀ : Heap) (L : Addr) (m : Str → Option Value) (s : Shared) (Q : Flow → Shared → Prop) (E : Value → Shared → Prop) (f : Addr) (lp : Addr) (D : Addr) (k : Int) (n : Nat) (t : Tok) (T : List (Addr × Obj)) (R : List (Addr × Obj)) (kvs : List (Int × Value)) (gss : List (List Int)) (sd : Addr) (back : List (List Int)) (ahead : List (List Int)) : Prop := ∀ (name : Str) (qual : Str) (params : Arguments) (bb : List Stmt) (scope : Scope) (dV : Value) (kV : Value) (doc : Value) (pm : Value) (cdv : Value) (ct : Value) (oc : Value) (an : Option Addr) (od : Option Addr) (osl : Array (Option Value)) (hb : (hd0.heap_1 w.params).lookup 305 = some ⟨oc, od, .func (fnOf name qual params bb scope dV kV doc pm an cdv ct), osl⟩) (v0 : Value) (v1 : Value) (C : Cx w p loose mean mg mb A A₀ (envOfC qual scope L 305 cdv) outer base h₀ L) (F : Fr h₀ L s.heap m) (N : News h₀ L s.heap ((lp, W.listOf #[.int k t] n) :: R)) (S : LawSt w p loose mean mg mb L f lp D k T R kvs gss) (hm : m ("sides" : Str) = some (.ref sd)) (hsd : ∃ n, (sd, W.listOf #[v0, v1] n) ∈ R) (hv0 : SideIn R v0 back) (hv1 : SideIn R v1 ahead) (hbl : back.length ≤ 3) (hal : ahead.length ≤ 3) (fb : Fine back) (fa : Fine ahead) (hd : A.depth ≤ 800) (hu : A.units ≤ 4000) (hE : PassesOwn (model PySem.Challenge.rw_pb0182_01.row.prog w) A (envOfC qual scope L 305 cdv) E) (hK : ∀ n R' m' h' tk' wl ww wn cl cc cn, (∀ q ∈ R, q ∈ R') → (∀ q ∈ R', q.1 ≠ lp) → Fr h₀ L h' m' → News h₀ L h' ((lp, W.listOf #[.int k t] n) :: R') → m' ("sides" : Str) = some (.ref sd) →
      m' ("wanted" : Str) = some (.ref wl) → (wl, W.listOf (List.toArray ww) wn) ∈ R' → TupsIn R' ww (kvs.map (·.1) :: back ++ ahead) →
      m' ("covers" : Str) = some (.ref cl) → (cl, W.listOf (List.toArray cc) cn) ∈ R' → BytesAre cc (firsts ((kvs.map (·.1) :: back ++ ahead).map coverBytes)) →
      wpC (model PySem.Challenge.rw_pb0182_01.row.prog w) A (execs (bb.drop 10) (envOfC qual scope L 305 cdv)) Q E { s with heap := h', toks := tk' }),
    wpC (model PySem.Challenge.rw_pb0182_01.row.prog w) A (execs (bb.drop 7) (envOfC qual scope L 305 cdv)) Q E s
noncomputable def c_lawC := @Classical.epsilon ((World) × (Program) × (List Str) × (ExcName → Option Value) × (Str → Option Value) × (Str → Option Value) × (Around) × (Around) × (List Env) × (Heap) × (Heap) × (Addr) × (Str → Option Value) × (Shared) × (Flow → Shared → Prop) × (Value → Shared → Prop) × (Addr) × (Addr) × (Addr) × (Int) × (Nat) × (Tok) × (List (Addr × Obj)) × (List (Addr × Obj)) × (List (Int × Value)) × (List (List Int)) × (Addr) × (List (List Int)) × (List (List Int))) ⟨(wDef, default, [], fun _ => none, fun _ => none, fun _ => none, callerA, callerA, [], default, default, 0, fun _ => none, (PySem.start default).1, fun _ _ => True, fun _ _ => True, 0, 0, 0, 0, 0, 0, [], [], [], [], 0, [], [])⟩ fun v => ¬ P_lawC v.1 v.2.1 v.2.2.1 v.2.2.2.1 v.2.2.2.2.1 v.2.2.2.2.2.1 v.2.2.2.2.2.2.1 v.2.2.2.2.2.2.2.1 v.2.2.2.2.2.2.2.2.1 v.2.2.2.2.2.2.2.2.2.1 v.2.2.2.2.2.2.2.2.2.2.1 v.2.2.2.2.2.2.2.2.2.2.2.1 v.2.2.2.2.2.2.2.2.2.2.2.2.1 v.2.2.2.2.2.2.2.2.2.2.2.2.2.1 v.2.2.2.2.2.2.2.2.2.2.2.2.2.2.1 v.2.2.2.2.2.2.2.2.2.2.2.2.2.2.2.1 v.2.2.2.2.2.2.2.2.2.2.2.2.2.2.2.2.1 v.2.2.2.2.2.2.2.2.2.2.2.2.2.2.2.2.2.1 v.2.2.2.2.2.2.2.2.2.2.2.2.2.2.2.2.2.2.1 v.2.2.2.2.2.2.2.2.2.2.2.2.2.2.2.2.2.2.2.1 v.2.2.2.2.2.2.2.2.2.2.2.2.2.2.2.2.2.2.2.2.1 v.2.2.2.2.2.2.2.2.2.2.2.2.2.2.2.2.2.2.2.2.2.1 v.2.2.2.2.2.2.2.2.2.2.2.2.2.2.2.2.2.2.2.2.2.2.1 v.2.2.2.2.2.2.2.2.2.2.2.2.2.2.2.2.2.2.2.2.2.2.2.1 v.2.2.2.2.2.2.2.2.2.2.2.2.2.2.2.2.2.2.2.2.2.2.2.2.1 v.2.2.2.2.2.2.2.2.2.2.2.2.2.2.2.2.2.2.2.2.2.2.2.2.2.1 v.2.2.2.2.2.2.2.2.2.2.2.2.2.2.2.2.2.2.2.2.2.2.2.2.2.2.1 v.2.2.2.2.2.2.2.2.2.2.2.2.2.2.2.2.2.2.2.2.2.2.2.2.2.2.2.1 v.2.2.2.2.2.2.2.2.2.2.2.2.2.2.2.2.2.2.2.2.2.2.2.2.2.2.2.2
namespace K_lawC
@[irreducible] noncomputable def w : World := c_lawC.1
@[irreducible] noncomputable def p : Program := c_lawC.2.1
@[irreducible] noncomputable def loose : List Str := c_lawC.2.2.1
@[irreducible] noncomputable def mean : ExcName → Option Value := c_lawC.2.2.2.1
@[irreducible] noncomputable def mg : Str → Option Value := c_lawC.2.2.2.2.1
@[irreducible] noncomputable def mb : Str → Option Value := c_lawC.2.2.2.2.2.1
@[irreducible] noncomputable def A : Around := c_lawC.2.2.2.2.2.2.1
@[irreducible] noncomputable def A₀ : Around := c_lawC.2.2.2.2.2.2.2.1
@[irreducible] noncomputable def outer : List Env := c_lawC.2.2.2.2.2.2.2.2.1
@[irreducible] noncomputable def base : Heap := c_lawC.2.2.2.2.2.2.2.2.2.1
@[irreducible] noncomputable def h₀ : Heap := c_lawC.2.2.2.2.2.2.2.2.2.2.1
@[irreducible] noncomputable def L : Addr := c_lawC.2.2.2.2.2.2.2.2.2.2.2.1
@[irreducible] noncomputable def m : Str → Option Value := c_lawC.2.2.2.2.2.2.2.2.2.2.2.2.1
@[irreducible] noncomputable def s : Shared := c_lawC.2.2.2.2.2.2.2.2.2.2.2.2.2.1
@[irreducible] noncomputable def Q : Flow → Shared → Prop := c_lawC.2.2.2.2.2.2.2.2.2.2.2.2.2.2.1
@[irreducible] noncomputable def E : Value → Shared → Prop := c_lawC.2.2.2.2.2.2.2.2.2.2.2.2.2.2.2.1
@[irreducible] noncomputable def f : Addr := c_lawC.2.2.2.2.2.2.2.2.2.2.2.2.2.2.2.2.1
@[irreducible] noncomputable def lp : Addr := c_lawC.2.2.2.2.2.2.2.2.2.2.2.2.2.2.2.2.2.1
@[irreducible] noncomputable def D : Addr := c_lawC.2.2.2.2.2.2.2.2.2.2.2.2.2.2.2.2.2.2.1
@[irreducible] noncomputable def k : Int := c_lawC.2.2.2.2.2.2.2.2.2.2.2.2.2.2.2.2.2.2.2.1
@[irreducible] noncomputable def n : Nat := c_lawC.2.2.2.2.2.2.2.2.2.2.2.2.2.2.2.2.2.2.2.2.1
@[irreducible] noncomputable def t : Tok := c_lawC.2.2.2.2.2.2.2.2.2.2.2.2.2.2.2.2.2.2.2.2.2.1
@[irreducible] noncomputable def T : List (Addr × Obj) := c_lawC.2.2.2.2.2.2.2.2.2.2.2.2.2.2.2.2.2.2.2.2.2.2.1
@[irreducible] noncomputable def R : List (Addr × Obj) := c_lawC.2.2.2.2.2.2.2.2.2.2.2.2.2.2.2.2.2.2.2.2.2.2.2.1
@[irreducible] noncomputable def kvs : List (Int × Value) := c_lawC.2.2.2.2.2.2.2.2.2.2.2.2.2.2.2.2.2.2.2.2.2.2.2.2.1
@[irreducible] noncomputable def gss : List (List Int) := c_lawC.2.2.2.2.2.2.2.2.2.2.2.2.2.2.2.2.2.2.2.2.2.2.2.2.2.1
@[irreducible] noncomputable def sd : Addr := c_lawC.2.2.2.2.2.2.2.2.2.2.2.2.2.2.2.2.2.2.2.2.2.2.2.2.2.2.1
@[irreducible] noncomputable def back : List (List Int) := c_lawC.2.2.2.2.2.2.2.2.2.2.2.2.2.2.2.2.2.2.2.2.2.2.2.2.2.2.2.1
@[irreducible] noncomputable def ahead : List (List Int) := c_lawC.2.2.2.2.2.2.2.2.2.2.2.2.2.2.2.2.2.2.2.2.2.2.2.2.2.2.2.2
theorem core : P_lawC w p loose mean mg mb A A₀ outer base h₀ L m s Q E f lp D k n t T R kvs gss sd back ahead := by
  have st0 : Stop "all 2" := .mk
  have st1 : Stop "mem 2" := .mk
  have st2 : Stop "name local" := .mk
  have st3 : Stop "call ref" := .mk
  have st4 : Stop "call builtin:sorted" := .mk
  have st5 : Stop "call type:tuple" := .mk
  have st6 : Stop "call builtin:list.append" := .mk
  have st7 : Stop "subscriptTail" := .mk
  have st8 : Stop "binaryOp Add ref ref" := .mk
  have st9 : Stop "compareOp NotIn bytes ref" := .mk
  have st10 : Stop "exec For Name Name cons nil" := .mk
  unfold P_lawC
  refine' fn_cases ?k6 ?_
  case k6 => k_is
  intro bb e v0 v1 C F N S hm hsd hv0 hv1 hbl hal fb fa hd hu hE hK
  obtain ⟨L, hL⟩ : ∃ l : Nat, l = L := ⟨L, rfl⟩
  subst hL
  refine start3 e rfl (fun a8' a9' h8 h9 => ?_)
  have X' := C.X
  have T' := C.T
  have B' := C.B
  try k_fold
  obtain ⟨ob, z2, hob⟩ := S.c2
  try k_fold
  obtain ⟨om, zm, hom⟩ := S.dm
  have soff := S.off
  obtain ⟨sn, hsd⟩ := hsd
  refine execsC_any ?_
  k_steps
  rename News _ _ _ _ => N₁
  rename Fr _ _ _ _ => F₁
  rename _ ∧ AllLt _ _ => l1
  rename_i cl hA hB
  have c1 : ∀ q ∈ R, q.1 ≠ cl := allLt_ne l1.2
  have c2 : lp ≠ cl := Nat.ne_of_lt l1.1
  subst h8
  refine Hold.go (execsC_any ?_)
  k_steps
  rename News _ _ _ _ => N₂
  rename Fr _ _ _ _ => F₂
  refine Hold.go (sorted_dict C.hh F₂ N₂ (.tail _ (.tail _ zm)) hom S.lom (Nat.lt_of_le_of_lt S.kl (by decide)) fun lg vg gs cg h₃ tk₃ F₃ N₃ l3 hI hperm hsort => ?_)
  have hgs : gs = kvs.map (·.1) := sorted_unique hperm hsort S.kp
  subst hgs
  try k_fold
  obtain ⟨la, ya, rfl, hla, hta⟩ := hv0
  try k_fold
  obtain ⟨lb, yb, rfl, hlb, htb⟩ := hv1
  have hal0 := hta.length
  have hbl0 := htb.length
  have hil := hI.length
  have hkl := S.kl
  have hkl2 : (kvs.map (·.1)).length = kvs.length := List.length_map ..
  k_steps
  rename News _ _ _ _ => N₄
  rename Fr _ _ _ _ => F₄
  refine Hold.go (tuple_new F₄ N₄ ⟨_, (N₄ _ (.head _)).1, rfl, _, rfl⟩ (fun Dt h₅ F₅ N₅ l5 => ?_) (by omega))
  k_steps
  rename News _ _ _ _ => N₆
  rename Fr _ _ _ _ => F₆
  refine Hold.go (itemAt (k := 0) (items := [Value.ref la, Value.ref lb]) (x := Value.ref la) ⟨_, (N₆ _ (.tail _ (.tail _ (.tail _ (.tail _ (.tail _ hsd)))))).1, rfl, _, rfl⟩ (by decide) (by decide) rfl ?_)
  k_steps
  rename _ ∧ _ ∧ _ ∧ _ ∧ AllLt _ R => l6
  rename_i l' hE6
  have hz6 := fun q hq => Heap.lt_size (N₆ q hq).1
  refine Hold.go (add_lists (vs := [.ref Dt]) (ws := ya) F₆ N₆ ⟨_, (N₆ _ (.head _)).1, rfl, _, rfl⟩ ⟨_, (N₆ _ (.tail _ (.tail _ (.tail _ (.tail _ (.tail _ hla)))))).1, rfl, _, rfl⟩ (fun h₇ F₇ N₇ => ?_) (by rw [sizeLine_eq]; simp; omega))
  generalize hE6.objs.size = lx at N₇ hz6 ⊢
  k_steps
  rename News _ _ _ _ => N₈
  rename Fr _ _ _ _ => F₈
  have hz8 := fun q hq => Heap.lt_size (N₈ q hq).1
  refine Hold.go (itemAt (k := 1) (items := [Value.ref la, Value.ref lb]) (x := Value.ref lb) ⟨_, (N₈ _ (.tail _ (.tail _ (.tail _ (.tail _ (.tail _ (.tail _ hsd))))))).1, rfl, _, rfl⟩ (by decide) (by decide) rfl ?_)
  refine Hold.go (add_lists (vs := [.ref Dt] ++ ya) (ws := yb) F₈ N₈ ⟨_, (N₈ _ (.head _)).1, rfl, _, rfl⟩ ⟨_, (N₈ _ (.tail _ (.tail _ (.tail _ (.tail _ (.tail _ (.tail _ hlb))))))).1, rfl, _, rfl⟩ (fun h₉ F₉ N₉ => ?_) (by rw [sizeLine_eq]; simp; omega))
  generalize h₇.objs.size = wl at N₉ hz8 ⊢
  k_steps
  rename News _ _ _ _ => N₁₀
  rename Fr _ _ _ _ => F₁₀
  subst h9
  obtain ⟨Rw, N₁₁, m1, m2, m3, m4, m5⟩ : ∃ Rw, News h₀ L _ ((cl, W.listOf #[] 0) :: (lp, W.listOf #[.int k t] n) :: Rw) ∧ (∀ q ∈ R, q ∈ Rw) ∧ (∀ q ∈ Rw, q.1 ≠ cl) ∧ (∀ q ∈ Rw, q.1 ≠ lp) ∧ (wl, W.listOf ([Value.ref Dt] ++ ya ++ yb).toArray 0) ∈ Rw ∧ TupIn Rw (.ref Dt) (kvs.map (·.1)) := by
    refine ⟨(wl, W.listOf ([Value.ref Dt] ++ ya ++ yb).toArray 0) :: (lx, W.listOf ([Value.ref Dt] ++ ya).toArray 0) :: (l', W.listOf #[Value.ref Dt] 0) :: (Dt, { cls := .type "tuple", data := .seq vg.toArray }) :: (lg, W.listOf vg.toArray cg) :: R, fun q hq => N₁₀ q ?_, fun q hq => .tail _ (.tail _ (.tail _ (.tail _ (.tail _ hq)))),
      off_cons ?_ (off_cons ?_ (off_cons ?_ (off_cons ?_ (off_cons ?_ c1)))), off_cons ?_ (off_cons ?_ (off_cons ?_ (off_cons ?_ (off_cons ?_ soff)))), .head _, ⟨Dt, { cls := .type "tuple", data := .seq vg.toArray }, vg, _, rfl, .tail _ (.tail _ (.tail _ (.head _))), rfl, rfl, hI⟩⟩
    · revert q
      repeat' (first | exact sub_rf | exact List.Mem.head _ | refine sub_cons ?_ ?_ | refine List.Mem.tail _ ?_ | refine List.mem_append_right _ ?_ | exact sub_apl | refine sub_app ?_ ?_ | refine sub_tl ?_ | refine sub_apr ?_)
    · exact Nat.ne_of_gt (hz8 _ (.tail _ (.tail _ (.tail _ (.tail _ (.head _))))))
    · exact Nat.ne_of_gt (hz6 _ (.tail _ (.tail _ (.tail _ (.head _)))))
    · exact Nat.ne_of_gt l6.2.2.1
    · exact Nat.ne_of_gt (l5 _ (.tail _ (.head _)))
    · exact Nat.ne_of_gt (l3 _ (.head _))
    · exact Nat.ne_of_gt (hz8 _ (.tail _ (.tail _ (.tail _ (.tail _ (.tail _ (.head _)))))))
    · exact Nat.ne_of_gt (hz6 _ (.tail _ (.tail _ (.tail _ (.tail _ (.head _))))))
    · exact Nat.ne_of_gt l6.2.2.2.1
    · exact Nat.ne_of_gt (l5 _ (.tail _ (.tail _ (.head _))))
    · exact Nat.ne_of_gt (l3 _ (.tail _ (.head _)))
  clear N₁₀ hz6 hz8 l6 l5 l3
  have hww : TupsIn Rw ([Value.ref Dt] ++ ya ++ yb) (kvs.map (·.1) :: back ++ ahead) := .cons m5 ((hta.mono m1).append (htb.mono m1))
  have hwl : ([Value.ref Dt] ++ ya ++ yb).length ≤ 7 := by simp; omega
  have hfw : ∀ gs ∈ kvs.map (·.1) :: back ++ ahead, gs.length ≤ 5 ∧ ∀ g ∈ gs, 0 ≤ g ∧ g < 10000 := fun gs hg => by
    rcases List.mem_cons.mp hg with rfl | hg
    · exact ⟨by omega, fun g hg => by have := S.kk g hg; omega⟩
    · rcases List.mem_append.mp hg with hg | hg
      · exact fb gs hg
      · exact fa gs hg
  generalize hwe : [Value.ref Dt] ++ ya ++ yb = ww at *
  generalize hge : kvs.map (·.1) :: back ++ ahead = wg at *
  refine Hold.go (execsC_any ?_)
  k_steps
  refine Hold.go (forA_list (h₀ := h₀) (L := L) C.hh ?_ hE)
  k_steps
  rename Fr _ _ _ _ => F₁₂
  refine Hold.go ⟨wl, ww.toArray, _, _, fun i m₁ nw => m₁ ("sides" : Str) = some (.ref sd) ∧ m₁ ("wanted" : Str) = some (.ref wl) ∧ m₁ ("covers" : Str) = some (.ref cl) ∧ ∃ (cc : List Value) (cn : Nat), nw = (cl, W.listOf (List.toArray cc) cn) :: (lp, W.listOf #[.int k t] n) :: Rw ∧ BytesAre cc (firsts ((wg.take i).map coverBytes)) ∧ cc.length ≤ i, rfl, F₁₂, N₁₁, ⟨hm, rfl, rfl, [], 0, rfl, .nil, by decide⟩, ?_, ?_⟩
  · intro i m₁ nw hp1
    try k_fold
    obtain ⟨_, _, _, cc, cn, rfl, _⟩ := hp1
    exact ⟨_, _, .tail _ (.tail _ m4), rfl, rfl⟩
  · rintro s₂ ⟨g₂, rfl⟩
    refine ⟨?_, ?_⟩
    · intro i v m₁ nw I oI h tk hv hp1 F₁₃ N₁₃ offI
      try k_fold
      obtain ⟨hm1, hm2, hm3, cc, cn, rfl, hcc, hcl⟩ := hp1
      try k_fold
      obtain ⟨gs, hgs, tg, og, vg', kg, rfl, hog, hoc, hod, hig⟩ := hww.at (i := i) (by simpa using hv)
      have hfg := hfw gs (List.mem_of_getElem? hgs)
      k_steps
      rename News _ _ _ _ => N₁₄
      rename Fr _ _ _ _ => F₁₄
      refine Hold.go (law_cover_ok C F₁₄ N₁₄ (.tail _ (.tail _ (.tail _ hog))) hoc hod hig (by omega) (fun g hg => by have := hfg.2 g hg; omega) (by omega) (by omega) fun tb h₁₅ tk₁₅ F₁₅ N₁₅ => ?_)
      k_steps
      have hstep : firsts ((wg.take (i + 1)).map coverBytes) = (if (firsts ((wg.take i).map coverBytes)).any (fun x => decide (x = coverBytes gs)) then firsts ((wg.take i).map coverBytes) else firsts ((wg.take i).map coverBytes) ++ [coverBytes gs]) := by
        rw [List.take_add_one, hgs, Option.toList, List.map_append, List.map_cons, List.map_nil, firsts_snoc]
      have oclI : cl ≠ I := offI _ (.head _)
      have oclU : ∀ q ∈ (lp, W.listOf #[.int k t] n) :: Rw, q.1 ≠ cl := off_cons c2 m2
      have ilt : i < 7 := by
        have h1 : i < ww.toArray.size := (Array.getElem?_eq_some_iff.mp hv).1
        rw [List.size_toArray] at h1; omega
      refine Hold.go (notin_bytes ⟨_, (N₁₅ _ (.tail _ (.head _))).1, rfl, _, rfl⟩ hcc ?_)
      cases hany : (firsts ((wg.take i).map coverBytes)).any (fun x => decide (x = coverBytes gs)) with
      | true =>
        rw [hany, if_pos rfl] at hstep
        dsimp only [Bool.not_true]
        k_steps
        refine Hold.go ⟨_, _, _, (cl, W.listOf (List.toArray cc) cn) :: (lp, W.listOf #[.int k t] n) :: Rw, rfl, F₁₅, N₁₅, offI, hm1, hm2, hm3, cc, cn, rfl, hstep ▸ hcc, by omega⟩
      | false =>
        rw [hany, if_neg Bool.false_ne_true] at hstep
        dsimp only [Bool.not_false]
        k_steps
        refine Hold.go (law_cover_ok C F₁₅ N₁₅ (.tail _ (.tail _ (.tail _ hog))) hoc hod hig (by omega) (fun g hg => by have := hfg.2 g hg; omega) (by omega) (by omega) fun tb2 h₁₆ tk₁₆ F₁₆ N₁₆ => ?_)
        k_steps
        refine Hold.go (append_K F₁₆ N₁₆ (.tail oclI.symm (.head oclU)) (fun h₁₇ F₁₇ N₁₇ => ?_) (by rw [List.size_toArray, sizeLine_eq]; omega))
        k_steps
        rename News _ _ _ _ => N₁₈
        rename Fr _ _ _ _ => F₁₈
        dsimp only
        rw [List.push_toArray] at N₁₈
        refine Hold.go ⟨_, _, _, (cl, W.listOf (cc ++ [Value.bytes (coverBytes gs).toArray tb2]).toArray (cn + 1)) :: (lp, W.listOf #[.int k t] n) :: Rw, rfl, F₁₈, N₁₈, off_cons oclI fun q hq => offI q (.tail _ hq), hm1, hm2, hm3, cc ++ [Value.bytes (coverBytes gs).toArray tb2], cn + 1, rfl, hstep ▸ hcc.append (.cons _ _ .nil), by rw [List.length_append]; show cc.length + 1 ≤ i + 1; omega⟩
    · intro h tk m₁ nw F₁₃ N₁₃ hp1
      try k_fold
      obtain ⟨hm1, hm2, hm3, cc, cn, rfl, hcc, hcl⟩ := hp1
      dsimp only
      have hwl2 := hww.length
      rw [List.size_toArray, List.take_of_length_le (by omega)] at hcc
      refine hold (hK n ((cl, W.listOf (List.toArray cc) cn) :: Rw) m₁ h tk wl ww 0 cl cc cn (fun q hq => .tail _ (m1 q hq)) (off_cons c2.symm m3) F₁₃ (news_swap N₁₃) hm1 hm2 (.tail _ m4) (hww.mono fun q hq => .tail _ hq) hm3 (.head _) hcc)
end K_lawC
theorem lawC {w : World} {p : Program} {loose : List Str} {mean : ExcName → Option Value} {mg : Str → Option Value} {mb : Str → Option Value} {A : Around} {A₀ : Around} {outer : List Env} {base : Heap} {h₀ : Heap} {L : Addr} {m : Str → Option Value} {s : Shared} {Q : Flow → Shared → Prop} {E : Value → Shared → Prop} {name qual : Str} {params : Arguments} {bb : List Stmt} {scope : Scope} {dV kV doc pm cdv ct oc : Value} {an od : Option Addr} {osl : Array (Option Value)} {f lp D : Addr} {k : Int} {n : Nat} {t : Tok} {T R : List (Addr × Obj)} {kvs : List (Int × Value)} {gss : List (List Int)} {sd : Addr} {v0 v1 : Value} {back ahead : List (List Int)} (hb : (hd0.heap_1 w.params).lookup 305 = some ⟨oc, od, .func (fnOf name qual params bb scope dV kV doc pm an cdv ct), osl⟩) (C : Cx w p loose mean mg mb A A₀ (envOfC qual scope L 305 cdv) outer base h₀ L) (F : Fr h₀ L s.heap m) (N : News h₀ L s.heap ((lp, W.listOf #[.int k t] n) :: R)) (S : LawSt w p loose mean mg mb L f lp D k T R kvs gss) (hm : m ("sides" : Str) = some (.ref sd)) (hsd : ∃ n, (sd, W.listOf #[v0, v1] n) ∈ R) (hv0 : SideIn R v0 back) (hv1 : SideIn R v1 ahead) (hbl : back.length ≤ 3) (hal : ahead.length ≤ 3) (fb : Fine back) (fa : Fine ahead) (hd : A.depth ≤ 800) (hu : A.units ≤ 4000) (hE : PassesOwn (model PySem.Challenge.rw_pb0182_01.row.prog w) A (envOfC qual scope L 305 cdv) E) (hK : ∀ n R' m' h' tk' wl ww wn cl cc cn, (∀ q ∈ R, q ∈ R') → (∀ q ∈ R', q.1 ≠ lp) → Fr h₀ L h' m' → News h₀ L h' ((lp, W.listOf #[.int k t] n) :: R') → m' ("sides" : Str) = some (.ref sd) →
      m' ("wanted" : Str) = some (.ref wl) → (wl, W.listOf (List.toArray ww) wn) ∈ R' → TupsIn R' ww (kvs.map (·.1) :: back ++ ahead) →
      m' ("covers" : Str) = some (.ref cl) → (cl, W.listOf (List.toArray cc) cn) ∈ R' → BytesAre cc (firsts ((kvs.map (·.1) :: back ++ ahead).map coverBytes)) →
      wpC (model PySem.Challenge.rw_pb0182_01.row.prog w) A (execs (bb.drop 10) (envOfC qual scope L 305 cdv)) Q E { s with heap := h', toks := tk' }) :
    wpC (model PySem.Challenge.rw_pb0182_01.row.prog w) A (execs (bb.drop 7) (envOfC qual scope L 305 cdv)) Q E s :=
  eps_all (P := fun v => P_lawC v.1 v.2.1 v.2.2.1 v.2.2.2.1 v.2.2.2.2.1 v.2.2.2.2.2.1 v.2.2.2.2.2.2.1 v.2.2.2.2.2.2.2.1 v.2.2.2.2.2.2.2.2.1 v.2.2.2.2.2.2.2.2.2.1 v.2.2.2.2.2.2.2.2.2.2.1 v.2.2.2.2.2.2.2.2.2.2.2.1 v.2.2.2.2.2.2.2.2.2.2.2.2.1 v.2.2.2.2.2.2.2.2.2.2.2.2.2.1 v.2.2.2.2.2.2.2.2.2.2.2.2.2.2.1 v.2.2.2.2.2.2.2.2.2.2.2.2.2.2.2.1 v.2.2.2.2.2.2.2.2.2.2.2.2.2.2.2.2.1 v.2.2.2.2.2.2.2.2.2.2.2.2.2.2.2.2.2.1 v.2.2.2.2.2.2.2.2.2.2.2.2.2.2.2.2.2.2.1 v.2.2.2.2.2.2.2.2.2.2.2.2.2.2.2.2.2.2.2.1 v.2.2.2.2.2.2.2.2.2.2.2.2.2.2.2.2.2.2.2.2.1 v.2.2.2.2.2.2.2.2.2.2.2.2.2.2.2.2.2.2.2.2.2.1 v.2.2.2.2.2.2.2.2.2.2.2.2.2.2.2.2.2.2.2.2.2.2.1 v.2.2.2.2.2.2.2.2.2.2.2.2.2.2.2.2.2.2.2.2.2.2.2.1 v.2.2.2.2.2.2.2.2.2.2.2.2.2.2.2.2.2.2.2.2.2.2.2.2.1 v.2.2.2.2.2.2.2.2.2.2.2.2.2.2.2.2.2.2.2.2.2.2.2.2.2.1 v.2.2.2.2.2.2.2.2.2.2.2.2.2.2.2.2.2.2.2.2.2.2.2.2.2.2.1 v.2.2.2.2.2.2.2.2.2.2.2.2.2.2.2.2.2.2.2.2.2.2.2.2.2.2.2.1 v.2.2.2.2.2.2.2.2.2.2.2.2.2.2.2.2.2.2.2.2.2.2.2.2.2.2.2.2) (by with_unfolding_all exact K_lawC.core) (w, p, loose, mean, mg, mb, A, A₀, outer, base, h₀, L, m, s, Q, E, f, lp, D, k, n, t, T, R, kvs, gss, sd, back, ahead) name qual params bb scope dV kV doc pm cdv ct oc an od osl hb v0 v1 C F N S hm hsd hv0 hv1 hbl hal fb fa hd hu hE hK
end
end Mine
end TextW4
section TextW5
open PySem PySem.W PyProof.Rows PySem.Calls PySem.Spec
set_option Elab.async false
set_option maxRecDepth 100000
set_option maxHeartbeats 1000000
namespace Mine
theorem fillW5 {w : World} {A : Around} {Q : Value → Shared → Prop} {E : Value → Shared → Prop} {s : Shared} (h : (hd0.heap_1 w.params).In s.heap → wpAny (model PySem.Challenge.rw_pb0182_01.row.prog w) A (call .none []) Q E s) :
    (hd0.heap_1 w.params).In s.heap → wpAny (model PySem.Challenge.rw_pb0182_01.row.prog w) A (call .none []) Q E s := by
  k_fill
  w_top off
  intro hX
  try walk1
  exact h hX
section
variable {w : World} {p : Program} {loose : List Str} {mean : ExcName → Option Value} {mg mb : Str → Option Value} {A A₀ : Around} {env : Env} {outer : List Env} {base h₀ : Heap} {L : Addr} {m : Str → Option Value} {news rest : List (Addr × Obj)} {s : Shared}
  {Q : Flow → Shared → Prop} {E : Value → Shared → Prop}
theorem pick_upto {vs : List Value} {y : Int} (h : 0 ≤ y) : (slicePick vs.toArray none (some y) none).toList = vs.take y.toNat := by
  have e : sliceBounds none (some y) none vs.toArray.size = (((0 : Nat) : Int), ((min y.toNat vs.toArray.size : Nat) : Int), 1) := by
    simp only [sliceBounds, Option.getD_none, show (1 : Int) > 0 by decide, if_true, if_neg (Int.not_lt.mpr h)]
    congr 1
    congr 1
    exact ar_upto _ h
  rw [kmk_pick_nat _ e]
  show (vs.drop 0).take (min y.toNat vs.toArray.size - 0) = _
  rw [List.drop_zero, Nat.sub_zero, List.size_toArray, kmk_take_min]
theorem BytesAre.take' {vs : List Value} {cs : List (List UInt8)} (H : BytesAre vs cs) : ∀ n, BytesAre (vs.take n) (cs.take n) := by
  induction H with
  | nil => intro n; rw [List.take_nil, List.take_nil]; exact .nil
  | cons c t h ih =>
    intro n
    cases n with
    | zero => exact .nil
    | succ n => exact .cons c t (ih n)
theorem BytesAre.at' {vs : List Value} {cs : List (List UInt8)} (H : BytesAre vs cs) : ∀ {i : Nat} {v}, vs[i]? = some v → ∃ c t, cs[i]? = some c ∧ v = .bytes c.toArray t := by
  induction H with
  | nil => intro i v h; cases h
  | cons c t r ih =>
    intro i v h
    cases i with
    | zero => cases h; exact ⟨_, _, rfl, rfl⟩
    | succ i => exact ih h
/-- where a cover lies that is first wanted at its place -/
noncomputable def offOf (bg : Int) (cs : List (List UInt8)) (c : List UInt8) : Int := bg + (((cs.take (cs.idxOf c)).map fun x => (x.length : Int)).sum)
theorem firsts_len : ∀ l : List (List UInt8), (firsts l).length ≤ l.length := by
  intro l
  have key : ∀ l : List (List UInt8), (firsts l.reverse).length ≤ l.length := by
    intro l
    induction l with
    | nil => exact Nat.le_refl _
    | cons a r ih =>
      rw [List.reverse_cons, firsts_snoc]
      split
      · exact Nat.le_succ_of_le ih
      · rw [List.length_append]; exact Nat.succ_le_succ ih
  have := key l.reverse
  rwa [List.reverse_reverse, List.length_reverse] at this
theorem firsts_mem : ∀ {l : List (List UInt8)} {c : List UInt8}, c ∈ l ↔ c ∈ firsts l := by
  intro l
  have key : ∀ l : List (List UInt8), ∀ {c : List UInt8}, c ∈ l.reverse ↔ c ∈ firsts l.reverse := by
    intro l
    induction l with
    | nil => intro c; exact Iff.rfl
    | cons a r ih =>
      intro c
      rw [List.reverse_cons, firsts_snoc]
      split
      · rename_i hany
        try k_fold
        obtain ⟨x, hx, hxa⟩ := List.any_eq_true.mp hany
        have hxa : x = a := by simpa using hxa
        subst hxa
        rw [List.mem_append, List.mem_singleton, ← ih]
        constructor
        · rintro (h | rfl)
          · exact h
          · exact ih.mpr hx
        · exact .inl
      · rw [List.mem_append, List.mem_append, ih]
  intro c
  have := key l.reverse (c := c)
  rwa [List.reverse_reverse] at this
end
section
noncomputable def P_lawD (w : World) (p : Program) (loose : List Str) (mean : ExcName → Option Value) (mg : Str → Option Value) (mb : Str → Option Value) (A : Around) (A₀ : Around) (outer : List Env) (base : Heap) (h₀ : Heap) (L : Addr) (m : Str → Option Value) (s : Shared) (Q : Flow → Shared → Prop) (E : Value → Shared → Prop) (f : Addr) (lp : Addr) (D : Addr) (k : Int) (n : Nat) (t : Tok) (T : List (Addr × Obj)) (R : List (Addr × Obj)) (kvs : List (Int × Value)) (gss : List (List Int)) (sd : Addr) (back : List (List Int)) (ahead : List (List Int)) (wl : Addr) (cl : Addr) (ww : List Value) (cc : List Value) (wn : Nat) (cn : Nat) : Prop := ∀ (name : Str) (qual : Str) (params : Arguments) (bb : List Stmt) (scope : Scope) (dV : Value) (kV : Value) (doc : Value) (pm : Value) (cdv : Value) (ct : Value) (oc : Value) (an : Option Addr) (od : Option Addr) (osl : Array (Option Value)) (hb : (hd0.heap_1 w.params).lookup 305 = some ⟨oc, od, .func (fnOf name qual params bb scope dV kV doc pm an cdv ct), osl⟩) (v0 : Value) (v1 : Value) (C : Cx w p loose mean mg mb A A₀ (envOfC qual scope L 305 cdv) outer base h₀ L) (F : Fr h₀ L s.heap m) (N : News h₀ L s.heap ((lp, W.listOf #[.int k t] n) :: R)) (S : LawSt w p loose mean mg mb L f lp D k T R kvs gss) (hm : m ("sides" : Str) = some (.ref sd)) (hsd : ∃ n, (sd, W.listOf #[v0, v1] n) ∈ R) (hv0 : SideIn R v0 back) (hv1 : SideIn R v1 ahead) (hbl : back.length ≤ 3) (hal : ahead.length ≤ 3) (fb : Fine back) (fa : Fine ahead) (hm1 : m ("wanted" : Str) = some (.ref wl)) (hwl : (wl, W.listOf (List.toArray ww) wn) ∈ R) (hww : TupsIn R ww (kvs.map (·.1) :: back ++ ahead)) (hm2 : m ("covers" : Str) = some (.ref cl)) (hcl : (cl, W.listOf (List.toArray cc) cn) ∈ R) (hcc : BytesAre cc (firsts ((kvs.map (·.1) :: back ++ ahead).map coverBytes))) (hd : A.depth ≤ 800) (hu : A.units ≤ 4000) (hE : PassesOwn (model PySem.Challenge.rw_pb0182_01.row.prog w) A (envOfC qual scope L 305 cdv) E) (hK : ∀ n R' m' h' tk' ol oo on, (∀ q ∈ R, q ∈ R') → (∀ q ∈ R', q.1 ≠ lp) → Fr h₀ L h' m' → News h₀ L h' ((lp, W.listOf #[.int k t] n) :: R') → m' ("sides" : Str) = some (.ref sd) →
      m' ("covers" : Str) = some (.ref cl) → m' ("offsets" : Str) = some (.ref ol) → (ol, W.listOf (List.toArray oo) on) ∈ R' →
      IntsAre oo ((kvs.map (·.1) :: back ++ ahead).map fun gs => offOf (10 + 2 * ((back.length : Int) + ahead.length + kvs.length)) (firsts ((kvs.map (·.1) :: back ++ ahead).map coverBytes)) (coverBytes gs)) →
      wpC (model PySem.Challenge.rw_pb0182_01.row.prog w) A (execs (bb.drop 13) (envOfC qual scope L 305 cdv)) Q E { s with heap := h', toks := tk' }),
    wpC (model PySem.Challenge.rw_pb0182_01.row.prog w) A (execs (bb.drop 10) (envOfC qual scope L 305 cdv)) Q E s
noncomputable def c_lawD := @Classical.epsilon ((World) × (Program) × (List Str) × (ExcName → Option Value) × (Str → Option Value) × (Str → Option Value) × (Around) × (Around) × (List Env) × (Heap) × (Heap) × (Addr) × (Str → Option Value) × (Shared) × (Flow → Shared → Prop) × (Value → Shared → Prop) × (Addr) × (Addr) × (Addr) × (Int) × (Nat) × (Tok) × (List (Addr × Obj)) × (List (Addr × Obj)) × (List (Int × Value)) × (List (List Int)) × (Addr) × (List (List Int)) × (List (List Int)) × (Addr) × (Addr) × (List Value) × (List Value) × (Nat) × (Nat)) ⟨(wDef, default, [], fun _ => none, fun _ => none, fun _ => none, callerA, callerA, [], default, default, 0, fun _ => none, (PySem.start default).1, fun _ _ => True, fun _ _ => True, 0, 0, 0, 0, 0, 0, [], [], [], [], 0, [], [], 0, 0, [], [], 0, 0)⟩ fun v => ¬ P_lawD v.1 v.2.1 v.2.2.1 v.2.2.2.1 v.2.2.2.2.1 v.2.2.2.2.2.1 v.2.2.2.2.2.2.1 v.2.2.2.2.2.2.2.1 v.2.2.2.2.2.2.2.2.1 v.2.2.2.2.2.2.2.2.2.1 v.2.2.2.2.2.2.2.2.2.2.1 v.2.2.2.2.2.2.2.2.2.2.2.1 v.2.2.2.2.2.2.2.2.2.2.2.2.1 v.2.2.2.2.2.2.2.2.2.2.2.2.2.1 v.2.2.2.2.2.2.2.2.2.2.2.2.2.2.1 v.2.2.2.2.2.2.2.2.2.2.2.2.2.2.2.1 v.2.2.2.2.2.2.2.2.2.2.2.2.2.2.2.2.1 v.2.2.2.2.2.2.2.2.2.2.2.2.2.2.2.2.2.1 v.2.2.2.2.2.2.2.2.2.2.2.2.2.2.2.2.2.2.1 v.2.2.2.2.2.2.2.2.2.2.2.2.2.2.2.2.2.2.2.1 v.2.2.2.2.2.2.2.2.2.2.2.2.2.2.2.2.2.2.2.2.1 v.2.2.2.2.2.2.2.2.2.2.2.2.2.2.2.2.2.2.2.2.2.1 v.2.2.2.2.2.2.2.2.2.2.2.2.2.2.2.2.2.2.2.2.2.2.1 v.2.2.2.2.2.2.2.2.2.2.2.2.2.2.2.2.2.2.2.2.2.2.2.1 v.2.2.2.2.2.2.2.2.2.2.2.2.2.2.2.2.2.2.2.2.2.2.2.2.1 v.2.2.2.2.2.2.2.2.2.2.2.2.2.2.2.2.2.2.2.2.2.2.2.2.2.1 v.2.2.2.2.2.2.2.2.2.2.2.2.2.2.2.2.2.2.2.2.2.2.2.2.2.2.1 v.2.2.2.2.2.2.2.2.2.2.2.2.2.2.2.2.2.2.2.2.2.2.2.2.2.2.2.1 v.2.2.2.2.2.2.2.2.2.2.2.2.2.2.2.2.2.2.2.2.2.2.2.2.2.2.2.2.1 v.2.2.2.2.2.2.2.2.2.2.2.2.2.2.2.2.2.2.2.2.2.2.2.2.2.2.2.2.2.1 v.2.2.2.2.2.2.2.2.2.2.2.2.2.2.2.2.2.2.2.2.2.2.2.2.2.2.2.2.2.2.1 v.2.2.2.2.2.2.2.2.2.2.2.2.2.2.2.2.2.2.2.2.2.2.2.2.2.2.2.2.2.2.2.1 v.2.2.2.2.2.2.2.2.2.2.2.2.2.2.2.2.2.2.2.2.2.2.2.2.2.2.2.2.2.2.2.2.1 v.2.2.2.2.2.2.2.2.2.2.2.2.2.2.2.2.2.2.2.2.2.2.2.2.2.2.2.2.2.2.2.2.2.1 v.2.2.2.2.2.2.2.2.2.2.2.2.2.2.2.2.2.2.2.2.2.2.2.2.2.2.2.2.2.2.2.2.2.2
namespace K_lawD
@[irreducible] noncomputable def w : World := c_lawD.1
@[irreducible] noncomputable def p : Program := c_lawD.2.1
@[irreducible] noncomputable def loose : List Str := c_lawD.2.2.1
@[irreducible] noncomputable def mean : ExcName → Option Value := c_lawD.2.2.2.1
@[irreducible] noncomputable def mg : Str → Option Value := c_lawD.2.2.2.2.1
@[irreducible] noncomputable def mb : Str → Option Value := c_lawD.2.2.2.2.2.1
@[irreducible] noncomputable def A : Around := c_lawD.2.2.2.2.2.2.1
@[irreducible] noncomputable def A₀ : Around := c_lawD.2.2.2.2.2.2.2.1
@[irreducible] noncomputable def outer : List Env := c_lawD.2.2.2.2.2.2.2.2.1
@[irreducible] noncomputable def base : Heap := c_lawD.2.2.2.2.2.2.2.2.2.1
@[irreducible] noncomputable def h₀ : Heap := c_lawD.2.2.2.2.2.2.2.2.2.2.1
@[irreducible] noncomputable def L : Addr := c_lawD.2.2.2.2.2.2.2.2.2.2.2.1
@[irreducible] noncomputable def m : Str → Option Value := c_lawD.2.2.2.2.2.2.2.2.2.2.2.2.1
@[irreducible] noncomputable def s : Shared := c_lawD.2.2.2.2.2.2.2.2.2.2.2.2.2.1
@[irreducible] noncomputable def Q : Flow → Shared → Prop := c_lawD.2.2.2.2.2.2.2.2.2.2.2.2.2.2.1
@[irreducible] noncomputable def E : Value → Shared → Prop := c_lawD.2.2.2.2.2.2.2.2.2.2.2.2.2.2.2.1
@[irreducible] noncomputable def f : Addr := c_lawD.2.2.2.2.2.2.2.2.2.2.2.2.2.2.2.2.1
@[irreducible] noncomputable def lp : Addr := c_lawD.2.2.2.2.2.2.2.2.2.2.2.2.2.2.2.2.2.1
@[irreducible] noncomputable def D : Addr := c_lawD.2.2.2.2.2.2.2.2.2.2.2.2.2.2.2.2.2.2.1
@[irreducible] noncomputable def k : Int := c_lawD.2.2.2.2.2.2.2.2.2.2.2.2.2.2.2.2.2.2.2.1
@[irreducible] noncomputable def n : Nat := c_lawD.2.2.2.2.2.2.2.2.2.2.2.2.2.2.2.2.2.2.2.2.1
@[irreducible] noncomputable def t : Tok := c_lawD.2.2.2.2.2.2.2.2.2.2.2.2.2.2.2.2.2.2.2.2.2.1
@[irreducible] noncomputable def T : List (Addr × Obj) := c_lawD.2.2.2.2.2.2.2.2.2.2.2.2.2.2.2.2.2.2.2.2.2.2.1
@[irreducible] noncomputable def R : List (Addr × Obj) := c_lawD.2.2.2.2.2.2.2.2.2.2.2.2.2.2.2.2.2.2.2.2.2.2.2.1
@[irreducible] noncomputable def kvs : List (Int × Value) := c_lawD.2.2.2.2.2.2.2.2.2.2.2.2.2.2.2.2.2.2.2.2.2.2.2.2.1
@[irreducible] noncomputable def gss : List (List Int) := c_lawD.2.2.2.2.2.2.2.2.2.2.2.2.2.2.2.2.2.2.2.2.2.2.2.2.2.1
@[irreducible] noncomputable def sd : Addr := c_lawD.2.2.2.2.2.2.2.2.2.2.2.2.2.2.2.2.2.2.2.2.2.2.2.2.2.2.1
@[irreducible] noncomputable def back : List (List Int) := c_lawD.2.2.2.2.2.2.2.2.2.2.2.2.2.2.2.2.2.2.2.2.2.2.2.2.2.2.2.1
@[irreducible] noncomputable def ahead : List (List Int) := c_lawD.2.2.2.2.2.2.2.2.2.2.2.2.2.2.2.2.2.2.2.2.2.2.2.2.2.2.2.2.1
@[irreducible] noncomputable def wl : Addr := c_lawD.2.2.2.2.2.2.2.2.2.2.2.2.2.2.2.2.2.2.2.2.2.2.2.2.2.2.2.2.2.1
@[irreducible] noncomputable def cl : Addr := c_lawD.2.2.2.2.2.2.2.2.2.2.2.2.2.2.2.2.2.2.2.2.2.2.2.2.2.2.2.2.2.2.1
@[irreducible] noncomputable def ww : List Value := c_lawD.2.2.2.2.2.2.2.2.2.2.2.2.2.2.2.2.2.2.2.2.2.2.2.2.2.2.2.2.2.2.2.1
@[irreducible] noncomputable def cc : List Value := c_lawD.2.2.2.2.2.2.2.2.2.2.2.2.2.2.2.2.2.2.2.2.2.2.2.2.2.2.2.2.2.2.2.2.1
@[irreducible] noncomputable def wn : Nat := c_lawD.2.2.2.2.2.2.2.2.2.2.2.2.2.2.2.2.2.2.2.2.2.2.2.2.2.2.2.2.2.2.2.2.2.1
@[irreducible] noncomputable def cn : Nat := c_lawD.2.2.2.2.2.2.2.2.2.2.2.2.2.2.2.2.2.2.2.2.2.2.2.2.2.2.2.2.2.2.2.2.2.2
theorem core : P_lawD w p loose mean mg mb A A₀ outer base h₀ L m s Q E f lp D k n t T R kvs gss sd back ahead wl cl ww cc wn cn := by
  have st0 : Stop "all 2" := .mk
  have st1 : Stop "mem 2" := .mk
  have st2 : Stop "name local" := .mk
  have st3 : Stop "call ref" := .mk
  have st4 : Stop "call builtin:len" := .mk
  have st5 : Stop "call builtin:sum" := .mk
  have st6 : Stop "call builtin:list.index" := .mk
  have st7 : Stop "call builtin:list.append" := .mk
  have st8 : Stop "subscriptTail" := .mk
  have st9 : Stop "eval ListComp" := .mk
  have st10 : Stop "exec For Name Name cons nil" := .mk
  unfold P_lawD
  refine' fn_cases ?k6 ?_
  case k6 => k_is
  intro bb e v0 v1 C F N S hm hsd hv0 hv1 hbl hal fb fa hm1 hwl hww hm2 hcl hcc hd hu hE hK
  obtain ⟨L, hL⟩ : ∃ l : Nat, l = L := ⟨L, rfl⟩
  subst hL
  refine start3 e rfl (fun a11' a12' h11 h12 => ?_)
  have X' := C.X
  have T' := C.T
  have B' := C.B
  try k_fold
  obtain ⟨ob, z2, hob⟩ := S.c2
  try k_fold
  obtain ⟨om, zm, hom⟩ := S.dm
  have soff := S.off
  obtain ⟨sn, hsd⟩ := hsd
  try k_fold
  obtain ⟨la, ya, rfl, hla, hta⟩ := hv0
  try k_fold
  obtain ⟨lb, yb, rfl, hlb, htb⟩ := hv1
  have hal0 := hta.length
  have hbl0 := htb.length
  have hkl := S.kl
  refine execsC_any ?_
  k_steps
  refine Hold.go (itemAt (k := 0) (items := [Value.ref la, Value.ref lb]) (x := Value.ref la) ⟨_, (N _ (.tail _ hsd)).1, rfl, _, rfl⟩ (by decide) (by decide) rfl ?_)
  k_steps
  refine Hold.go (lenL ⟨_, (N _ (.tail _ hla)).1, rfl, _, rfl⟩ (by rw [List.size_toArray, hal0]) (by omega) ?_)
  k_steps
  refine Hold.go (itemAt (k := 1) (items := [Value.ref la, Value.ref lb]) (x := Value.ref lb) ⟨_, (N _ (.tail _ hsd)).1, rfl, _, rfl⟩ (by decide) (by decide) rfl ?_)
  k_steps
  refine Hold.go (lenL ⟨_, (N _ (.tail _ hlb)).1, rfl, _, rfl⟩ (by rw [List.size_toArray, hbl0]) (by omega) ?_)
  k_steps
  refine Hold.go (kda_len N (.tail _ zm) hom S.lom (by omega) ?_)
  k_steps
  subst h11
  refine Hold.go (execsC_any ?_)
  k_steps
  rename News _ _ _ _ => N₁
  rename Fr _ _ _ _ => F₁
  rename _ ∧ AllLt _ _ => l1
  rename_i ol hA hB
  have c1 : ∀ q ∈ R, q.1 ≠ ol := allLt_ne l1.2
  have c2 : lp ≠ ol := Nat.ne_of_lt l1.1
  subst h12
  have hfw : ∀ gs ∈ kvs.map (·.1) :: back ++ ahead, gs.length ≤ 5 ∧ ∀ g ∈ gs, 0 ≤ g ∧ g < 10000 := fun gs hg => by
    rcases List.mem_cons.mp hg with rfl | hg
    · exact ⟨by rw [List.length_map]; omega, fun g hg => by have := S.kk g hg; omega⟩
    · rcases List.mem_append.mp hg with hg | hg
      · exact fb gs hg
      · exact fa gs hg
  have hwl7 : (kvs.map (·.1) :: back ++ ahead).length ≤ 7 := by simp; omega
  generalize hge : kvs.map (·.1) :: back ++ ahead = wg at *
  refine Hold.go (execsC_any ?_)
  k_steps
  refine Hold.go (forA_list (h₀ := h₀) (L := L) C.hh ?_ hE)
  k_steps
  rename Fr _ _ _ _ => F₂
  generalize hbge : 10 + 2 * ((back.length : Int) + ahead.length + kvs.length) = bg at *
  refine Hold.go ⟨wl, ww.toArray, _, _, fun i m₁ nw => m₁ ("sides" : Str) = some (.ref sd) ∧ m₁ ("wanted" : Str) = some (.ref wl) ∧ m₁ ("covers" : Str) = some (.ref cl) ∧ m₁ ("offsets" : Str) = some (.ref ol) ∧ (∃ t, m₁ ("begin" : Str) = some (.int bg t)) ∧ ∃ (oo : List Value) (on : Nat), nw = (ol, W.listOf (List.toArray oo) on) :: (lp, W.listOf #[.int k t] n) :: R ∧ IntsAre oo ((wg.take i).map fun gs => offOf bg (firsts (wg.map coverBytes)) (coverBytes gs)), rfl, F₂, N₁, ⟨hm, hm1, hm2, rfl, ⟨_, rfl⟩, [], 0, rfl, .nil⟩, ?_, ?_⟩
  · intro i m₁ nw hp1
    try k_fold
    obtain ⟨_, _, _, _, _, oo, on, rfl, _⟩ := hp1
    exact ⟨_, _, .tail _ (.tail _ hwl), rfl, rfl⟩
  · rintro s₂ ⟨g₂, rfl⟩
    refine ⟨?_, ?_⟩
    · intro i v m₁ nw I oI h tk hv hp1 F₃ N₃ offI
      try k_fold
      obtain ⟨hn1, hn2, hn3, hn4, ⟨tbg, hn5⟩, oo, on, rfl, hoo⟩ := hp1
      try k_fold
      obtain ⟨gs, hgs, tg, og, vg', kg, rfl, hog, hoc, hod, hig⟩ := hww.at (i := i) (by simpa using hv)
      have hgm := List.mem_of_getElem? hgs
      have hfg := hfw gs hgm
      have hcm : coverBytes gs ∈ firsts (wg.map coverBytes) := firsts_mem.mp (List.mem_map_of_mem hgm)
      have hcsl := firsts_len (wg.map coverBytes)
      rw [List.length_map] at hcsl
      have hccl := hcc.length
      k_steps
      rename News _ _ _ _ => N₄
      rename Fr _ _ _ _ => F₄
      refine Hold.go (law_cover_ok C F₄ N₄ (.tail _ (.tail _ (.tail _ hog))) hoc hod hig (by omega) (fun g hg => by have := hfg.2 g hg; omega) (by omega) (by omega) fun tb h₅ tk₅ F₅ N₅ => ?_)
      k_steps
      refine Hold.go (index_bytes ⟨_, (N₅ _ (.tail _ (.tail _ (.tail _ hcl)))).1, rfl, _, rfl⟩ hcc (by omega) hcm ?_)
      k_steps
      rename News _ _ _ _ => N₆
      rename Fr _ _ _ _ => F₆
      refine Hold.go ?_
      refine comp_list F₆ C.hh (by with_unfolding_all rfl) (by decide) (by rfl) (by decide) (by rfl) ?_
      k_steps
      have hbl2 : ∀ c ∈ firsts (wg.map coverBytes), c.length ≤ 14 := fun c hc => by
        try k_fold
        obtain ⟨gs', hg', rfl⟩ := List.mem_map.mp (firsts_mem.mpr hc)
        have := cover_size gs'
        have := (hfw gs' hg').1
        omega
      generalize hcse : firsts (wg.map coverBytes) = cs at *
      have hspl : cs.idxOf (coverBytes gs) < cs.length := List.idxOf_lt_length_iff.mpr hcm
      have hoff : offOf bg cs (coverBytes gs) = bg + (((cs.take (cs.idxOf (coverBytes gs))).map fun x => (x.length : Int)).sum) := rfl
      generalize hspe : cs.idxOf (coverBytes gs) = sp at *
      refine Hold.go (kmk_slice_lit (vl := .none) (vu := .int _ _) F₆ N₆ ⟨_, (N₆ _ (.tail _ (.tail _ (.tail _ hcl)))).1, rfl, _, rfl⟩ .none (.int _ _) (pick_upto (by omega)) (fun Dc h₇ F₇ N₇ l7 => ?_) (by with_unfolding_all rfl) (by intro _; rfl) (by rw [sizeLine_eq, List.size_toArray]; omega))
      rw [Int.toNat_natCast] at N₇
      have hbt := hcc.take' sp
      have hbtl := hbt.length
      rw [List.length_take] at hbtl
      have o1 : ol ≠ I := offI _ (.head _)
      have o2 : lp ≠ Dc := Nat.ne_of_lt (l7 _ (.tail _ (.tail _ (.head _))))
      have o3 : ol ≠ Dc := Nat.ne_of_lt (l7 _ (.tail _ (.head _)))
      generalize hRe : (Dc, W.listOf (List.take sp cc).toArray 0) :: (I, oI) :: (ol, W.listOf (List.toArray oo) on) :: (lp, W.listOf #[.int k t] n) :: R = R₇ at N₇
      have hDc : (Dc, W.listOf (List.take sp cc).toArray 0) ∈ R₇ := hRe ▸ .head _
      refine Hold.go ⟨Dc, (cc.take sp).toArray, _, fun i ys nw => nw = R₇ ∧ IntsAre ys (((cs.take sp).take i).map fun x => (x.length : Int)), rfl, F₇, N₇, by rw [sizeLine_eq, List.size_toArray, List.length_take]; omega, ⟨rfl, by simpa using IntsAre.nil⟩, fun k ys nw z => by obtain ⟨rfl, _⟩ := z; exact .inr ⟨_, hDc, rfl, _, rfl⟩, fun s₂ hs₂ up₂ => ⟨?_, ?_⟩⟩
      · obtain ⟨g, rfl⟩ := hs₂
        intro i₂ v ys nw I₂ oI₂ C' oC D' m₂ h tk E' hi₂ hy hP hJ hoC hv F₈ N₈ off hIC hID hCD
        try k_fold
        obtain ⟨rfl, hys⟩ := hJ
        try k_fold
        obtain ⟨c, tc, hc, rfl⟩ := hbt.at' (i := i₂) (by simpa using hP)
        k_steps
        refine Hold.go (lenB (n := c.length) (by simp) (Nat.le_trans (hbl2 c (List.mem_of_mem_take (List.mem_of_getElem? hc))) (by decide)) ?_)
        refine ⟨h, _, _, rfl, F₈, N₈, off, rfl, ?_⟩
        rw [List.take_add_one, hc, Option.toList, List.map_append]
        exact hys.append (.cons _ _ .nil)
      · obtain ⟨g, rfl⟩ := hs₂
        intro DL h tk ys nw F₈ N₈ off hy hp1
        try k_fold
        obtain ⟨rfl, hys⟩ := hp1
        rw [List.size_toArray, List.take_of_length_le (by rw [List.length_take, List.length_take]; omega)] at hys
        subst hRe
        have o4 : ol ≠ DL := off (ol, W.listOf (List.toArray oo) on) (.tail _ (.tail _ (.head _)))
        dsimp only
        k_steps
        refine Hold.go (LSm.sum_ints F₈ N₈ C.hh ⟨_, (N₈ _ (.head _)).1, rfl, _, rfl⟩ hys fun h₉ tk₉ ts F₉ N₉ => ?_)
        k_steps
        have hool := hoo.length
        rw [List.length_map] at hool
        have hool2 : (wg.take i).length ≤ 7 := by rw [List.length_take]; omega
        have oU : ∀ q ∈ (lp, W.listOf #[.int k t] n) :: R, q.1 ≠ ol := off_cons c2 c1
        refine Hold.go (append_K F₉ N₉ (.tail o4.symm (.tail o3.symm (.tail o1.symm (.head oU)))) (fun h₁₀ F₁₀ N₁₀ => ?_) (by rw [List.size_toArray, sizeLine_eq]; omega))
        k_steps
        rename News _ _ _ _ => N₁₁
        rename Fr _ _ _ _ => F₁₁
        dsimp only
        rw [List.push_toArray, ← hoff] at N₁₁
        obtain ⟨tq, N₁₂⟩ : ∃ tq, News h₀ L _ ((DL, LCg.lst ys) :: (Dc, W.listOf (List.take sp cc).toArray 0) :: (I, oI) :: (ol, W.listOf (oo ++ [Value.int (offOf bg cs (coverBytes gs)) tq]).toArray (on + 1)) :: (lp, W.listOf #[.int k t] n) :: R) := ⟨_, N₁₁⟩
        clear N₁₁
        refine Hold.go ⟨_, _, _, (ol, W.listOf (oo ++ [Value.int (offOf bg cs (coverBytes gs)) tq]).toArray (on + 1)) :: (lp, W.listOf #[.int k t] n) :: R, rfl, F₁₁, fun q hq => N₁₂ q ?_, off_cons o1 fun q hq => offI q (.tail _ hq), hn1, hn2, hn3, hn4, ⟨tbg, hn5⟩, _, on + 1, rfl, ?_⟩
        · revert q; refine fa_cons ?_ fun q hq => ?_
          · exact .tail _ (.tail _ (.head _))
          · exact .tail _ (.tail _ (.tail _ hq))
        · rw [List.take_add_one, hgs, Option.toList, List.map_append]
          exact hoo.append (.cons _ _ .nil)
    · intro h tk m₁ nw F₃ N₃ hp1
      try k_fold
      obtain ⟨hn1, hn2, hn3, hn4, _, oo, on, rfl, hoo⟩ := hp1
      dsimp only
      have hwl2 := hww.length
      rw [List.size_toArray, List.take_of_length_le (by omega)] at hoo
      refine hold (hK n ((ol, W.listOf (List.toArray oo) on) :: R) m₁ h tk ol oo on (fun q hq => .tail _ hq) (off_cons c2.symm soff) F₃ (news_swap N₃) hn1 hn3 hn4 (.head _) hoo)
end K_lawD
theorem lawD {w : World} {p : Program} {loose : List Str} {mean : ExcName → Option Value} {mg : Str → Option Value} {mb : Str → Option Value} {A : Around} {A₀ : Around} {outer : List Env} {base : Heap} {h₀ : Heap} {L : Addr} {m : Str → Option Value} {s : Shared} {Q : Flow → Shared → Prop} {E : Value → Shared → Prop} {name qual : Str} {params : Arguments} {bb : List Stmt} {scope : Scope} {dV kV doc pm cdv ct oc : Value} {an od : Option Addr} {osl : Array (Option Value)} {f lp D : Addr} {k : Int} {n : Nat} {t : Tok} {T R : List (Addr × Obj)} {kvs : List (Int × Value)} {gss : List (List Int)} {sd : Addr} {v0 v1 : Value} {back ahead : List (List Int)} {wl cl : Addr} {ww cc : List Value} {wn cn : Nat} (hb : (hd0.heap_1 w.params).lookup 305 = some ⟨oc, od, .func (fnOf name qual params bb scope dV kV doc pm an cdv ct), osl⟩) (C : Cx w p loose mean mg mb A A₀ (envOfC qual scope L 305 cdv) outer base h₀ L) (F : Fr h₀ L s.heap m) (N : News h₀ L s.heap ((lp, W.listOf #[.int k t] n) :: R)) (S : LawSt w p loose mean mg mb L f lp D k T R kvs gss) (hm : m ("sides" : Str) = some (.ref sd)) (hsd : ∃ n, (sd, W.listOf #[v0, v1] n) ∈ R) (hv0 : SideIn R v0 back) (hv1 : SideIn R v1 ahead) (hbl : back.length ≤ 3) (hal : ahead.length ≤ 3) (fb : Fine back) (fa : Fine ahead) (hm1 : m ("wanted" : Str) = some (.ref wl)) (hwl : (wl, W.listOf (List.toArray ww) wn) ∈ R) (hww : TupsIn R ww (kvs.map (·.1) :: back ++ ahead)) (hm2 : m ("covers" : Str) = some (.ref cl)) (hcl : (cl, W.listOf (List.toArray cc) cn) ∈ R) (hcc : BytesAre cc (firsts ((kvs.map (·.1) :: back ++ ahead).map coverBytes))) (hd : A.depth ≤ 800) (hu : A.units ≤ 4000) (hE : PassesOwn (model PySem.Challenge.rw_pb0182_01.row.prog w) A (envOfC qual scope L 305 cdv) E) (hK : ∀ n R' m' h' tk' ol oo on, (∀ q ∈ R, q ∈ R') → (∀ q ∈ R', q.1 ≠ lp) → Fr h₀ L h' m' → News h₀ L h' ((lp, W.listOf #[.int k t] n) :: R') → m' ("sides" : Str) = some (.ref sd) →
      m' ("covers" : Str) = some (.ref cl) → m' ("offsets" : Str) = some (.ref ol) → (ol, W.listOf (List.toArray oo) on) ∈ R' →
      IntsAre oo ((kvs.map (·.1) :: back ++ ahead).map fun gs => offOf (10 + 2 * ((back.length : Int) + ahead.length + kvs.length)) (firsts ((kvs.map (·.1) :: back ++ ahead).map coverBytes)) (coverBytes gs)) →
      wpC (model PySem.Challenge.rw_pb0182_01.row.prog w) A (execs (bb.drop 13) (envOfC qual scope L 305 cdv)) Q E { s with heap := h', toks := tk' }) :
    wpC (model PySem.Challenge.rw_pb0182_01.row.prog w) A (execs (bb.drop 10) (envOfC qual scope L 305 cdv)) Q E s :=
  eps_all (P := fun v => P_lawD v.1 v.2.1 v.2.2.1 v.2.2.2.1 v.2.2.2.2.1 v.2.2.2.2.2.1 v.2.2.2.2.2.2.1 v.2.2.2.2.2.2.2.1 v.2.2.2.2.2.2.2.2.1 v.2.2.2.2.2.2.2.2.2.1 v.2.2.2.2.2.2.2.2.2.2.1 v.2.2.2.2.2.2.2.2.2.2.2.1 v.2.2.2.2.2.2.2.2.2.2.2.2.1 v.2.2.2.2.2.2.2.2.2.2.2.2.2.1 v.2.2.2.2.2.2.2.2.2.2.2.2.2.2.1 v.2.2.2.2.2.2.2.2.2.2.2.2.2.2.2.1 v.2.2.2.2.2.2.2.2.2.2.2.2.2.2.2.2.1 v.2.2.2.2.2.2.2.2.2.2.2.2.2.2.2.2.2.1 v.2.2.2.2.2.2.2.2.2.2.2.2.2.2.2.2.2.2.1 v.2.2.2.2.2.2.2.2.2.2.2.2.2.2.2.2.2.2.2.1 v.2.2.2.2.2.2.2.2.2.2.2.2.2.2.2.2.2.2.2.2.1 v.2.2.2.2.2.2.2.2.2.2.2.2.2.2.2.2.2.2.2.2.2.1 v.2.2.2.2.2.2.2.2.2.2.2.2.2.2.2.2.2.2.2.2.2.2.1 v.2.2.2.2.2.2.2.2.2.2.2.2.2.2.2.2.2.2.2.2.2.2.2.1 v.2.2.2.2.2.2.2.2.2.2.2.2.2.2.2.2.2.2.2.2.2.2.2.2.1 v.2.2.2.2.2.2.2.2.2.2.2.2.2.2.2.2.2.2.2.2.2.2.2.2.2.1 v.2.2.2.2.2.2.2.2.2.2.2.2.2.2.2.2.2.2.2.2.2.2.2.2.2.2.1 v.2.2.2.2.2.2.2.2.2.2.2.2.2.2.2.2.2.2.2.2.2.2.2.2.2.2.2.1 v.2.2.2.2.2.2.2.2.2.2.2.2.2.2.2.2.2.2.2.2.2.2.2.2.2.2.2.2.1 v.2.2.2.2.2.2.2.2.2.2.2.2.2.2.2.2.2.2.2.2.2.2.2.2.2.2.2.2.2.1 v.2.2.2.2.2.2.2.2.2.2.2.2.2.2.2.2.2.2.2.2.2.2.2.2.2.2.2.2.2.2.1 v.2.2.2.2.2.2.2.2.2.2.2.2.2.2.2.2.2.2.2.2.2.2.2.2.2.2.2.2.2.2.2.1 v.2.2.2.2.2.2.2.2.2.2.2.2.2.2.2.2.2.2.2.2.2.2.2.2.2.2.2.2.2.2.2.2.1 v.2.2.2.2.2.2.2.2.2.2.2.2.2.2.2.2.2.2.2.2.2.2.2.2.2.2.2.2.2.2.2.2.2.1 v.2.2.2.2.2.2.2.2.2.2.2.2.2.2.2.2.2.2.2.2.2.2.2.2.2.2.2.2.2.2.2.2.2.2) (by with_unfolding_all exact K_lawD.core) (w, p, loose, mean, mg, mb, A, A₀, outer, base, h₀, L, m, s, Q, E, f, lp, D, k, n, t, T, R, kvs, gss, sd, back, ahead, wl, cl, ww, cc, wn, cn) name qual params bb scope dV kV doc pm cdv ct oc an od osl hb v0 v1 C F N S hm hsd hv0 hv1 hbl hal fb fa hm1 hwl hww hm2 hcl hcc hd hu hE hK
end
end Mine
end TextW5
section TextW6
open PySem PySem.W PyProof.Rows PySem.Calls PySem.Spec
set_option Elab.async false
set_option maxRecDepth 100000
set_option maxHeartbeats 1000000
namespace Mine
theorem fillW6 {w : World} {A : Around} {Q : Value → Shared → Prop} {E : Value → Shared → Prop} {s : Shared} (h : (hd0.heap_1 w.params).In s.heap → wpAny (model PySem.Challenge.rw_pb0182_01.row.prog w) A (call .none []) Q E s) :
    (hd0.heap_1 w.params).In s.heap → wpAny (model PySem.Challenge.rw_pb0182_01.row.prog w) A (call .none []) Q E s := by
  k_fill
  w_top off
  intro hX
  try walk1
  exact h hX
section
variable {w : World} {p : Program} {loose : List Str} {mean : ExcName → Option Value} {mg mb : Str → Option Value} {A A₀ : Around} {env : Env} {outer : List Env} {base h₀ : Heap} {L : Addr} {m : Str → Option Value} {news rest : List (Addr × Obj)} {s : Shared}
  {Q : Flow → Shared → Prop} {E : Value → Shared → Prop}
noncomputable def rowOf (kvs : List (Int × Value)) (nb na : Nat) (offs : List Int) : List Int :=
  ([1, offs.headD 0, (nb : Int)] ++ (offs.drop 1).take nb ++ [(na : Int)] ++ offs.drop (1 + nb)) ++ [(kvs.length : Int)] ++ (kvs.map (·.1)).map (valI kvs)
theorem valueAt_int {kvs : List (Int × Value)} (hv : ∀ q ∈ kvs, ∃ n t, q.2 = .int n t ∧ 0 ≤ n ∧ n < 65536) {k : Int} (hk : k ∈ kvs.map (·.1)) : ∃ n t, valueAt kvs k = some (.int n t) ∧ 0 ≤ n ∧ n < 65536 := by
  try k_fold
  obtain ⟨q, hq, hqk⟩ := List.mem_map.mp hk
  unfold valueAt
  cases hf : kvs.find? (fun p => p.1 = k) with
  | none => exact absurd (List.find?_eq_none.mp hf q hq) (by simp [hqk])
  | some r =>
    try k_fold
    obtain ⟨n, t, e, h1, h2⟩ := hv r (List.mem_of_find?_eq_some hf)
    exact ⟨n, t, by simp [e], h1, h2⟩
end
section
noncomputable def Mark3 : Prop := True
local macro_rules | `(tactic| walk_at "subscriptTail Name Slice ref ref") => `(tactic| (rename Mark3 => hmark3; refine hold ?_))
noncomputable def P_lawE (w : World) (p : Program) (loose : List Str) (mean : ExcName → Option Value) (mg : Str → Option Value) (mb : Str → Option Value) (A : Around) (A₀ : Around) (outer : List Env) (base : Heap) (h₀ : Heap) (L : Addr) (m : Str → Option Value) (s : Shared) (Q : Flow → Shared → Prop) (E : Value → Shared → Prop) (f : Addr) (lp : Addr) (D : Addr) (k : Int) (n : Nat) (t : Tok) (T : List (Addr × Obj)) (R : List (Addr × Obj)) (kvs : List (Int × Value)) (gss : List (List Int)) (sd : Addr) (back : List (List Int)) (ahead : List (List Int)) (ol : Addr) (on : Nat) : Prop := ∀ (name : Str) (qual : Str) (params : Arguments) (bb : List Stmt) (scope : Scope) (dV : Value) (kV : Value) (doc : Value) (pm : Value) (cdv : Value) (ct : Value) (oc : Value) (an : Option Addr) (od : Option Addr) (osl : Array (Option Value)) (hb : (hd0.heap_1 w.params).lookup 305 = some ⟨oc, od, .func (fnOf name qual params bb scope dV kV doc pm an cdv ct), osl⟩) (v0 : Value) (v1 : Value) (oo : List Value) (offs : List Int) (C : Cx w p loose mean mg mb A A₀ (envOfC qual scope L 305 cdv) outer base h₀ L) (F : Fr h₀ L s.heap m) (N : News h₀ L s.heap ((lp, W.listOf #[.int k t] n) :: R)) (S : LawSt w p loose mean mg mb L f lp D k T R kvs gss) (hm : m ("sides" : Str) = some (.ref sd)) (hsd : ∃ n, (sd, W.listOf #[v0, v1] n) ∈ R) (hv0 : SideIn R v0 back) (hv1 : SideIn R v1 ahead) (hbl : back.length ≤ 3) (hal : ahead.length ≤ 3) (hm1 : m ("offsets" : Str) = some (.ref ol)) (hol : (ol, W.listOf (List.toArray oo) on) ∈ R) (hoo : IntsAre oo offs) (hofl : offs.length = 1 + back.length + ahead.length) (hm2 : ∃ cl, m ("covers" : Str) = some (.ref cl)) (hd : A.depth ≤ 800) (hu : A.units ≤ 4000) (hK : ∀ n R' m' h' tk' rl rr rn, (∀ q ∈ R, q ∈ R') → (∀ q ∈ R', q.1 ≠ lp) → Fr h₀ L h' m' → News h₀ L h' ((lp, W.listOf #[.int k t] n) :: R') → m' ("sides" : Str) = some (.ref sd) → m' ("covers" : Str) = m ("covers" : Str) →
      m' ("row" : Str) = some (.ref rl) → (rl, W.listOf (List.toArray rr) rn) ∈ R' → IntsAre rr (rowOf kvs back.length ahead.length offs) →
      wpC (model PySem.Challenge.rw_pb0182_01.row.prog w) A (execs (bb.drop 16) (envOfC qual scope L 305 cdv)) Q E { s with heap := h', toks := tk' }),
    wpC (model PySem.Challenge.rw_pb0182_01.row.prog w) A (execs (bb.drop 13) (envOfC qual scope L 305 cdv)) Q E s
noncomputable def c_lawE := @Classical.epsilon ((World) × (Program) × (List Str) × (ExcName → Option Value) × (Str → Option Value) × (Str → Option Value) × (Around) × (Around) × (List Env) × (Heap) × (Heap) × (Addr) × (Str → Option Value) × (Shared) × (Flow → Shared → Prop) × (Value → Shared → Prop) × (Addr) × (Addr) × (Addr) × (Int) × (Nat) × (Tok) × (List (Addr × Obj)) × (List (Addr × Obj)) × (List (Int × Value)) × (List (List Int)) × (Addr) × (List (List Int)) × (List (List Int)) × (Addr) × (Nat)) ⟨(wDef, default, [], fun _ => none, fun _ => none, fun _ => none, callerA, callerA, [], default, default, 0, fun _ => none, (PySem.start default).1, fun _ _ => True, fun _ _ => True, 0, 0, 0, 0, 0, 0, [], [], [], [], 0, [], [], 0, 0)⟩ fun v => ¬ P_lawE v.1 v.2.1 v.2.2.1 v.2.2.2.1 v.2.2.2.2.1 v.2.2.2.2.2.1 v.2.2.2.2.2.2.1 v.2.2.2.2.2.2.2.1 v.2.2.2.2.2.2.2.2.1 v.2.2.2.2.2.2.2.2.2.1 v.2.2.2.2.2.2.2.2.2.2.1 v.2.2.2.2.2.2.2.2.2.2.2.1 v.2.2.2.2.2.2.2.2.2.2.2.2.1 v.2.2.2.2.2.2.2.2.2.2.2.2.2.1 v.2.2.2.2.2.2.2.2.2.2.2.2.2.2.1 v.2.2.2.2.2.2.2.2.2.2.2.2.2.2.2.1 v.2.2.2.2.2.2.2.2.2.2.2.2.2.2.2.2.1 v.2.2.2.2.2.2.2.2.2.2.2.2.2.2.2.2.2.1 v.2.2.2.2.2.2.2.2.2.2.2.2.2.2.2.2.2.2.1 v.2.2.2.2.2.2.2.2.2.2.2.2.2.2.2.2.2.2.2.1 v.2.2.2.2.2.2.2.2.2.2.2.2.2.2.2.2.2.2.2.2.1 v.2.2.2.2.2.2.2.2.2.2.2.2.2.2.2.2.2.2.2.2.2.1 v.2.2.2.2.2.2.2.2.2.2.2.2.2.2.2.2.2.2.2.2.2.2.1 v.2.2.2.2.2.2.2.2.2.2.2.2.2.2.2.2.2.2.2.2.2.2.2.1 v.2.2.2.2.2.2.2.2.2.2.2.2.2.2.2.2.2.2.2.2.2.2.2.2.1 v.2.2.2.2.2.2.2.2.2.2.2.2.2.2.2.2.2.2.2.2.2.2.2.2.2.1 v.2.2.2.2.2.2.2.2.2.2.2.2.2.2.2.2.2.2.2.2.2.2.2.2.2.2.1 v.2.2.2.2.2.2.2.2.2.2.2.2.2.2.2.2.2.2.2.2.2.2.2.2.2.2.2.1 v.2.2.2.2.2.2.2.2.2.2.2.2.2.2.2.2.2.2.2.2.2.2.2.2.2.2.2.2.1 v.2.2.2.2.2.2.2.2.2.2.2.2.2.2.2.2.2.2.2.2.2.2.2.2.2.2.2.2.2.1 v.2.2.2.2.2.2.2.2.2.2.2.2.2.2.2.2.2.2.2.2.2.2.2.2.2.2.2.2.2.2
namespace K_lawE
@[irreducible] noncomputable def w : World := c_lawE.1
@[irreducible] noncomputable def p : Program := c_lawE.2.1
@[irreducible] noncomputable def loose : List Str := c_lawE.2.2.1
@[irreducible] noncomputable def mean : ExcName → Option Value := c_lawE.2.2.2.1
@[irreducible] noncomputable def mg : Str → Option Value := c_lawE.2.2.2.2.1
@[irreducible] noncomputable def mb : Str → Option Value := c_lawE.2.2.2.2.2.1
@[irreducible] noncomputable def A : Around := c_lawE.2.2.2.2.2.2.1
@[irreducible] noncomputable def A₀ : Around := c_lawE.2.2.2.2.2.2.2.1
@[irreducible] noncomputable def outer : List Env := c_lawE.2.2.2.2.2.2.2.2.1
@[irreducible] noncomputable def base : Heap := c_lawE.2.2.2.2.2.2.2.2.2.1
@[irreducible] noncomputable def h₀ : Heap := c_lawE.2.2.2.2.2.2.2.2.2.2.1
@[irreducible] noncomputable def L : Nat := c_lawE.2.2.2.2.2.2.2.2.2.2.2.1
@[irreducible] noncomputable def m : Str → Option Value := c_lawE.2.2.2.2.2.2.2.2.2.2.2.2.1
@[irreducible] noncomputable def s : Shared := c_lawE.2.2.2.2.2.2.2.2.2.2.2.2.2.1
@[irreducible] noncomputable def Q : Flow → Shared → Prop := c_lawE.2.2.2.2.2.2.2.2.2.2.2.2.2.2.1
@[irreducible] noncomputable def E : Value → Shared → Prop := c_lawE.2.2.2.2.2.2.2.2.2.2.2.2.2.2.2.1
@[irreducible] noncomputable def f : Nat := c_lawE.2.2.2.2.2.2.2.2.2.2.2.2.2.2.2.2.1
@[irreducible] noncomputable def lp : Nat := c_lawE.2.2.2.2.2.2.2.2.2.2.2.2.2.2.2.2.2.1
@[irreducible] noncomputable def D : Nat := c_lawE.2.2.2.2.2.2.2.2.2.2.2.2.2.2.2.2.2.2.1
@[irreducible] noncomputable def k : Int := c_lawE.2.2.2.2.2.2.2.2.2.2.2.2.2.2.2.2.2.2.2.1
@[irreducible] noncomputable def n : Nat := c_lawE.2.2.2.2.2.2.2.2.2.2.2.2.2.2.2.2.2.2.2.2.1
@[irreducible] noncomputable def t : Tok := c_lawE.2.2.2.2.2.2.2.2.2.2.2.2.2.2.2.2.2.2.2.2.2.1
@[irreducible] noncomputable def T : List (Addr × Obj) := c_lawE.2.2.2.2.2.2.2.2.2.2.2.2.2.2.2.2.2.2.2.2.2.2.1
@[irreducible] noncomputable def R : List (Addr × Obj) := c_lawE.2.2.2.2.2.2.2.2.2.2.2.2.2.2.2.2.2.2.2.2.2.2.2.1
@[irreducible] noncomputable def kvs : List (Int × Value) := c_lawE.2.2.2.2.2.2.2.2.2.2.2.2.2.2.2.2.2.2.2.2.2.2.2.2.1
@[irreducible] noncomputable def gss : List (List Int) := c_lawE.2.2.2.2.2.2.2.2.2.2.2.2.2.2.2.2.2.2.2.2.2.2.2.2.2.1
@[irreducible] noncomputable def sd : Nat := c_lawE.2.2.2.2.2.2.2.2.2.2.2.2.2.2.2.2.2.2.2.2.2.2.2.2.2.2.1
@[irreducible] noncomputable def back : List (List Int) := c_lawE.2.2.2.2.2.2.2.2.2.2.2.2.2.2.2.2.2.2.2.2.2.2.2.2.2.2.2.1
@[irreducible] noncomputable def ahead : List (List Int) := c_lawE.2.2.2.2.2.2.2.2.2.2.2.2.2.2.2.2.2.2.2.2.2.2.2.2.2.2.2.2.1
@[irreducible] noncomputable def ol : Nat := c_lawE.2.2.2.2.2.2.2.2.2.2.2.2.2.2.2.2.2.2.2.2.2.2.2.2.2.2.2.2.2.1
@[irreducible] noncomputable def on : Nat := c_lawE.2.2.2.2.2.2.2.2.2.2.2.2.2.2.2.2.2.2.2.2.2.2.2.2.2.2.2.2.2.2
theorem core : P_lawE w p loose mean mg mb A A₀ outer base h₀ L m s Q E f lp D k n t T R kvs gss sd back ahead ol on := by
  have st0 : Stop "all 2" := .mk
  have st1 : Stop "mem 2" := .mk
  have st2 : Stop "name local" := .mk
  have st3 : Stop "call ref" := .mk
  have st4 : Stop "call builtin:len" := .mk
  have st5 : Stop "call builtin:sorted" := .mk
  have st6 : Stop "subscriptTail" := .mk
  have st7 : Stop "binaryOp Add ref ref" := .mk
  have st8 : Stop "eval ListComp" := .mk
  unfold P_lawE
  refine' fn_cases ?k6 ?_
  case k6 => k_is
  intro bb e v0 v1 oo offs C F N S hm hsd hv0 hv1 hbl hal hm1 hol hoo hofl hm2 hd hu hK
  obtain ⟨L, hL⟩ : ∃ l : Nat, l = L := ⟨L, rfl⟩
  subst hL
  refine start3 e rfl (fun a14' a15' h14 h15 => ?_)
  have X' := C.X
  have T' := C.T
  have B' := C.B
  try k_fold
  obtain ⟨ob, z2, hob⟩ := S.c2
  try k_fold
  obtain ⟨om, zm, hom⟩ := S.dm
  have soff := S.off
  obtain ⟨sn, hsd⟩ := hsd
  try k_fold
  obtain ⟨la, ya, rfl, hla, hta⟩ := hv0
  try k_fold
  obtain ⟨lb, yb, rfl, hlb, htb⟩ := hv1
  have hal0 := hta.length
  have hbl0 := htb.length
  have hkl := S.kl
  try k_fold
  obtain ⟨o0, offr, to, oor, rfl, rfl⟩ := ints_uncons hoo (by intro z; rw [z] at hofl; simp at hofl; omega)
  have hool := hoo.length
  refine execsC_any ?_
  k_steps
  refine Hold.go (itemAt (k := 0) (items := [Value.ref la, Value.ref lb]) (x := Value.ref la) ⟨_, (N _ (.tail _ hsd)).1, rfl, _, rfl⟩ (by decide) (by decide) rfl ?_)
  k_steps
  refine Hold.go (lenL ⟨_, (N _ (.tail _ hla)).1, rfl, _, rfl⟩ (by rw [List.size_toArray, hal0]) (by omega) ?_)
  k_steps
  subst h14
  rename News _ _ _ _ => N₁
  rename Fr _ _ _ _ => F₁
  refine Hold.go (execsC_any ?_)
  k_steps
  refine Hold.go (item0 ⟨_, (N₁ _ (.tail _ hol)).1, rfl, _, rfl⟩ ?_)
  k_steps
  refine Hold.go (itemAt (k := 0) (items := [Value.ref la, Value.ref lb]) (x := Value.ref la) ⟨_, (N₁ _ (.tail _ hsd)).1, rfl, _, rfl⟩ (by decide) (by decide) rfl ?_)
  k_steps
  refine Hold.go (lenL ⟨_, (N₁ _ (.tail _ hla)).1, rfl, _, rfl⟩ (by rw [List.size_toArray, hal0]) (by omega) ?_)
  k_steps
  rename News _ _ _ _ => N₂
  rename Fr _ _ _ _ => F₂
  rename IntsAre _ (List.take _ _) => hI1
  rename _ ∧ _ ∧ AllLt _ R => lD
  have e4 : List.take (min (1 + (back.length : Int)).toNat (o0 :: offr).length - 1) (List.drop 1 (o0 :: offr)) = List.take back.length (List.drop 1 (o0 :: offr)) := by
    congr 1; exact ar_min (by assumption)
  rw [e4] at hI1
  rename_i hz0 l0 hz1 l0lt D1 w1 hz2 hC1 hL1
  obtain ⟨ta, tb, N₃⟩ : ∃ ta tb, News h₀ L hz2 ((D1, W.listOf (List.toArray w1) 0) :: (l0, W.listOf [Value.int 1 ta, .int o0 to, .int back.length tb].toArray 0) :: (lp, W.listOf #[.int k t] n) :: R) := ⟨_, _, N₂⟩
  clear N₂ hC1 hL1
  have hw1 : w1.length ≤ 3 := by rw [hI1.length, List.length_take]; omega
  have hs3 := fun q hq => Heap.lt_size (N₃ q hq).1
  refine Hold.go (add_lists (vs := [Value.int 1 ta, .int o0 to, .int back.length tb]) (ws := w1) F₂ N₃ ⟨_, (N₃ _ (.tail _ (.head _))).1, rfl, _, rfl⟩ ⟨_, (N₃ _ (.head _)).1, rfl, _, rfl⟩ (fun h₄ F₄ N₄ => ?_) (by rw [sizeLine_eq]; simp; omega))
  generalize hz2.objs.size = X1 at N₄ hs3 ⊢
  have hI3 : IntsAre ([Value.int 1 ta, .int o0 to, .int back.length tb] ++ w1) ([1, o0, (back.length : Int)] ++ List.take back.length (List.drop 1 (o0 :: offr))) := IntsAre.append (.cons _ _ (.cons _ _ (.cons _ _ .nil))) hI1
  have hw3 : ([Value.int 1 ta, .int o0 to, .int back.length tb] ++ w1).length ≤ 6 := by simp; omega
  have hX1 : lp < X1 := hs3 _ (.tail _ (.tail _ (.head _)))
  generalize hu3 : [Value.int 1 ta, .int o0 to, .int back.length tb] ++ w1 = u3 at *
  have N₅ : News h₀ L h₄ ((X1, W.listOf u3.toArray 0) :: (lp, W.listOf #[.int k t] n) :: R) := fun q hq => N₄ q (by
    revert q; refine fa_cons ?_ fun q hq => ?_
    · exact .head _
    · exact .tail _ (.tail _ (.tail _ hq)))
  clear N₄ N₃ hs3
  k_steps
  refine Hold.go (itemAt (k := 1) (items := [Value.ref la, Value.ref lb]) (x := Value.ref lb) ⟨_, (N₅ _ (.tail _ (.tail _ hsd))).1, rfl, _, rfl⟩ (by decide) (by decide) rfl ?_)
  k_steps
  refine Hold.go (lenL ⟨_, (N₅ _ (.tail _ (.tail _ hlb))).1, rfl, _, rfl⟩ (by rw [List.size_toArray, hbl0]) (by omega) ?_)
  k_steps
  rename News _ _ _ _ => N₆
  rename Fr _ _ _ _ => F₆
  rename _ ∧ _ ∧ AllLt _ R => lE
  rename_i l1 hz3
  obtain ⟨tc, N₇⟩ : ∃ tc, News h₀ L hz3 ((l1, W.listOf [Value.int ahead.length tc].toArray 0) :: (X1, W.listOf u3.toArray 0) :: (lp, W.listOf #[.int k t] n) :: R) := ⟨_, N₆⟩
  clear N₆
  have hs7 := fun q hq => Heap.lt_size (N₇ q hq).1
  refine Hold.go (add_lists (vs := u3) (ws := [Value.int ahead.length tc]) F₆ N₇ ⟨_, (N₇ _ (.tail _ (.head _))).1, rfl, _, rfl⟩ ⟨_, (N₇ _ (.head _)).1, rfl, _, rfl⟩ (fun h₈ F₈ N₈ => ?_) (by rw [sizeLine_eq]; simp; omega))
  generalize hz3.objs.size = X2 at N₈ hs7 ⊢
  have hI4 := hI3.append (IntsAre.cons (ahead.length : Int) tc .nil)
  have hw4 : (u3 ++ [Value.int ahead.length tc]).length ≤ 7 := by simp; omega
  have hX2 : lp < X2 := hs7 _ (.tail _ (.tail _ (.head _)))
  generalize hu4 : u3 ++ [Value.int ahead.length tc] = u4 at *
  have N₉ : News h₀ L h₈ ((X2, W.listOf u4.toArray 0) :: (lp, W.listOf #[.int k t] n) :: R) := fun q hq => N₈ q (by
    revert q; refine fa_cons ?_ fun q hq => ?_
    · exact .head _
    · exact .tail _ (.tail _ (.tail _ hq)))
  clear N₈ N₇ hs7
  have hmark3 : Mark3 := trivial
  k_steps
  rename Mark3 => hmark3
  clear hmark3
  rename News _ _ _ _ => N₁₀
  rename Fr _ _ _ _ => F₁₀
  refine Hold.go (kmk_slice_ints (vl := .int _ _) (vu := .none) F₁₀ N₁₀ ⟨_, (N₁₀ _ (.tail _ (.tail _ hol))).1, rfl, _, rfl⟩ (.int _ _) .none hoo (kmk_from hoo (by omega)) rfl (fun D2 w2 h₁₁ F₁₁ N₁₁ l11 hI2 _ _ => ?_) (by with_unfolding_all rfl) (by intro _; rfl) (by rw [sizeLine_eq, List.size_toArray, hool]; omega))
  rw [ar_nat] at hI2
  have hw2 : w2.length ≤ 7 := by rw [hI2.length, List.length_drop, ar_drop (by assumption)]; omega
  have hs11 := fun q hq => Heap.lt_size (N₁₁ q hq).1
  k_steps
  refine Hold.go (add_lists (vs := u4) (ws := w2) F₁₁ N₁₁ ⟨_, (N₁₁ _ (.tail _ (.head _))).1, rfl, _, rfl⟩ ⟨_, (N₁₁ _ (.head _)).1, rfl, _, rfl⟩ (fun h₁₂ F₁₂ N₁₂ => ?_) (by rw [sizeLine_eq]; omega))
  generalize h₁₁.objs.size = X3 at N₁₂ hs11 ⊢
  have hI5 := hI4.append hI2
  have hw5 : (u4 ++ w2).length ≤ 14 := by simp; omega
  have hX3 : lp < X3 := hs11 _ (.tail _ (.tail _ (.head _)))
  generalize hu5 : u4 ++ w2 = u5 at *
  have N₁₃ : News h₀ L h₁₂ ((X3, W.listOf u5.toArray 0) :: (lp, W.listOf #[.int k t] n) :: R) := fun q hq => N₁₂ q (by
    revert q; refine fa_cons ?_ fun q hq => ?_
    · exact .head _
    · exact .tail _ (.tail _ (.tail _ hq)))
  clear N₁₂ N₁₁ hs11 N₁₀
  k_steps
  rename News _ _ _ _ => N₁₄
  rename Fr _ _ _ _ => F₁₄
  subst h15
  refine Hold.go (execsC_any ?_)
  k_steps
  refine Hold.go (kda_len N₁₄ (.tail _ (.tail _ zm)) hom S.lom (by omega) ?_)
  k_steps
  rename News _ _ _ _ => N₁₅
  rename Fr _ _ _ _ => F₁₅
  rename _ ∧ _ ∧ AllLt _ R => lG
  rename_i l2 hz4
  obtain ⟨td, N₁₆⟩ : ∃ td, News h₀ L hz4 ((l2, W.listOf [Value.int kvs.length td].toArray 0) :: (X3, W.listOf u5.toArray 0) :: (lp, W.listOf #[.int k t] n) :: R) := ⟨_, N₁₅⟩
  clear N₁₅
  have hs16 := fun q hq => Heap.lt_size (N₁₆ q hq).1
  refine Hold.go (add_lists (vs := u5) (ws := [Value.int kvs.length td]) F₁₅ N₁₆ ⟨_, (N₁₆ _ (.tail _ (.head _))).1, rfl, _, rfl⟩ ⟨_, (N₁₆ _ (.head _)).1, rfl, _, rfl⟩ (fun h₁₇ F₁₇ N₁₇ => ?_) (by rw [sizeLine_eq]; simp; omega))
  generalize hz4.objs.size = X4 at N₁₇ hs16 ⊢
  have hI6 := hI5.append (IntsAre.cons (kvs.length : Int) td .nil)
  have hw6 : (u5 ++ [Value.int kvs.length td]).length ≤ 15 := by simp; omega
  have hX4 : lp < X4 := hs16 _ (.tail _ (.tail _ (.head _)))
  generalize hu6 : u5 ++ [Value.int kvs.length td] = u6 at *
  have N₁₈ : News h₀ L h₁₇ ((X4, W.listOf u6.toArray 0) :: (lp, W.listOf #[.int k t] n) :: R) := fun q hq => N₁₇ q (by
    revert q; refine fa_cons ?_ fun q hq => ?_
    · exact .head _
    · exact .tail _ (.tail _ (.tail _ hq)))
  clear N₁₇ N₁₆ hs16
  k_steps
  rename Fr _ _ _ _ => F₁₈
  refine Hold.go ?_
  refine comp_list F₁₈ C.hh (by with_unfolding_all rfl) (by decide) (by rfl) (by decide) (by rfl) ?_
  k_steps
  rename Fr _ _ _ _ => F₁₉
  refine Hold.go (sorted_dict C.hh F₁₉ N₁₈ (.tail _ (.tail _ zm)) hom S.lom (Nat.lt_of_le_of_lt S.kl (by decide)) fun lg vg gs cg h₂₀ tk₂₀ F₂₀ N₂₀ l20 hI hperm hsort => ?_)
  have hgs : gs = kvs.map (·.1) := sorted_unique hperm hsort S.kp
  subst hgs
  k_steps
  have hR20 : ∀ q ∈ R, q ∈ (lg, W.listOf (List.toArray vg) cg) :: (X4, W.listOf u6.toArray 0) :: (lp, W.listOf #[.int k t] n) :: R := fun q hq => .tail _ (.tail _ (.tail _ hq))
  have m20 : (lg, W.listOf (List.toArray vg) cg) ∈ (lg, W.listOf (List.toArray vg) cg) :: (X4, W.listOf u6.toArray 0) :: (lp, W.listOf #[.int k t] n) :: R := .head _
  have n20 : (X4, W.listOf u6.toArray 0) ∈ (lg, W.listOf (List.toArray vg) cg) :: (X4, W.listOf u6.toArray 0) :: (lp, W.listOf #[.int k t] n) :: R := .tail _ (.head _)
  have p20 : (lp, W.listOf #[.int k t] n) ∈ (lg, W.listOf (List.toArray vg) cg) :: (X4, W.listOf u6.toArray 0) :: (lp, W.listOf #[.int k t] n) :: R := .tail _ (.tail _ (.head _))
  generalize hRe : (lg, W.listOf (List.toArray vg) cg) :: (X4, W.listOf u6.toArray 0) :: (lp, W.listOf #[.int k t] n) :: R = R₂₀ at N₂₀ hR20 m20 n20 p20
  have z2' := hR20 _ z2
  have hil := hI.length
  rw [List.length_map] at hil
  refine Hold.go ⟨lg, vg.toArray, _, fun i ys nw => nw = R₂₀ ∧ IntsAre ys (((kvs.map (·.1)).take i).map (valI kvs)), rfl, F₂₀, N₂₀, by rw [sizeLine_eq, List.size_toArray]; omega, ⟨rfl, .nil⟩,
    (fun k ys nw z => by obtain ⟨rfl, _⟩ := z; exact .inr ⟨_, m20, rfl, _, rfl⟩), fun s₂ hs₂ up₂ => ⟨?_, ?_⟩⟩
  · obtain ⟨g₂, rfl⟩ := hs₂
    intro i v ys nw I oI CC oC D' m₂ h tk E' hi' hy hP hJ hoC₂ hv F₂₁ N₂₁ off hIC hID hCD
    try k_fold
    obtain ⟨rfl, hys⟩ := hJ
    try k_fold
    obtain ⟨gl, tg, rfl, hg⟩ := IntsAre.at hI i v (by simpa using hP)
    k_steps
    try k_fold
    obtain ⟨ng, ug, hvg, _⟩ := valueAt_int S.kv (List.mem_of_getElem? hg)
    have hvi : valI kvs gl = ng := by unfold valI; rw [hvg]
    refine Hold.go (dict_itemR (knd := PySem.intKind PySem.Challenge.rw_pb0182_01.row.prog w) (k := gl) N₂₁ (.tail _ (.tail _ (.tail _ (hR20 _ zm)))) hom (by show Value.isInt gl (Value.int gl tg) = true; simp [Value.isInt]) hvg ?_)
    refine ⟨h, _, _, rfl, F₂₁, N₂₁, off, rfl, ?_⟩
    rw [List.take_add_one, hg]
    simp only [Option.toList, List.map_append, List.map_cons, List.map_nil, hvi]
    exact hys.append (.cons _ _ .nil)
  · obtain ⟨g₂, rfl⟩ := hs₂
    intro DL h tk ys nw F₂₁ N₂₁ off hy hJ
    try k_fold
    obtain ⟨rfl, hys⟩ := hJ
    rw [List.size_toArray, List.take_of_length_le (by rw [List.length_map]; omega)] at hys
    have hysl := hys.length
    rw [List.length_map, List.length_map] at hysl
    have hs21 := fun q hq => Heap.lt_size (N₂₁ q hq).1
    dsimp only
    k_steps
    refine Hold.go (add_lists (vs := u6) (ws := ys) F₂₁ N₂₁ ⟨_, (N₂₁ _ (.tail _ n20)).1, rfl, _, rfl⟩ ⟨_, (N₂₁ _ (.head _)).1, rfl, _, rfl⟩ (fun h₂₂ F₂₂ N₂₂ => ?_) (by rw [sizeLine_eq]; omega))
    generalize h.objs.size = X5 at N₂₂ hs21 ⊢
    have hX5 : lp < X5 := hs21 _ (.tail _ p20)
    have hI7 := hI6.append hys
    have N₂₃ : News h₀ L h₂₂ ((X5, W.listOf (u6 ++ ys).toArray 0) :: (lp, W.listOf #[.int k t] n) :: R) := fun q hq => N₂₂ q (by
      revert q; refine fa_cons ?_ fun q hq => ?_
      · exact .head _
      revert q; refine fa_cons ?_ fun q hq => ?_
      · exact .tail _ (.tail _ p20)
      · exact .tail _ (.tail _ (hR20 _ hq)))
    clear N₂₂ hs21 N₂₁
    k_steps
    rename News _ _ _ _ => N₂₄
    rename Fr _ _ _ _ => F₂₄
    obtain ⟨cl, hcl⟩ := hm2
    refine Hold.go (hK n ((X5, W.listOf (u6 ++ ys).toArray 0) :: R) _ _ _ X5 (u6 ++ ys) 0 (fun q hq => .tail _ hq) (off_cons (Nat.ne_of_gt hX5) soff) F₂₄ (news_swap N₂₄) hm rfl rfl (.head _) ?_)
    unfold rowOf
    simpa using hI7
end K_lawE
theorem lawE {w : World} {p : Program} {loose : List Str} {mean : ExcName → Option Value} {mg : Str → Option Value} {mb : Str → Option Value} {A : Around} {A₀ : Around} {outer : List Env} {base : Heap} {h₀ : Heap} {L : Addr} {m : Str → Option Value} {s : Shared} {Q : Flow → Shared → Prop} {E : Value → Shared → Prop} {name qual : Str} {params : Arguments} {bb : List Stmt} {scope : Scope} {dV kV doc pm cdv ct oc : Value} {an od : Option Addr} {osl : Array (Option Value)} {f lp D : Addr} {k : Int} {n : Nat} {t : Tok} {T R : List (Addr × Obj)} {kvs : List (Int × Value)} {gss : List (List Int)} {sd : Addr} {v0 v1 : Value} {back ahead : List (List Int)} {ol : Addr} {oo : List Value} {on : Nat} {offs : List Int} (hb : (hd0.heap_1 w.params).lookup 305 = some ⟨oc, od, .func (fnOf name qual params bb scope dV kV doc pm an cdv ct), osl⟩) (C : Cx w p loose mean mg mb A A₀ (envOfC qual scope L 305 cdv) outer base h₀ L) (F : Fr h₀ L s.heap m) (N : News h₀ L s.heap ((lp, W.listOf #[.int k t] n) :: R)) (S : LawSt w p loose mean mg mb L f lp D k T R kvs gss) (hm : m ("sides" : Str) = some (.ref sd)) (hsd : ∃ n, (sd, W.listOf #[v0, v1] n) ∈ R) (hv0 : SideIn R v0 back) (hv1 : SideIn R v1 ahead) (hbl : back.length ≤ 3) (hal : ahead.length ≤ 3) (hm1 : m ("offsets" : Str) = some (.ref ol)) (hol : (ol, W.listOf (List.toArray oo) on) ∈ R) (hoo : IntsAre oo offs) (hofl : offs.length = 1 + back.length + ahead.length) (hm2 : ∃ cl, m ("covers" : Str) = some (.ref cl)) (hd : A.depth ≤ 800) (hu : A.units ≤ 4000) (hK : ∀ n R' m' h' tk' rl rr rn, (∀ q ∈ R, q ∈ R') → (∀ q ∈ R', q.1 ≠ lp) → Fr h₀ L h' m' → News h₀ L h' ((lp, W.listOf #[.int k t] n) :: R') → m' ("sides" : Str) = some (.ref sd) → m' ("covers" : Str) = m ("covers" : Str) →
      m' ("row" : Str) = some (.ref rl) → (rl, W.listOf (List.toArray rr) rn) ∈ R' → IntsAre rr (rowOf kvs back.length ahead.length offs) →
      wpC (model PySem.Challenge.rw_pb0182_01.row.prog w) A (execs (bb.drop 16) (envOfC qual scope L 305 cdv)) Q E { s with heap := h', toks := tk' }) :
    wpC (model PySem.Challenge.rw_pb0182_01.row.prog w) A (execs (bb.drop 13) (envOfC qual scope L 305 cdv)) Q E s :=
  eps_all (P := fun v => P_lawE v.1 v.2.1 v.2.2.1 v.2.2.2.1 v.2.2.2.2.1 v.2.2.2.2.2.1 v.2.2.2.2.2.2.1 v.2.2.2.2.2.2.2.1 v.2.2.2.2.2.2.2.2.1 v.2.2.2.2.2.2.2.2.2.1 v.2.2.2.2.2.2.2.2.2.2.1 v.2.2.2.2.2.2.2.2.2.2.2.1 v.2.2.2.2.2.2.2.2.2.2.2.2.1 v.2.2.2.2.2.2.2.2.2.2.2.2.2.1 v.2.2.2.2.2.2.2.2.2.2.2.2.2.2.1 v.2.2.2.2.2.2.2.2.2.2.2.2.2.2.2.1 v.2.2.2.2.2.2.2.2.2.2.2.2.2.2.2.2.1 v.2.2.2.2.2.2.2.2.2.2.2.2.2.2.2.2.2.1 v.2.2.2.2.2.2.2.2.2.2.2.2.2.2.2.2.2.2.1 v.2.2.2.2.2.2.2.2.2.2.2.2.2.2.2.2.2.2.2.1 v.2.2.2.2.2.2.2.2.2.2.2.2.2.2.2.2.2.2.2.2.1 v.2.2.2.2.2.2.2.2.2.2.2.2.2.2.2.2.2.2.2.2.2.1 v.2.2.2.2.2.2.2.2.2.2.2.2.2.2.2.2.2.2.2.2.2.2.1 v.2.2.2.2.2.2.2.2.2.2.2.2.2.2.2.2.2.2.2.2.2.2.2.1 v.2.2.2.2.2.2.2.2.2.2.2.2.2.2.2.2.2.2.2.2.2.2.2.2.1 v.2.2.2.2.2.2.2.2.2.2.2.2.2.2.2.2.2.2.2.2.2.2.2.2.2.1 v.2.2.2.2.2.2.2.2.2.2.2.2.2.2.2.2.2.2.2.2.2.2.2.2.2.2.1 v.2.2.2.2.2.2.2.2.2.2.2.2.2.2.2.2.2.2.2.2.2.2.2.2.2.2.2.1 v.2.2.2.2.2.2.2.2.2.2.2.2.2.2.2.2.2.2.2.2.2.2.2.2.2.2.2.2.1 v.2.2.2.2.2.2.2.2.2.2.2.2.2.2.2.2.2.2.2.2.2.2.2.2.2.2.2.2.2.1 v.2.2.2.2.2.2.2.2.2.2.2.2.2.2.2.2.2.2.2.2.2.2.2.2.2.2.2.2.2.2) (by with_unfolding_all exact K_lawE.core) (w, p, loose, mean, mg, mb, A, A₀, outer, base, h₀, L, m, s, Q, E, f, lp, D, k, n, t, T, R, kvs, gss, sd, back, ahead, ol, on) name qual params bb scope dV kV doc pm cdv ct oc an od osl hb v0 v1 oo offs C F N S hm hsd hv0 hv1 hbl hal hm1 hol hoo hofl hm2 hd hu hK
end
end Mine
end TextW6
section TextW7
open PySem PySem.W PyProof.Rows PySem.Calls PySem.Spec
set_option Elab.async false
set_option maxRecDepth 100000
set_option maxHeartbeats 1000000
namespace Mine
section
variable {prog : Program} {w : World} {A : Around} {E : Value → Shared → Prop} {R : Result → Shared → Prop} {s : Shared}
theorem plain_upd : plainId "dict.update.loop" = true := by decide +kernel
theorem entry_upd : entryFor table "dict.update.loop" = some Builtin.«dict.update.loop» := entryFor_of_tree (by kernel_rfl)
theorem stored_app7 {kvs : List (Int × Value)} {k : Int} {v : Value} (h : k ∉ kvs.map (·.1)) : stored kvs k v = kvs ++ [(k, v)] := by
  unfold stored
  rw [if_neg]
  simp only [List.any_eq_true, decide_eq_true_eq, not_exists, not_and]
  rintro x hx rfl
  exact h (List.mem_map_of_mem hx)
/-- pairs on the heap -/
noncomputable def PairAt (h : Heap) (I d : Addr) (v : Value) (q : Int × Value) : Prop := ∃ tp n t, v = .ref tp ∧ tp ≠ I ∧ tp ≠ d ∧ h.get? tp = some { cls := .type "tuple", data := .seq #[.int q.1 t, q.2] n }
theorem upd_loop {d I ax : Addr} {its : Array Value} {kvs : List (Int × Value)} (hh : A.handled = none) (haI : ax ≠ I) (hId : I ≠ d) (had : ax ≠ d) (hlen : its.size = kvs.length) (hsz : kvs.length ≤ 1000)
    (hnd : (kvs.map (·.1)).Nodup) : ∀ (r i : Nat), i + r = kvs.length → ∀ s : Shared, s.heap.IsListIter I ax i → s.heap.IsList ax its → (∀ (j : Nat) (v : Value) (q : Int × Value), its[j]? = some v → kvs[j]? = some q → PairAt s.heap I d v q) →
    s.heap.DictOf (PySem.intKind prog w) d (kvs.take i) → (∀ h' tk, h'.DictOf (PySem.intKind prog w) d kvs → (∀ b o, b ≠ I → b ≠ d → s.heap.get? b = some o → h'.get? b = some o) → R (.ok (.ret .none)) { s with heap := h', toks := tk }) →
    codeAny (model prog w) A (.builtin "dict.update.loop" ⟨[.ref d, .ref I, rawInt i, .none], []⟩) R s := by
  have W := Walks.list (prog := prog) (w := w) (A := A.in1) hh I ax haI its
  intro r
  induction r with
  | zero =>
    intro i hi s hit hl hp hd hR
    obtain rfl : i = kvs.length := by omega
    refine codeAny_builtin entry_upd ?_
    rw [Around.under_plainId plain_upd _]
    unfold Builtin.«dict.update.loop»
    show wpAny _ _ (pyNext (.ref I) >>= _) _ _ _
    refine wpAny_bind (W.done _ _ _ (by rw [← hlen] at hit; exact ⟨hit, hl⟩) fun h₂ tk₂ hk₂ => ?_)
    dsimp only
    have hd' : h₂.DictOf (PySem.intKind prog w) d kvs := by
      rw [List.take_length] at hd
      exact hd.at fun o e => hk₂ _ o (by simpa using Ne.symm hId) e
    exact wpAny_bind (wpAny_pure (wpAny_pure (hR h₂ tk₂ hd' fun b o h1 h2 e => hk₂ _ _ (by simpa using h1) e)))
  | succ r ih =>
    intro i hi s hit hl hp hd hR
    refine codeAny_builtin entry_upd ?_
    rw [Around.under_plainId plain_upd _]
    unfold Builtin.«dict.update.loop»
    show wpAny _ _ (pyNext (.ref I) >>= _) _ _ _
    refine wpAny_bind (W.item i _ _ _ (by omega) ⟨hit, hl⟩ fun v h₂ tk₂ hPv hst₂ hk₂ => ?_)
    dsimp only
    have hil : i < kvs.length := by omega
    obtain ⟨q, hq⟩ : ∃ q, kvs[i]? = some q := ⟨_, List.getElem?_eq_getElem hil⟩
    obtain ⟨tp, n, t, rfl, n1, n2, htp⟩ := hp i v q hPv hq
    have htp₂ := hk₂ _ _ (by simpa using n1) htp
    have hd₂ : h₂.DictOf (PySem.intKind prog w) d (kvs.take i) := hd.at fun o e => hk₂ _ o (by simpa using Ne.symm hId) e
    have hnew : q.1 ∉ (kvs.take i).map (·.1) := by
      have h1 : kvs.map (·.1) = (kvs.take i).map (·.1) ++ (kvs.drop i).map (·.1) := by rw [← List.map_append, List.take_append_drop]
      rw [h1] at hnd
      have h2 : q.1 ∈ (kvs.drop i).map (·.1) := List.mem_map_of_mem (List.mem_of_getElem? (i := 0) (by rw [List.getElem?_drop]; simpa using hq))
      exact fun h => (List.nodup_append.mp hnd).2.2 _ h _ h2 rfl
    refine wpAny_bind (wpAny_holding (wpAny_bind (wpAny_tryCatch ?_)))
    unfold Builtin.Dict.pairItems
    refine wpAny_bind (wpAny_typeOf ⟨_, htp₂, rfl⟩ ?_)
    rw [if_pos (by decide)]
    refine wpAny_bind (wpAny_seqItems htp₂ rfl (wpAny_pure ?_))
    show wpAny _ _ (holding _ (dictSet d (.int q.1 t) q.2)) _ _ _
    refine wpAny_holding (wpAny_dictSet_pairs (knd := PySem.intKind prog w) (k := q.1) (by show Value.isInt q.1 (Value.int q.1 t) = true; simp [Value.isInt]) hd₂ (fun h₃ hd₃ hs₃ => ?_) (by rw [sizeLine_eq, List.length_take]; omega))
    refine wpAny_pure ⟨plainId_quiet plain_upd _, ?_⟩
    have hst₃ := W.frame (i + 1) h₂ h₃ hst₂ fun b hb o e => by
      have hbd : b ≠ d := by
        rcases List.mem_cons.mp hb with rfl | hb
        · exact hId
        · rw [List.mem_singleton.mp hb]; exact had
      exact hs₃.extBut _ _ hbd e
    have hd₄ : h₃.DictOf (PySem.intKind prog w) d (kvs.take (i + 1)) := by
      rw [stored_app7 hnew] at hd₃
      rw [List.take_add_one, hq]
      exact hd₃
    refine ih (i + 1) (by omega) { s with heap := h₃, toks := _ } hst₃.1 hst₃.2 (fun j v' q' hj hj' => ?_) hd₄ fun h' tk e1 e2 => hR h' tk e1 fun b o h1 h2 e => e2 b o h1 h2 (hs₃.extBut _ _ h2 (hk₂ _ _ (by simpa using h1) e))
    obtain ⟨tp', n', t', e, m1, m2, htp'⟩ := hp j v' q' hj hj'
    exact ⟨tp', n', t', e, m1, m2, hs₃.extBut _ _ m2 (hk₂ _ _ (by simpa using m1) htp')⟩
theorem list_no_keys : typeLookup (.type "list") "keys" = pure none := by rw [typeLookup_type, builtinLookup_eq_fast]; kernel_rfl
theorem keys_list {a : Addr} {o : Obj} {xs : Array Value} {k : Nat} {Q : Option Value → Shared → Prop}
    (hx : s.heap.get? a = some o) (hc : o.cls = .type "list") (hdat : o.data = .seq xs k) (hd : o.dict = none) (hA : A.handled = none)
    (h : ∀ h' tk, (∀ b o, s.heap.get? b = some o → h'.get? b = some o) → Q none { s with heap := h', toks := tk }) :
    wpAny (model prog w) A (getAttr? (.ref a) "keys") Q E s := by
  obtain ⟨c, dct, dat, sl⟩ := o
  simp only at hc hdat hd
  subst hc hdat hd
  obtain ⟨hp, g, d, tk, os⟩ := s
  have hT : ∀ tk', (⟨hp, g, d, tk', os⟩ : Shared).TypeIs (.ref a) "list" := fun _ => ⟨_, hx, rfl⟩
  have f1 := sub_AttributeError
  have f3 := F.slot_list_getattribute.lookup
  have f4 := F.slot_list_getattribute.bind (.ref a)
  have f5 := am_list_getattr_none
  have hmiss := list_no_keys
  have key : ∀ (tk0 : Nat) (u : Tok), wpAny (model prog w) A (getAttrBy (.ref a) (.str "keys" u) false) (fun _ _ => False) (fun e s' => ∃ h' tk', s' = ⟨h', g, d, tk', os⟩ ∧ ∃ x, e = .ref x ∧ Heap.NewExcOf hp h' x "AttributeError") ⟨hp, g, d, tk0, os⟩ := by
    intro tk0 u
    unfold getAttrBy
    repeat (any_goals (first | assumption | exact hT _ | ((with_reducible show wpAny _ _ (call (Value.builtin "list.__getattribute__") _ _) _ _ _); refine call_meets F.slot_list_getattribute (hT _) am_entry_list_getattribute (F.args_list_getattribute_2 _ _) (meets_getattribute_miss_list a xs k sl "keys" _ hmiss (by decide) (by decide)) ⟨hx, hA, fun h' tk' e hx' => ?_⟩) | wp_step))
    obtain ⟨t', u', he⟩ := hx'.there
    show wpAny _ _ (getattributeRaised _ _ _ _ _ _ _) _ _ _
    unfold getattributeRaised
    repeat (any_goals (first | assumption | wp_step))
    exact ⟨_, _, rfl, _, rfl, hx'.of⟩
  unfold getAttr? getAttrBy?
  refine wpAny_bind (wpAny_mkText ?_)
  refine wpAny_bind (wpAny_attempt (wpAny_mono (key _ _) (fun _ _ z => z.elim) fun e s' z => ?_))
  obtain ⟨h', tk', rfl, x, rfl, hx'⟩ := z
  obtain ⟨ob, vs, e1, e2, e3, e4⟩ := hx'.there
  dsimp only
  refine wpAny_bind (wpAny_isInstance ⟨_, e1, e2⟩ f1 ?_)
  rw [if_pos rfl]
  exact wpAny_pure (h _ _ hx'.keeps)
theorem call_dict_pairs {l : Addr} {its : Array Value} {kvs : List (Int × Value)} {Q : Value → Shared → Prop} (hh : A.handled = none) (hl : s.heap.IsList l its) (hnl : ∃ o n, s.heap.get? l = some o ∧ o.cls = .type "list" ∧ o.data = .seq its n ∧ o.dict = none) (hlen : its.size = kvs.length) (hsz : kvs.length ≤ 1000) (hnd : (kvs.map (·.1)).Nodup)
    (hp : ∀ (j : Nat) (v : Value) (q : Int × Value), its[j]? = some v → kvs[j]? = some q → ∃ tp n t, v = .ref tp ∧ s.heap.get? tp = some { cls := .type "tuple", data := .seq #[.int q.1 t, q.2] n })
    (h : ∀ h' tk, h'.DictOf (PySem.intKind prog w) s.heap.objs.size kvs → (∀ b o, s.heap.get? b = some o → h'.get? b = some o) → Q (.ref s.heap.objs.size) { s with heap := h', toks := tk }) :
    wpAny (model prog w) A (call (.type "dict") [.ref l]) Q E s := by
  refine callType_codes (Q₁ := fun obj s₁ => obj = .ref s.heap.objs.size ∧ s₁ = { s with heap := s.heap.push { cls := .type "dict", data := .dict #[] } }) F.kt_called_dict (F.kt_typeCall_dict_1 _) F.entry_dict_init (kt_code_dict_new _ ⟨rfl, rfl⟩) ?_
  rintro obj s₁ ⟨rfl, rfl⟩
  have hnew : (s.heap.push { cls := .type "dict", data := .dict #[] }).DictOf (PySem.intKind prog w) s.heap.objs.size [] := Heap.DictOf.new s.heap
  have up : ∀ b o, s.heap.get? b = some o → (s.heap.push { cls := .type "dict", data := .dict #[] }).get? b = some o := fun b o e => Heap.get?_push_of_some _ e
  obtain ⟨ol, nl, e1, e2, e3, e4⟩ := hnl
  refine ⟨hnew.typeIs, F.args_dict_init_2 _ _, ?_⟩
  unfold Builtin.«dict.__init__»
  refine wpAny_bind ?_
  unfold Builtin.Dict.selfAndRest
  refine wpAny_bind (wpAny_notOrdered_dict hnew.typeIs ?_)
  show wpAny _ _ (pure (s.heap.objs.size, [Value.ref l])) _ _ _
  refine wpAny_pure ?_
  show wpAny _ _ (Builtin.Dict.updateFrom "dict.__init__" s.heap.objs.size (.ref l) [] .none) _ _ _
  unfold Builtin.Dict.updateFrom
  refine wpAny_bind (wpAny_typeOf ⟨_, up _ _ e1, e2⟩ ?_)
  rw [if_pos (by decide)]
  refine wpAny_bind (keys_list (up _ _ e1) e2 e3 e4 hh fun h₂ tk₂ hk₂ => ?_)
  rw [if_pos (show (none : Option Value).isNone = true from rfl)]
  refine wpAny_bind (wpAny_rule ?_)
  have hl₂ : h₂.IsList l its := ⟨ol, hk₂ _ _ (up _ _ e1), e2, _, e3⟩
  refine wpAny_bind (wpAny_pyIter_list hl₂ ?_)
  have hlI : l < h₂.objs.size := Heap.lt_size (hk₂ _ _ (up _ _ e1))
  have hdI : s.heap.objs.size < h₂.objs.size := by
    obtain ⟨_, _, _, hg, _⟩ := hnew.at (fun o e => hk₂ _ o e)
    exact Heap.lt_size hg
  have hld : l < s.heap.objs.size := Heap.lt_size e1
  have up₂ : ∀ b o, s.heap.get? b = some o → (h₂.push { cls := .type "list_iterator", data := .fields #[.ref l, .int 0 0] }).get? b = some o := fun b o e => Heap.get?_push_of_some _ (hk₂ _ _ (up _ _ e))
  refine wpAny_pure ⟨plainId_quiet plain_upd _, upd_loop (A := A.in1) (kvs := kvs) (its := its) (ax := l) hh (Nat.ne_of_lt hlI) (Nat.ne_of_gt hdI) (Nat.ne_of_lt hld) hlen hsz hnd kvs.length 0 (Nat.zero_add _) _ ?_ ?_ (fun j v q hj hq => ?_) ?_ fun h' tk hd' hk' => ?_⟩
  · exact ⟨_, Heap.get?_push_size _ rfl, rfl, rfl⟩
  · exact ⟨ol, up₂ _ _ e1, e2, _, e3⟩
  · obtain ⟨tp, n, t, rfl, ht⟩ := hp j v q hj hq
    exact ⟨tp, n, t, rfl, Nat.ne_of_lt (Nat.lt_trans (Heap.lt_size ht) hdI), Nat.ne_of_lt (Heap.lt_size ht), up₂ _ _ ht⟩
  · exact hnew.at fun o e => Heap.get?_push_of_some _ (hk₂ _ _ e)
  · exact ⟨rfl, h h' tk hd' fun b o e => hk' b o (Nat.ne_of_lt (Nat.lt_trans (Heap.lt_size e) hdI)) (Nat.ne_of_lt (Heap.lt_size e)) (up₂ b o e)⟩
end
end Mine
end TextW7
section TextW8
open PySem PySem.W PyProof.Rows PySem.Calls PySem.Spec
set_option Elab.async false
set_option maxRecDepth 100000
set_option maxHeartbeats 1000000
namespace Mine
theorem fillW8 {w : World} {A : Around} {Q : Value → Shared → Prop} {E : Value → Shared → Prop} {s : Shared} (h : (hd0.heap_1 w.params).In s.heap → wpAny (model PySem.Challenge.rw_pb0182_01.row.prog w) A (call .none []) Q E s) :
    (hd0.heap_1 w.params).In s.heap → wpAny (model PySem.Challenge.rw_pb0182_01.row.prog w) A (call .none []) Q E s := by
  k_fill
  w_top off
  intro hX
  try walk1
  exact h hX
section
variable {w : World} {p : Program} {loose : List Str} {mean : ExcName → Option Value} {mg mb : Str → Option Value} {A A₀ : Around} {env : Env} {outer : List Env} {base h₀ : Heap} {L : Addr} {m : Str → Option Value} {news rest : List (Addr × Obj)} {s : Shared}
  {Q : Flow → Shared → Prop} {E : Value → Shared → Prop}
end
section
noncomputable def P_lawF (w : World) (p : Program) (loose : List Str) (mean : ExcName → Option Value) (mg : Str → Option Value) (mb : Str → Option Value) (A : Around) (A₀ : Around) (outer : List Env) (base : Heap) (h₀ : Heap) (L : Addr) (m : Str → Option Value) (s : Shared) (Q : Flow → Shared → Prop) (E : Value → Shared → Prop) (f : Addr) (lp : Addr) (D : Addr) (k : Int) (n : Nat) (t : Tok) (T : List (Addr × Obj)) (R : List (Addr × Obj)) (kvs : List (Int × Value)) (gss : List (List Int)) (sd : Addr) (cl : Addr) (rl : Addr) : Prop := ∀ (name : Str) (qual : Str) (params : Arguments) (bb : List Stmt) (scope : Scope) (dV : Value) (kV : Value) (doc : Value) (pm : Value) (cdv : Value) (ct : Value) (oc : Value) (an : Option Addr) (od : Option Addr) (osl : Array (Option Value)) (hb : (hd0.heap_1 w.params).lookup 305 = some ⟨oc, od, .func (fnOf name qual params bb scope dV kV doc pm an cdv ct), osl⟩) (C : Cx w p loose mean mg mb A A₀ (envOfC qual scope L 305 cdv) outer base h₀ L) (F : Fr h₀ L s.heap m) (N : News h₀ L s.heap ((lp, W.listOf #[.int k t] n) :: R)) (S : LawSt w p loose mean mg mb L f lp D k T R kvs gss) (hk : k ≤ 76) (hm : m ("sides" : Str) = some (.ref sd)) (hm1 : m ("covers" : Str) = some (.ref cl)) (hm2 : m ("row" : Str) = some (.ref rl)) (hd : A.depth ≤ 800) (hu : A.units ≤ 4000) (hcd : CodeHd h₀ 275 271) (hK : ∀ k t n R' m' h' tk' kl kr kn ks gd og kvs2, k ≤ 77 → (∀ q ∈ R, q ∈ R') → (∀ q ∈ R', q.1 ≠ lp) → 0 ≤ k → Fr h₀ L h' m' → News h₀ L h' ((lp, W.listOf #[.int k t] n) :: (gd, og) :: R') → gd ≠ lp → (∀ q ∈ R', q.1 ≠ gd) →
      m' ("sides" : Str) = some (.ref sd) → m' ("covers" : Str) = some (.ref cl) → m' ("row" : Str) = some (.ref rl) →
      m' ("key_row" : Str) = some (.ref kl) → (kl, W.listOf (List.toArray kr) kn) ∈ R' → IntsAre kr ks → (ks = kvs.map (·.1) ∨ ks = (kvs.map (·.1)).reverse) →
      m' ("given" : Str) = some (.ref gd) → og.IsDictOf (PySem.intKind PySem.Challenge.rw_pb0182_01.row.prog w) kvs2 → (gd == sysModules) = false → kvs2.map (·.1) = ks → (∀ q ∈ kvs2, valueAt kvs q.1 = some q.2) →
      wpC (model PySem.Challenge.rw_pb0182_01.row.prog w) A (execs (bb.drop 18) (envOfC qual scope L 305 cdv)) Q E { s with heap := h', toks := tk' }),
    wpC (model PySem.Challenge.rw_pb0182_01.row.prog w) A (execs (bb.drop 16) (envOfC qual scope L 305 cdv)) Q E s
noncomputable def c_lawF := @Classical.epsilon ((World) × (Program) × (List Str) × (ExcName → Option Value) × (Str → Option Value) × (Str → Option Value) × (Around) × (Around) × (List Env) × (Heap) × (Heap) × (Addr) × (Str → Option Value) × (Shared) × (Flow → Shared → Prop) × (Value → Shared → Prop) × (Addr) × (Addr) × (Addr) × (Int) × (Nat) × (Tok) × (List (Addr × Obj)) × (List (Addr × Obj)) × (List (Int × Value)) × (List (List Int)) × (Addr) × (Addr) × (Addr)) ⟨(wDef, default, [], fun _ => none, fun _ => none, fun _ => none, callerA, callerA, [], default, default, 0, fun _ => none, (PySem.start default).1, fun _ _ => True, fun _ _ => True, 0, 0, 0, 0, 0, 0, [], [], [], [], 0, 0, 0)⟩ fun v => ¬ P_lawF v.1 v.2.1 v.2.2.1 v.2.2.2.1 v.2.2.2.2.1 v.2.2.2.2.2.1 v.2.2.2.2.2.2.1 v.2.2.2.2.2.2.2.1 v.2.2.2.2.2.2.2.2.1 v.2.2.2.2.2.2.2.2.2.1 v.2.2.2.2.2.2.2.2.2.2.1 v.2.2.2.2.2.2.2.2.2.2.2.1 v.2.2.2.2.2.2.2.2.2.2.2.2.1 v.2.2.2.2.2.2.2.2.2.2.2.2.2.1 v.2.2.2.2.2.2.2.2.2.2.2.2.2.2.1 v.2.2.2.2.2.2.2.2.2.2.2.2.2.2.2.1 v.2.2.2.2.2.2.2.2.2.2.2.2.2.2.2.2.1 v.2.2.2.2.2.2.2.2.2.2.2.2.2.2.2.2.2.1 v.2.2.2.2.2.2.2.2.2.2.2.2.2.2.2.2.2.2.1 v.2.2.2.2.2.2.2.2.2.2.2.2.2.2.2.2.2.2.2.1 v.2.2.2.2.2.2.2.2.2.2.2.2.2.2.2.2.2.2.2.2.1 v.2.2.2.2.2.2.2.2.2.2.2.2.2.2.2.2.2.2.2.2.2.1 v.2.2.2.2.2.2.2.2.2.2.2.2.2.2.2.2.2.2.2.2.2.2.1 v.2.2.2.2.2.2.2.2.2.2.2.2.2.2.2.2.2.2.2.2.2.2.2.1 v.2.2.2.2.2.2.2.2.2.2.2.2.2.2.2.2.2.2.2.2.2.2.2.2.1 v.2.2.2.2.2.2.2.2.2.2.2.2.2.2.2.2.2.2.2.2.2.2.2.2.2.1 v.2.2.2.2.2.2.2.2.2.2.2.2.2.2.2.2.2.2.2.2.2.2.2.2.2.2.1 v.2.2.2.2.2.2.2.2.2.2.2.2.2.2.2.2.2.2.2.2.2.2.2.2.2.2.2.1 v.2.2.2.2.2.2.2.2.2.2.2.2.2.2.2.2.2.2.2.2.2.2.2.2.2.2.2.2
namespace K_lawF
@[irreducible] noncomputable def w : World := c_lawF.1
@[irreducible] noncomputable def p : Program := c_lawF.2.1
@[irreducible] noncomputable def loose : List Str := c_lawF.2.2.1
@[irreducible] noncomputable def mean : ExcName → Option Value := c_lawF.2.2.2.1
@[irreducible] noncomputable def mg : Str → Option Value := c_lawF.2.2.2.2.1
@[irreducible] noncomputable def mb : Str → Option Value := c_lawF.2.2.2.2.2.1
@[irreducible] noncomputable def A : Around := c_lawF.2.2.2.2.2.2.1
@[irreducible] noncomputable def A₀ : Around := c_lawF.2.2.2.2.2.2.2.1
@[irreducible] noncomputable def outer : List Env := c_lawF.2.2.2.2.2.2.2.2.1
@[irreducible] noncomputable def base : Heap := c_lawF.2.2.2.2.2.2.2.2.2.1
@[irreducible] noncomputable def h₀ : Heap := c_lawF.2.2.2.2.2.2.2.2.2.2.1
@[irreducible] noncomputable def L : Addr := c_lawF.2.2.2.2.2.2.2.2.2.2.2.1
@[irreducible] noncomputable def m : Str → Option Value := c_lawF.2.2.2.2.2.2.2.2.2.2.2.2.1
@[irreducible] noncomputable def s : Shared := c_lawF.2.2.2.2.2.2.2.2.2.2.2.2.2.1
@[irreducible] noncomputable def Q : Flow → Shared → Prop := c_lawF.2.2.2.2.2.2.2.2.2.2.2.2.2.2.1
@[irreducible] noncomputable def E : Value → Shared → Prop := c_lawF.2.2.2.2.2.2.2.2.2.2.2.2.2.2.2.1
@[irreducible] noncomputable def f : Addr := c_lawF.2.2.2.2.2.2.2.2.2.2.2.2.2.2.2.2.1
@[irreducible] noncomputable def lp : Addr := c_lawF.2.2.2.2.2.2.2.2.2.2.2.2.2.2.2.2.2.1
@[irreducible] noncomputable def D : Addr := c_lawF.2.2.2.2.2.2.2.2.2.2.2.2.2.2.2.2.2.2.1
@[irreducible] noncomputable def k : Int := c_lawF.2.2.2.2.2.2.2.2.2.2.2.2.2.2.2.2.2.2.2.1
@[irreducible] noncomputable def n : Nat := c_lawF.2.2.2.2.2.2.2.2.2.2.2.2.2.2.2.2.2.2.2.2.1
@[irreducible] noncomputable def t : Tok := c_lawF.2.2.2.2.2.2.2.2.2.2.2.2.2.2.2.2.2.2.2.2.2.1
@[irreducible] noncomputable def T : List (Addr × Obj) := c_lawF.2.2.2.2.2.2.2.2.2.2.2.2.2.2.2.2.2.2.2.2.2.2.1
@[irreducible] noncomputable def R : List (Addr × Obj) := c_lawF.2.2.2.2.2.2.2.2.2.2.2.2.2.2.2.2.2.2.2.2.2.2.2.1
@[irreducible] noncomputable def kvs : List (Int × Value) := c_lawF.2.2.2.2.2.2.2.2.2.2.2.2.2.2.2.2.2.2.2.2.2.2.2.2.1
@[irreducible] noncomputable def gss : List (List Int) := c_lawF.2.2.2.2.2.2.2.2.2.2.2.2.2.2.2.2.2.2.2.2.2.2.2.2.2.1
@[irreducible] noncomputable def sd : Addr := c_lawF.2.2.2.2.2.2.2.2.2.2.2.2.2.2.2.2.2.2.2.2.2.2.2.2.2.2.1
@[irreducible] noncomputable def cl : Addr := c_lawF.2.2.2.2.2.2.2.2.2.2.2.2.2.2.2.2.2.2.2.2.2.2.2.2.2.2.2.1
@[irreducible] noncomputable def rl : Addr := c_lawF.2.2.2.2.2.2.2.2.2.2.2.2.2.2.2.2.2.2.2.2.2.2.2.2.2.2.2.2
theorem core : P_lawF w p loose mean mg mb A A₀ outer base h₀ L m s Q E f lp D k n t T R kvs gss sd cl rl := by
  have st0 : Stop "all 2" := .mk
  have st1 : Stop "mem 2" := .mk
  have st2 : Stop "name local" := .mk
  have st3 : Stop "call ref" := .mk
  have st4 : Stop "call builtin:sorted" := .mk
  have st5 : Stop "call type:dict" := .mk
  have st6 : Stop "subscriptTail" := .mk
  have st7 : Stop "eval IfExp" := .mk
  have st8 : Stop "eval ListComp" := .mk
  unfold P_lawF
  refine' fn_cases ?k6 ?_
  case k6 => k_is
  intro bb e C F N S hk hm hm1 hm2 hd hu hcd hK
  obtain ⟨L, hL⟩ : ∃ l : Nat, l = L := ⟨L, rfl⟩
  subst hL
  refine start2 e rfl (fun a17' h17 => ?_)
  have X' := C.X
  have T' := C.T
  have B' := C.B
  try k_fold
  obtain ⟨foc, fod, ffd, fsl, hfm⟩ := S.isf
  have hfr := S.hT _ hfm
  try k_fold
  obtain ⟨oa, z1, hoa⟩ := S.c1
  try k_fold
  obtain ⟨ob, z2, hob⟩ := S.c2
  try k_fold
  obtain ⟨om, zm, hom⟩ := S.dm
  have soff := S.off
  have hk0 := S.k0
  refine execsC_any ?_
  try k_fold
  k_steps
  refine Hold.go (wpAny_mono (Q := fun v s' => Hold (∃ (lg : Addr) (vr : List Value) (ks : List Int) (c : Nat) (h : Heap) (tk : Nat) (n' : Nat) (t' : Tok), v = .ref lg ∧ s' = { s with heap := h, toks := tk } ∧ Fr h₀ L h m ∧ News h₀ L h ((lg, W.listOf (List.toArray vr) c) :: (lp, W.listOf #[.int (k + 1) t'] n') :: R) ∧ lp ≠ lg ∧ (∀ q ∈ R, q.1 ≠ lg) ∧ IntsAre vr ks ∧ (ks = kvs.map (·.1) ∨ ks = (kvs.map (·.1)).reverse))) ?_ ?_ (fun _ _ z => z))
  · refine ifExpH ?_
    try k_fold
    k_steps
    refine Hold.go (take_call S.tok C F N hcd S.hT soff hk0 (by omega) (by decide) (by decide) (by omega) (by omega) fun x1 ta tb n1 h₁ tk₁ hv0 hv1 F₁ N₁ => ?_)
    try k_fold
    k_steps
    by_cases hx : x1 = 0
    · refine Hold.go ?_
      rw [if_pos (by simpa using hx)]
      try k_fold
      k_steps
      refine Hold.go (sorted_dict C.hh F₁ N₁ (.tail _ zm) hom S.lom (Nat.lt_of_le_of_lt S.kl (by decide)) fun lg vg gs cg h₂ tk₂ F₂ N₂ l2 hI hperm hsort => ?_)
      have hgs : gs = kvs.map (·.1) := sorted_unique hperm hsort S.kp
      subst hgs
      have hil := hI.length
      have hkl := S.kl
      rw [List.length_map] at hil
      try k_fold
      k_steps
      rename News _ _ _ _ => N₃
      rename Fr _ _ _ _ => F₃
      refine Hold.go (kba_turn (value' := PySem.Expr.Name (PySem.Str.ofString "_") ⟨0, 0, 0, 0⟩) (fun _ => rfl) (krv_ints F₃ N₃ ⟨_, (N₃ _ (.head _)).1, rfl, _, rfl⟩ (.int _ _) hI (fun Dr wr h₄ F₄ N₄ l4 hI4 _ => ?_) (by with_unfolding_all rfl) (by intro _; rfl) (by rw [sizeLine_eq, List.size_toArray]; omega)))
      exact hold ⟨Dr, wr, _, _, h₄, _, n1, ta, rfl, rfl, F₄, (fun q hq => N₄ q (by
        rcases List.mem_cons.mp hq with rfl | hq
        · exact .head _
        · exact .tail _ (.tail _ hq))), Nat.ne_of_lt (l4 _ (.tail _ (.head _))), (fun q hq => Nat.ne_of_lt (l4 _ (.tail _ (.tail _ hq)))), hI4, .inr rfl⟩
    · refine Hold.go ?_
      rw [if_neg (by simpa using hx)]
      try k_fold
      k_steps
      refine Hold.go (sorted_dict C.hh F₁ N₁ (.tail _ zm) hom S.lom (Nat.lt_of_le_of_lt S.kl (by decide)) fun lg vg gs cg h₂ tk₂ F₂ N₂ l2 hI hperm hsort => ?_)
      have hgs : gs = kvs.map (·.1) := sorted_unique hperm hsort S.kp
      subst hgs
      exact hold ⟨lg, vg, _, _, h₂, _, n1, ta, rfl, rfl, F₂, N₂, Nat.ne_of_lt (l2 _ (.head _)), (fun q hq => Nat.ne_of_lt (l2 _ (.tail _ hq))), hI, .inl rfl⟩
  · rintro v s' ⟨kl, kr, ks, kc, h₅, tk₅, n1, ta, rfl, rfl, F₅, N₅, u1, u2, hkr, hks⟩
    try k_fold
    k_steps
    rename News _ _ _ _ => N₆
    rename Fr _ _ _ _ => F₆
    subst h17
    replace hcd := hold hcd
    refine Hold.go (execsC_any ?_)
    try k_fold
    k_steps
    refine Hold.go ?_
    refine comp_list F₆ C.hh (by with_unfolding_all rfl) (by decide) (by rfl) (by decide) (by rfl) ?_
    try k_fold
    k_steps
    have hkrl := hkr.length
    have hksl : ks.length = kvs.length := by rcases hks with rfl | rfl <;> simp
    have hksm : ∀ x ∈ ks, x ∈ kvs.map (·.1) := by rcases hks with rfl | rfl <;> intro x hx <;> simpa using hx
    have hkl := S.kl
    have oR : ∀ q ∈ (kl, W.listOf (List.toArray kr) kc) :: R, q.1 ≠ lp := off_cons u1.symm soff
    have mk : (kl, W.listOf (List.toArray kr) kc) ∈ (kl, W.listOf (List.toArray kr) kc) :: (lp, W.listOf #[.int (k + 1) ta] n1) :: R := .head _
    have mR : ∀ q ∈ R, q ∈ (kl, W.listOf (List.toArray kr) kc) :: (lp, W.listOf #[.int (k + 1) ta] n1) :: R := fun q hq => .tail _ (.tail _ hq)
    rename Fr _ _ _ _ => F₇
    have ml : (lp, W.listOf #[.int (k + 1) ta] n1) ∈ (kl, W.listOf (List.toArray kr) kc) :: (lp, W.listOf #[.int (k + 1) ta] n1) :: R := .tail _ (.head _)
    generalize hRe : (kl, W.listOf (List.toArray kr) kc) :: (lp, W.listOf #[.int (k + 1) ta] n1) :: R = R₇ at N₆ mk mR ml
    refine Hold.go ⟨kl, kr.toArray, _, fun i ys nw => ∃ G, nw = G ++ R₇ ∧ (∀ (j : Nat) (v : Value) (x : Int), ys[j]? = some v → ks[j]? = some x → ∃ tp t vv, v = .ref tp ∧ (tp, ({ cls := .type "tuple", data := .seq #[.int x t, vv] } : Obj)) ∈ G ∧ valueAt kvs x = some vv) ∧ ∀ q ∈ G, q.1 ≠ lp, rfl, F₇, N₆, by rw [sizeLine_eq, List.size_toArray]; omega, ⟨[], rfl, (fun j v x hv => by simp at hv), fun _ h => (List.not_mem_nil h).elim⟩,
      (fun k ys nw z => by obtain ⟨G, rfl, _⟩ := z; exact .inr ⟨_, List.mem_append_right _ mk, rfl, _, rfl⟩), fun s₂ hs₂ up₂ => ⟨?_, ?_⟩⟩
    · obtain ⟨g₂, rfl⟩ := hs₂
      intro i v ys nw I oI CC oC D' m₂ h tk E' hi' hy hP hJ hoC₂ hv F₈ N₈ off hIC hID hCD
      try k_fold
      obtain ⟨G, rfl, hys, hGl⟩ := hJ
      try k_fold
      obtain ⟨gl, tg, rfl, hg⟩ := IntsAre.at hkr i v (by simpa using hP)
      have z2' : (L + 1 + 1, ob) ∈ G ++ R₇ := List.mem_append_right _ (mR _ z2)
      try k_fold
      k_steps
      try k_fold
      obtain ⟨ng, ug, hvg, _⟩ := valueAt_int S.kv (hksm gl (List.mem_of_getElem? hg))
      refine Hold.go (dict_itemR (knd := PySem.intKind PySem.Challenge.rw_pb0182_01.row.prog w) (k := gl) N₈ (.tail _ (.tail _ (.tail _ (List.mem_append_right _ (mR _ zm))))) hom (by show Value.isInt gl (Value.int gl tg) = true; simp [Value.isInt]) hvg ?_)
      try k_fold
      k_steps
      rename News _ _ _ _ => N₉
      rename Fr _ _ _ _ => F₉
      rename _ ∧ _ ∧ _ ∧ AllLt _ _ => l9
      rename_i DT hX
      refine ⟨_, _, (DT, ({ cls := .type "tuple", data := .seq #[.int gl tg, .int ng ug] } : Obj)) :: (G ++ R₇), rfl, F₉, fun q hq => N₉ q ?_, fun q hq => ?_, (DT, ({ cls := .type "tuple", data := .seq #[.int gl tg, .int ng ug] } : Obj)) :: G, rfl, fun j v x hj hx => ?_, off_cons (Nat.ne_of_gt (allLt_lt l9.2.2.2 _ (List.mem_append_right _ ml))) hGl⟩
      · revert q
        repeat' (first | exact sub_rf | exact List.Mem.head _ | refine sub_cons ?_ ?_ | refine List.Mem.tail _ ?_ | refine List.mem_append_right _ ?_ | exact sub_apl | refine sub_app ?_ ?_ | refine sub_tl ?_ | refine sub_apr ?_)
      · rcases List.mem_cons.mp hq with rfl | hq
        · exact ⟨Nat.ne_of_gt l9.1, Nat.ne_of_gt l9.2.1, Nat.ne_of_gt l9.2.2.1⟩
        · exact off q hq
      · rcases Nat.lt_or_ge j ys.length with hjl | hjl
        · rw [List.getElem?_append_left hjl] at hj
          try k_fold
          obtain ⟨tp, t', vv, e1, e2, e3⟩ := hys j v x hj hx
          exact ⟨tp, t', vv, e1, .tail _ e2, e3⟩
        · rw [List.getElem?_append_right hjl] at hj
          obtain ⟨hj0, rfl⟩ : j - ys.length = 0 ∧ v = .ref DT := by
            cases hjj : j - ys.length with
            | zero => rw [hjj] at hj; exact ⟨rfl, by simpa using hj.symm⟩
            | succ r => rw [hjj] at hj; simp at hj
          obtain rfl : j = i := by omega
          rw [hg] at hx; cases hx
          exact ⟨DT, tg, .int ng ug, rfl, .head _, hvg⟩
    · obtain ⟨g₂, rfl⟩ := hs₂
      intro DL h tk ys nw F₈ N₈ off hy hp1
      try k_fold
      obtain ⟨G, rfl, hys, hGl⟩ := hp1
      rw [List.size_toArray] at hy
      try dsimp only
      try k_fold
      k_steps
      have hkvs2 : (ks.map fun x => (x, (valueAt kvs x).getD .none)).map (·.1) = ks := by rw [List.map_map]; exact List.map_id'' (fun _ => rfl) _
      refine Hold.go (call_dict_pairs (kvs := ks.map fun x => (x, (valueAt kvs x).getD .none)) C.hh ⟨_, (N₈ _ (.head _)).1, rfl, _, rfl⟩ ⟨_, _, (N₈ _ (.head _)).1, rfl, rfl, rfl⟩ (by rw [List.size_toArray, List.length_map]; omega) (by rw [List.length_map]; omega) ?_ (fun j v q hj hq => ?_) fun h₉ tk₉ hd₉ hk₉ => ?_)
      · rw [hkvs2]
        have hn : (kvs.map (·.1)).Nodup := S.kp.imp Int.ne_of_lt
        rcases hks with rfl | rfl
        · exact hn
        · exact (List.reverse_perm _).nodup_iff.mpr hn
      · obtain ⟨x, hx, rfl⟩ : ∃ x, ks[j]? = some x ∧ (x, (valueAt kvs x).getD .none) = q := by simpa using hq
        try k_fold
        obtain ⟨tp, t', vv, rfl, hm', hvv⟩ := hys j v x (by simpa using hj) hx
        rw [hvv]
        exact ⟨tp, _, t', rfl, (N₈ _ (.tail _ (List.mem_append_left _ hm'))).1⟩
      · try k_fold
        obtain ⟨og, hgo, hog⟩ := Heap.dictOf_iff.mp hd₉
        have F₉ : Fr h₀ L h₉ _ := F₈.keeps hk₉
        have hLs : L < h.objs.size := by obtain ⟨_, _, _, q, _⟩ := F₈.ns; exact Heap.lt_size q
        have hs8 := fun q hq => Heap.lt_size (N₈ q hq).1
        have hlow := modules_low C.T.nolimit
        have hmod : (h.objs.size == sysModules) = false := by
          rw [beq_eq_false_iff_ne]
          exact Nat.ne_of_gt (Nat.lt_trans (Nat.lt_of_lt_of_le hlow F₈.above) hLs)
        have N₉ : News h₀ L h₉ ((h.objs.size, og) :: (DL, LCg.lst ys) :: (G ++ R₇)) := fun q hq => by
          rcases List.mem_cons.mp hq with rfl | hq
          · refine ⟨hgo, Nat.ne_of_gt hLs, ?_⟩
            cases z : h₀.get? h.objs.size with
            | none => rfl
            | some o => exact absurd (Heap.lt_size (F₈.keep _ _ z)) (Nat.lt_irrefl _)
          · exact ⟨hk₉ _ _ (N₈ q hq).1, (N₈ q hq).2⟩
        generalize h.objs.size = gd at *
        try k_fold
        k_steps
        rename News _ _ _ _ => N₁₀
        rename Fr _ _ _ _ => F₁₀
        subst hRe
        have hdl : DL ≠ lp := Ne.symm (off (lp, W.listOf #[.int (k + 1) ta] n1) (List.mem_append_right _ ml))
        have hgd : ∀ q ∈ (DL, LCg.lst ys) :: (G ++ (kl, W.listOf (List.toArray kr) kc) :: R), q.1 ≠ gd := fun q hq => by
          rcases List.mem_cons.mp hq with rfl | hq
          · exact Nat.ne_of_lt (hs8 _ (.head _))
          rcases List.mem_append.mp hq with hq | hq
          · exact Nat.ne_of_lt (hs8 q (.tail _ (List.mem_append_left _ hq)))
          rcases List.mem_cons.mp hq with rfl | hq
          · exact Nat.ne_of_lt (hs8 _ (.tail _ (List.mem_append_right _ mk)))
          · exact Nat.ne_of_lt (hs8 q (.tail _ (List.mem_append_right _ (mR q hq))))
        refine Hold.go (hK (k + 1) ta n1 ((DL, LCg.lst ys) :: (G ++ (kl, W.listOf (List.toArray kr) kc) :: R)) _ _ _ kl kr kc ks gd og (ks.map fun x => (x, (valueAt kvs x).getD .none)) (by omega) (fun q hq => .tail _ (List.mem_append_right _ (.tail _ hq))) (off_cons hdl fun q hq => ?_) (by omega) F₁₀ (fun q hq => N₁₀ q ?_) (Nat.ne_of_gt (hs8 _ (.tail _ (List.mem_append_right _ ml)))) hgd hm hm1 hm2 rfl (.tail _ (List.mem_append_right _ (.head _))) hkr hks rfl hog hmod hkvs2 fun q hq => ?_)
        · rcases List.mem_append.mp hq with hq | hq
          · exact hGl q hq
          · exact oR q hq
        · rcases List.mem_cons.mp hq with rfl | hq
          · exact .tail _ (.tail _ (List.mem_append_right _ ml))
          rcases List.mem_cons.mp hq with rfl | hq
          · exact .head _
          rcases List.mem_cons.mp hq with rfl | hq
          · exact .tail _ (.head _)
          rcases List.mem_append.mp hq with hq | hq
          · exact .tail _ (.tail _ (List.mem_append_left _ hq))
          rcases List.mem_cons.mp hq with rfl | hq
          · exact .tail _ (.tail _ (List.mem_append_right _ mk))
          · exact .tail _ (.tail _ (List.mem_append_right _ (mR q hq)))
        · try k_fold
          obtain ⟨x, hx, rfl⟩ := List.mem_map.mp hq
          try k_fold
          obtain ⟨ng, ug, hvg, _⟩ := valueAt_int S.kv (hksm x hx)
          show valueAt kvs x = some ((valueAt kvs x).getD .none)
          rw [hvg]; rfl
end K_lawF
theorem lawF {w : World} {p : Program} {loose : List Str} {mean : ExcName → Option Value} {mg : Str → Option Value} {mb : Str → Option Value} {A : Around} {A₀ : Around} {outer : List Env} {base : Heap} {h₀ : Heap} {L : Addr} {m : Str → Option Value} {s : Shared} {Q : Flow → Shared → Prop} {E : Value → Shared → Prop} {name qual : Str} {params : Arguments} {bb : List Stmt} {scope : Scope} {dV kV doc pm cdv ct oc : Value} {an od : Option Addr} {osl : Array (Option Value)} {f lp D : Addr} {k : Int} {n : Nat} {t : Tok} {T R : List (Addr × Obj)} {kvs : List (Int × Value)} {gss : List (List Int)} {sd cl rl : Addr} (hb : (hd0.heap_1 w.params).lookup 305 = some ⟨oc, od, .func (fnOf name qual params bb scope dV kV doc pm an cdv ct), osl⟩) (C : Cx w p loose mean mg mb A A₀ (envOfC qual scope L 305 cdv) outer base h₀ L) (F : Fr h₀ L s.heap m) (N : News h₀ L s.heap ((lp, W.listOf #[.int k t] n) :: R)) (S : LawSt w p loose mean mg mb L f lp D k T R kvs gss) (hk : k ≤ 76) (hm : m ("sides" : Str) = some (.ref sd)) (hm1 : m ("covers" : Str) = some (.ref cl)) (hm2 : m ("row" : Str) = some (.ref rl)) (hd : A.depth ≤ 800) (hu : A.units ≤ 4000) (hcd : CodeHd h₀ 275 271) (hK : ∀ k t n R' m' h' tk' kl kr kn ks gd og kvs2, k ≤ 77 → (∀ q ∈ R, q ∈ R') → (∀ q ∈ R', q.1 ≠ lp) → 0 ≤ k → Fr h₀ L h' m' → News h₀ L h' ((lp, W.listOf #[.int k t] n) :: (gd, og) :: R') → gd ≠ lp → (∀ q ∈ R', q.1 ≠ gd) →
      m' ("sides" : Str) = some (.ref sd) → m' ("covers" : Str) = some (.ref cl) → m' ("row" : Str) = some (.ref rl) →
      m' ("key_row" : Str) = some (.ref kl) → (kl, W.listOf (List.toArray kr) kn) ∈ R' → IntsAre kr ks → (ks = kvs.map (·.1) ∨ ks = (kvs.map (·.1)).reverse) →
      m' ("given" : Str) = some (.ref gd) → og.IsDictOf (PySem.intKind PySem.Challenge.rw_pb0182_01.row.prog w) kvs2 → (gd == sysModules) = false → kvs2.map (·.1) = ks → (∀ q ∈ kvs2, valueAt kvs q.1 = some q.2) →
      wpC (model PySem.Challenge.rw_pb0182_01.row.prog w) A (execs (bb.drop 18) (envOfC qual scope L 305 cdv)) Q E { s with heap := h', toks := tk' }) :
    wpC (model PySem.Challenge.rw_pb0182_01.row.prog w) A (execs (bb.drop 16) (envOfC qual scope L 305 cdv)) Q E s :=
  eps_all (P := fun v => P_lawF v.1 v.2.1 v.2.2.1 v.2.2.2.1 v.2.2.2.2.1 v.2.2.2.2.2.1 v.2.2.2.2.2.2.1 v.2.2.2.2.2.2.2.1 v.2.2.2.2.2.2.2.2.1 v.2.2.2.2.2.2.2.2.2.1 v.2.2.2.2.2.2.2.2.2.2.1 v.2.2.2.2.2.2.2.2.2.2.2.1 v.2.2.2.2.2.2.2.2.2.2.2.2.1 v.2.2.2.2.2.2.2.2.2.2.2.2.2.1 v.2.2.2.2.2.2.2.2.2.2.2.2.2.2.1 v.2.2.2.2.2.2.2.2.2.2.2.2.2.2.2.1 v.2.2.2.2.2.2.2.2.2.2.2.2.2.2.2.2.1 v.2.2.2.2.2.2.2.2.2.2.2.2.2.2.2.2.2.1 v.2.2.2.2.2.2.2.2.2.2.2.2.2.2.2.2.2.2.1 v.2.2.2.2.2.2.2.2.2.2.2.2.2.2.2.2.2.2.2.1 v.2.2.2.2.2.2.2.2.2.2.2.2.2.2.2.2.2.2.2.2.1 v.2.2.2.2.2.2.2.2.2.2.2.2.2.2.2.2.2.2.2.2.2.1 v.2.2.2.2.2.2.2.2.2.2.2.2.2.2.2.2.2.2.2.2.2.2.1 v.2.2.2.2.2.2.2.2.2.2.2.2.2.2.2.2.2.2.2.2.2.2.2.1 v.2.2.2.2.2.2.2.2.2.2.2.2.2.2.2.2.2.2.2.2.2.2.2.2.1 v.2.2.2.2.2.2.2.2.2.2.2.2.2.2.2.2.2.2.2.2.2.2.2.2.2.1 v.2.2.2.2.2.2.2.2.2.2.2.2.2.2.2.2.2.2.2.2.2.2.2.2.2.2.1 v.2.2.2.2.2.2.2.2.2.2.2.2.2.2.2.2.2.2.2.2.2.2.2.2.2.2.2.1 v.2.2.2.2.2.2.2.2.2.2.2.2.2.2.2.2.2.2.2.2.2.2.2.2.2.2.2.2) (by with_unfolding_all exact K_lawF.core) (w, p, loose, mean, mg, mb, A, A₀, outer, base, h₀, L, m, s, Q, E, f, lp, D, k, n, t, T, R, kvs, gss, sd, cl, rl) name qual params bb scope dV kV doc pm cdv ct oc an od osl hb C F N S hk hm hm1 hm2 hd hu hcd hK
end
end Mine
end TextW8
section TextW9
open PySem PySem.W PyProof.Rows PySem.Calls PySem.Spec
set_option Elab.async false
set_option maxRecDepth 100000
set_option maxHeartbeats 1000000
namespace Mine
theorem fillW9 {w : World} {A : Around} {Q : Value → Shared → Prop} {E : Value → Shared → Prop} {s : Shared} (h : (hd0.heap_1 w.params).In s.heap → wpAny (model PySem.Challenge.rw_pb0182_01.row.prog w) A (call .none []) Q E s) :
    (hd0.heap_1 w.params).In s.heap → wpAny (model PySem.Challenge.rw_pb0182_01.row.prog w) A (call .none []) Q E s := by
  k_fill
  w_top off
  intro hX
  try walk1
  exact h hX
section
variable {w : World} {p : Program} {loose : List Str} {mean : ExcName → Option Value} {mg mb : Str → Option Value} {A A₀ : Around} {env : Env} {outer : List Env} {base h₀ : Heap} {L : Addr} {m : Str → Option Value} {news rest : List (Addr × Obj)} {s : Shared}
  {Q : Flow → Shared → Prop} {E : Value → Shared → Prop}
end
section
noncomputable def P_lawT (w : World) (p : Program) (loose : List Str) (mean : ExcName → Option Value) (mg : Str → Option Value) (mb : Str → Option Value) (A : Around) (A₀ : Around) (outer : List Env) (base : Heap) (h₀ : Heap) (L : Addr) (m : Str → Option Value) (s : Shared) (Q : Flow → Shared → Prop) (E : Value → Shared → Prop) (f : Addr) (lp : Addr) (D : Addr) (k : Int) (n : Nat) (t : Tok) (T : List (Addr × Obj)) (R : List (Addr × Obj)) (kvs : List (Int × Value)) (gss : List (List Int)) (sd : Addr) (cl : Addr) (rl : Addr) (kl : Addr) (gd : Addr) (og : Obj) (back : List (List Int)) (ahead : List (List Int)) : Prop := ∀ (name : Str) (qual : Str) (params : Arguments) (bb : List Stmt) (scope : Scope) (dV : Value) (kV : Value) (doc : Value) (pm : Value) (cdv : Value) (ct : Value) (oc : Value) (an : Option Addr) (od : Option Addr) (osl : Array (Option Value)) (hb : (hd0.heap_1 w.params).lookup 305 = some ⟨oc, od, .func (fnOf name qual params bb scope dV kV doc pm an cdv ct), osl⟩) (v0 : Value) (v1 : Value) (C : Cx w p loose mean mg mb A A₀ (envOfC qual scope L 305 cdv) outer base h₀ L) (F : Fr h₀ L s.heap m) (N : News h₀ L s.heap ((lp, W.listOf #[.int k t] n) :: (gd, og) :: R)) (S : LawSt w p loose mean mg mb L f lp D k T R kvs gss) (hgl : gd ≠ lp) (hgR : ∀ q ∈ R, q.1 ≠ gd) (hm : m ("sides" : Str) = some (.ref sd)) (hsd : ∃ n, (sd, W.listOf #[v0, v1] n) ∈ R) (hv0 : SideIn R v0 back) (hv1 : SideIn R v1 ahead) (hbl : back.length ≤ 3) (hal : ahead.length ≤ 3) (hm1 : m ("covers" : Str) = some (.ref cl)) (hm2 : m ("row" : Str) = some (.ref rl)) (hm3 : m ("key_row" : Str) = some (.ref kl)) (hm4 : m ("given" : Str) = some (.ref gd)) (hd : A.depth ≤ 800) (hu : A.units ≤ 4000) (hK : ∀ n R' m' h' tk' x dx tb ta t1 t2 t3 ob oa vb va kb ka, (∀ q ∈ R, q ∈ R') → (∀ q ∈ R', q.1 ≠ lp) → (∀ q ∈ R', q.1 ≠ gd) → Fr h₀ L h' m' → News h₀ L h' ((lp, W.listOf #[.int k t] n) :: (gd, og) :: R') →
      m' ("covers" : Str) = some (.ref cl) → m' ("row" : Str) = some (.ref rl) → m' ("key_row" : Str) = some (.ref kl) → m' ("given" : Str) = some (.ref gd) → m' ("table" : Str) = some (.ref x) →
      (x, instObj 260 dx) ∈ R' → (dx, revD w gd tb ta t1 t2 t3) ∈ R' → (tb, (ob : Obj)) ∈ R' → ob.cls = .type "tuple" → ob.data = .seq (List.toArray vb) kb → CovsIn w R' vb back →
      (ta, (oa : Obj)) ∈ R' → oa.cls = .type "tuple" → oa.data = .seq (List.toArray va) ka → CovsIn w R' va ahead →
      wpC (model PySem.Challenge.rw_pb0182_01.row.prog w) A (execs (bb.drop 19) (envOfC qual scope L 305 cdv)) Q E { s with heap := h', toks := tk' }),
    wpC (model PySem.Challenge.rw_pb0182_01.row.prog w) A (execs (bb.drop 18) (envOfC qual scope L 305 cdv)) Q E s
noncomputable def c_lawT := @Classical.epsilon ((World) × (Program) × (List Str) × (ExcName → Option Value) × (Str → Option Value) × (Str → Option Value) × (Around) × (Around) × (List Env) × (Heap) × (Heap) × (Addr) × (Str → Option Value) × (Shared) × (Flow → Shared → Prop) × (Value → Shared → Prop) × (Addr) × (Addr) × (Addr) × (Int) × (Nat) × (Tok) × (List (Addr × Obj)) × (List (Addr × Obj)) × (List (Int × Value)) × (List (List Int)) × (Addr) × (Addr) × (Addr) × (Addr) × (Addr) × (Obj) × (List (List Int)) × (List (List Int))) ⟨(wDef, default, [], fun _ => none, fun _ => none, fun _ => none, callerA, callerA, [], default, default, 0, fun _ => none, (PySem.start default).1, fun _ _ => True, fun _ _ => True, 0, 0, 0, 0, 0, 0, [], [], [], [], 0, 0, 0, 0, 0, default, [], [])⟩ fun v => ¬ P_lawT v.1 v.2.1 v.2.2.1 v.2.2.2.1 v.2.2.2.2.1 v.2.2.2.2.2.1 v.2.2.2.2.2.2.1 v.2.2.2.2.2.2.2.1 v.2.2.2.2.2.2.2.2.1 v.2.2.2.2.2.2.2.2.2.1 v.2.2.2.2.2.2.2.2.2.2.1 v.2.2.2.2.2.2.2.2.2.2.2.1 v.2.2.2.2.2.2.2.2.2.2.2.2.1 v.2.2.2.2.2.2.2.2.2.2.2.2.2.1 v.2.2.2.2.2.2.2.2.2.2.2.2.2.2.1 v.2.2.2.2.2.2.2.2.2.2.2.2.2.2.2.1 v.2.2.2.2.2.2.2.2.2.2.2.2.2.2.2.2.1 v.2.2.2.2.2.2.2.2.2.2.2.2.2.2.2.2.2.1 v.2.2.2.2.2.2.2.2.2.2.2.2.2.2.2.2.2.2.1 v.2.2.2.2.2.2.2.2.2.2.2.2.2.2.2.2.2.2.2.1 v.2.2.2.2.2.2.2.2.2.2.2.2.2.2.2.2.2.2.2.2.1 v.2.2.2.2.2.2.2.2.2.2.2.2.2.2.2.2.2.2.2.2.2.1 v.2.2.2.2.2.2.2.2.2.2.2.2.2.2.2.2.2.2.2.2.2.2.1 v.2.2.2.2.2.2.2.2.2.2.2.2.2.2.2.2.2.2.2.2.2.2.2.1 v.2.2.2.2.2.2.2.2.2.2.2.2.2.2.2.2.2.2.2.2.2.2.2.2.1 v.2.2.2.2.2.2.2.2.2.2.2.2.2.2.2.2.2.2.2.2.2.2.2.2.2.1 v.2.2.2.2.2.2.2.2.2.2.2.2.2.2.2.2.2.2.2.2.2.2.2.2.2.2.1 v.2.2.2.2.2.2.2.2.2.2.2.2.2.2.2.2.2.2.2.2.2.2.2.2.2.2.2.1 v.2.2.2.2.2.2.2.2.2.2.2.2.2.2.2.2.2.2.2.2.2.2.2.2.2.2.2.2.1 v.2.2.2.2.2.2.2.2.2.2.2.2.2.2.2.2.2.2.2.2.2.2.2.2.2.2.2.2.2.1 v.2.2.2.2.2.2.2.2.2.2.2.2.2.2.2.2.2.2.2.2.2.2.2.2.2.2.2.2.2.2.1 v.2.2.2.2.2.2.2.2.2.2.2.2.2.2.2.2.2.2.2.2.2.2.2.2.2.2.2.2.2.2.2.1 v.2.2.2.2.2.2.2.2.2.2.2.2.2.2.2.2.2.2.2.2.2.2.2.2.2.2.2.2.2.2.2.2.1 v.2.2.2.2.2.2.2.2.2.2.2.2.2.2.2.2.2.2.2.2.2.2.2.2.2.2.2.2.2.2.2.2.2
namespace K_lawT
@[irreducible] noncomputable def w : World := c_lawT.1
@[irreducible] noncomputable def p : Program := c_lawT.2.1
@[irreducible] noncomputable def loose : List Str := c_lawT.2.2.1
@[irreducible] noncomputable def mean : ExcName → Option Value := c_lawT.2.2.2.1
@[irreducible] noncomputable def mg : Str → Option Value := c_lawT.2.2.2.2.1
@[irreducible] noncomputable def mb : Str → Option Value := c_lawT.2.2.2.2.2.1
@[irreducible] noncomputable def A : Around := c_lawT.2.2.2.2.2.2.1
@[irreducible] noncomputable def A₀ : Around := c_lawT.2.2.2.2.2.2.2.1
@[irreducible] noncomputable def outer : List Env := c_lawT.2.2.2.2.2.2.2.2.1
@[irreducible] noncomputable def base : Heap := c_lawT.2.2.2.2.2.2.2.2.2.1
@[irreducible] noncomputable def h₀ : Heap := c_lawT.2.2.2.2.2.2.2.2.2.2.1
@[irreducible] noncomputable def L : Addr := c_lawT.2.2.2.2.2.2.2.2.2.2.2.1
@[irreducible] noncomputable def m : Str → Option Value := c_lawT.2.2.2.2.2.2.2.2.2.2.2.2.1
@[irreducible] noncomputable def s : Shared := c_lawT.2.2.2.2.2.2.2.2.2.2.2.2.2.1
@[irreducible] noncomputable def Q : Flow → Shared → Prop := c_lawT.2.2.2.2.2.2.2.2.2.2.2.2.2.2.1
@[irreducible] noncomputable def E : Value → Shared → Prop := c_lawT.2.2.2.2.2.2.2.2.2.2.2.2.2.2.2.1
@[irreducible] noncomputable def f : Addr := c_lawT.2.2.2.2.2.2.2.2.2.2.2.2.2.2.2.2.1
@[irreducible] noncomputable def lp : Addr := c_lawT.2.2.2.2.2.2.2.2.2.2.2.2.2.2.2.2.2.1
@[irreducible] noncomputable def D : Addr := c_lawT.2.2.2.2.2.2.2.2.2.2.2.2.2.2.2.2.2.2.1
@[irreducible] noncomputable def k : Int := c_lawT.2.2.2.2.2.2.2.2.2.2.2.2.2.2.2.2.2.2.2.1
@[irreducible] noncomputable def n : Nat := c_lawT.2.2.2.2.2.2.2.2.2.2.2.2.2.2.2.2.2.2.2.2.1
@[irreducible] noncomputable def t : Tok := c_lawT.2.2.2.2.2.2.2.2.2.2.2.2.2.2.2.2.2.2.2.2.2.1
@[irreducible] noncomputable def T : List (Addr × Obj) := c_lawT.2.2.2.2.2.2.2.2.2.2.2.2.2.2.2.2.2.2.2.2.2.2.1
@[irreducible] noncomputable def R : List (Addr × Obj) := c_lawT.2.2.2.2.2.2.2.2.2.2.2.2.2.2.2.2.2.2.2.2.2.2.2.1
@[irreducible] noncomputable def kvs : List (Int × Value) := c_lawT.2.2.2.2.2.2.2.2.2.2.2.2.2.2.2.2.2.2.2.2.2.2.2.2.1
@[irreducible] noncomputable def gss : List (List Int) := c_lawT.2.2.2.2.2.2.2.2.2.2.2.2.2.2.2.2.2.2.2.2.2.2.2.2.2.1
@[irreducible] noncomputable def sd : Addr := c_lawT.2.2.2.2.2.2.2.2.2.2.2.2.2.2.2.2.2.2.2.2.2.2.2.2.2.2.1
@[irreducible] noncomputable def cl : Addr := c_lawT.2.2.2.2.2.2.2.2.2.2.2.2.2.2.2.2.2.2.2.2.2.2.2.2.2.2.2.1
@[irreducible] noncomputable def rl : Addr := c_lawT.2.2.2.2.2.2.2.2.2.2.2.2.2.2.2.2.2.2.2.2.2.2.2.2.2.2.2.2.1
@[irreducible] noncomputable def kl : Addr := c_lawT.2.2.2.2.2.2.2.2.2.2.2.2.2.2.2.2.2.2.2.2.2.2.2.2.2.2.2.2.2.1
@[irreducible] noncomputable def gd : Addr := c_lawT.2.2.2.2.2.2.2.2.2.2.2.2.2.2.2.2.2.2.2.2.2.2.2.2.2.2.2.2.2.2.1
@[irreducible] noncomputable def og : Obj := c_lawT.2.2.2.2.2.2.2.2.2.2.2.2.2.2.2.2.2.2.2.2.2.2.2.2.2.2.2.2.2.2.2.1
@[irreducible] noncomputable def back : List (List Int) := c_lawT.2.2.2.2.2.2.2.2.2.2.2.2.2.2.2.2.2.2.2.2.2.2.2.2.2.2.2.2.2.2.2.2.1
@[irreducible] noncomputable def ahead : List (List Int) := c_lawT.2.2.2.2.2.2.2.2.2.2.2.2.2.2.2.2.2.2.2.2.2.2.2.2.2.2.2.2.2.2.2.2.2
theorem core : P_lawT w p loose mean mg mb A A₀ outer base h₀ L m s Q E f lp D k n t T R kvs gss sd cl rl kl gd og back ahead := by
  have st0 : Stop "all 2" := .mk
  have st1 : Stop "mem 2" := .mk
  have st2 : Stop "name local" := .mk
  have st3 : Stop "call ref" := .mk
  have st4 : Stop "call type:tuple" := .mk
  have st5 : Stop "subscriptTail" := .mk
  have st6 : Stop "eval ListComp" := .mk
  unfold P_lawT
  refine' fn_cases ?k6 ?_
  case k6 => k_is
  intro bb e v0 v1 C F N S hgl hgR hm hsd hv0 hv1 hbl hal hm1 hm2 hm3 hm4 hd hu hK
  obtain ⟨L, hL⟩ : ∃ l : Nat, l = L := ⟨L, rfl⟩
  subst hL
  refine start1 e rfl ?_
  have X' := C.X
  have T' := C.T
  have B' := C.B
  have soff := S.off
  obtain ⟨sn, hsd⟩ := hsd
  try k_fold
  obtain ⟨la, ya, rfl, hla, hta⟩ := hv0
  try k_fold
  obtain ⟨lb, yb, rfl, hlb, htb⟩ := hv1
  have hal0 := hta.length
  have hbl0 := htb.length
  refine execsC_any ?_
  k_steps
  refine Hold.go ?_
  refine comp_list (by assumption) C.hh (by with_unfolding_all rfl) (by decide) (by rfl) (by decide) (by rfl) ?_
  k_steps
  refine Hold.go (itemAt (k := 0) (items := [Value.ref la, Value.ref lb]) (x := Value.ref la) ⟨_, (N _ (.tail _ (.tail _ hsd))).1, rfl, _, rfl⟩ (by decide) (by decide) rfl ?_)
  have mla : (la, LCg.lst ya) ∈ (lp, W.listOf #[.int k t] n) :: (gd, og) :: R := .tail _ (.tail _ hla)
  have mR : ∀ q ∈ R, q ∈ (lp, W.listOf #[.int k t] n) :: (gd, og) :: R := fun q hq => .tail _ (.tail _ hq)
  have m1 : (lp, W.listOf #[.int k t] n) ∈ (lp, W.listOf #[.int k t] n) :: (gd, og) :: R := .head _
  have m2 : (gd, og) ∈ (lp, W.listOf #[.int k t] n) :: (gd, og) :: R := .tail _ (.head _)
  generalize hRe : (lp, W.listOf #[.int k t] n) :: (gd, og) :: R = R₇ at N mla mR m1 m2
  rename Fr _ _ _ _ => F₇
  refine Hold.go ⟨la, ya.toArray, _, fun i ys nw => ∃ G, nw = G ++ R₇ ∧ CovsIn w (G ++ R) ys (back.take i) ∧ ∀ q ∈ G, q.1 ≠ lp ∧ q.1 ≠ gd, rfl, F₇, N, by rw [sizeLine_eq, List.size_toArray]; omega, ⟨[], rfl, .nil, fun _ h => (List.not_mem_nil h).elim⟩,
      (fun k ys nw z => by obtain ⟨G, rfl, _⟩ := z; exact .inr ⟨_, List.mem_append_right _ mla, rfl, _, rfl⟩), fun s₂ hs₂ up₂ => ⟨?_, ?_⟩⟩
  · obtain ⟨g₂, rfl⟩ := hs₂
    intro i v ys nw I oI CC oC D' m₂ h tk E' hi' hy hP hJ hoC₂ hv F₈ N₈ off hIC hID hCD
    try k_fold
    obtain ⟨G, rfl, hys, hGl⟩ := hJ
    try k_fold
    obtain ⟨gs, hgs, tg, ogt, vg', kg, rfl, hog, hoc, hod, hig⟩ := hta.at (i := i) (by simpa using hP)
    k_steps
    refine Hold.go (cov_new C F₈ N₈ (by omega) (by omega) fun x dx tt h' tk' F₉ N₉ nx off9 => ?_)
    refine ⟨_, _, (x, instObj 210 dx) :: (dx, covD w tg tt) :: (G ++ R₇), rfl, F₉, fun q hq => N₉ q ?_, fun q hq => ?_, (x, instObj 210 dx) :: (dx, covD w tg tt) :: G, rfl, ?_, ?_⟩
    · revert q
      repeat' (first | exact sub_rf | exact List.Mem.head _ | refine sub_cons ?_ ?_ | refine List.Mem.tail _ ?_ | refine List.mem_append_right _ ?_ | exact sub_apl | refine sub_app ?_ ?_ | refine sub_tl ?_ | refine sub_apr ?_)
    · rcases List.mem_cons.mp hq with rfl | hq
      · exact ⟨(off9 (I, oI) (.head _)).2.symm, (off9 (CC, oC) (.tail _ (.head _))).2.symm, (off9 (D', LCg.lst ys) (.tail _ (.tail _ (.head _)))).2.symm⟩
      rcases List.mem_cons.mp hq with rfl | hq
      · exact ⟨(off9 (I, oI) (.head _)).1.symm, (off9 (CC, oC) (.tail _ (.head _))).1.symm, (off9 (D', LCg.lst ys) (.tail _ (.tail _ (.head _)))).1.symm⟩
      · exact off q hq
    · have hmono : ∀ q ∈ G ++ R, q ∈ (x, instObj 210 dx) :: (dx, covD w tg tt) :: G ++ R := fun q hq => List.mem_cons_of_mem _ (List.mem_cons_of_mem _ hq)
      have hone : CovsIn w ((x, instObj 210 dx) :: (dx, covD w tg tt) :: G ++ R) [.ref x] [gs] := .cons ⟨x, dx, tg, tt, ogt, vg', kg, rfl, List.mem_cons_self, List.mem_cons_of_mem _ List.mem_cons_self, hmono _ (List.mem_append_right _ hog), hoc, hod, hig⟩ .nil
      rw [List.take_add_one, hgs]
      exact (hys.mono hmono).append hone
    · have e1 := off9 (lp, W.listOf #[.int k t] n) (.tail _ (.tail _ (.tail _ (List.mem_append_right _ m1))))
      have e2 := off9 (gd, og) (.tail _ (.tail _ (.tail _ (List.mem_append_right _ m2))))
      intro q hq
      rcases List.mem_cons.mp hq with rfl | hq
      · exact ⟨e1.2.symm, e2.2.symm⟩
      rcases List.mem_cons.mp hq with rfl | hq
      · exact ⟨e1.1.symm, e2.1.symm⟩
      · exact hGl q hq
  · obtain ⟨g₂, rfl⟩ := hs₂
    intro DL h tk ys nw F₈ N₈ off hy hp1
    try k_fold
    obtain ⟨G, rfl, hcv, hGl⟩ := hp1
    rw [List.size_toArray] at hy hcv
    rw [List.take_of_length_le (by omega)] at hcv
    dsimp only
    k_steps
    refine Hold.go (tuple_new F₈ N₈ ⟨_, (N₈ _ (.head _)).1, rfl, _, rfl⟩ (fun tb h₉ F₉ N₉ l9 => ?_) (by omega))
    k_steps
    rename News _ _ _ _ => N₁₀
    rename Fr _ _ _ _ => F₁₀
    have up8 : ∀ q ∈ G ++ R₇, q ∈ (tb, ({ cls := .type "tuple", data := .seq ys.toArray } : Obj)) :: (DL, LCg.lst ys) :: (G ++ R₇) := fun q hq => .tail _ (.tail _ hq)
    have up7 : ∀ q ∈ R₇, q ∈ (tb, ({ cls := .type "tuple", data := .seq ys.toArray } : Obj)) :: (DL, LCg.lst ys) :: (G ++ R₇) := fun q hq => up8 q (List.mem_append_right _ hq)
    have q1 := up7 _ m1
    have q2 := up7 _ m2
    have qR := fun q hq => up7 q (mR q hq)
    have qtb : (tb, ({ cls := .type "tuple", data := .seq ys.toArray } : Obj)) ∈ (tb, ({ cls := .type "tuple", data := .seq ys.toArray } : Obj)) :: (DL, LCg.lst ys) :: (G ++ R₇) := .head _
    have hDl : lp ≠ DL := off _ (List.mem_append_right _ m1)
    have hDg : gd ≠ DL := off _ (List.mem_append_right _ m2)
    have htl : lp ≠ tb := Nat.ne_of_lt (l9 _ (.tail _ (List.mem_append_right _ m1)))
    have htg : gd ≠ tb := Nat.ne_of_lt (l9 _ (.tail _ (List.mem_append_right _ m2)))
    generalize hRe8 : (tb, ({ cls := .type "tuple", data := .seq ys.toArray } : Obj)) :: (DL, LCg.lst ys) :: (G ++ R₇) = R₈ at *
    refine Hold.go ?_
    refine comp_list F₁₀ C.hh (by with_unfolding_all rfl) (by decide) (by rfl) (by decide) (by rfl) ?_
    k_steps
    refine Hold.go (itemAt (k := 1) (items := [Value.ref la, Value.ref lb]) (x := Value.ref lb) ⟨_, (N₁₀ _ (qR _ hsd)).1, rfl, _, rfl⟩ (by decide) (by decide) rfl ?_)
    rename Fr _ _ _ _ => F₁₁
    have mlb := qR _ hlb
    refine Hold.go ⟨lb, yb.toArray, _, fun i ys nw => ∃ G, nw = G ++ R₈ ∧ CovsIn w (G ++ R) ys (ahead.take i) ∧ ∀ q ∈ G, q.1 ≠ lp ∧ q.1 ≠ gd, rfl, F₁₁, N₁₀, by rw [sizeLine_eq, List.size_toArray]; omega, ⟨[], rfl, .nil, fun _ h => (List.not_mem_nil h).elim⟩,
      (fun k ys nw z => by obtain ⟨G, rfl, _⟩ := z; exact .inr ⟨_, List.mem_append_right _ mlb, rfl, _, rfl⟩), fun s₂ hs₂ up₂ => ⟨?_, ?_⟩⟩
    · obtain ⟨g₂, rfl⟩ := hs₂
      intro i v ys nw I oI CC oC D' m₂ h tk E' hi' hy hP hJ hoC₂ hv F₈ N₈ off hIC hID hCD
      try k_fold
      obtain ⟨G, rfl, hys, hGl⟩ := hJ
      try k_fold
      obtain ⟨gs, hgs, tg, ogt, vg', kg, rfl, hog, hoc, hod, hig⟩ := htb.at (i := i) (by simpa using hP)
      k_steps
      refine Hold.go (cov_new C F₈ N₈ (by omega) (by omega) fun x dx tt h' tk' F₉ N₉ nx off9 => ?_)
      refine ⟨_, _, (x, instObj 210 dx) :: (dx, covD w tg tt) :: (G ++ R₈), rfl, F₉, fun q hq => N₉ q ?_, fun q hq => ?_, (x, instObj 210 dx) :: (dx, covD w tg tt) :: G, rfl, ?_, ?_⟩
      · revert q
        repeat' (first | exact sub_rf | exact List.Mem.head _ | refine sub_cons ?_ ?_ | refine List.Mem.tail _ ?_ | refine List.mem_append_right _ ?_ | exact sub_apl | refine sub_app ?_ ?_ | refine sub_tl ?_ | refine sub_apr ?_)
      · rcases List.mem_cons.mp hq with rfl | hq
        · exact ⟨(off9 (I, oI) (.head _)).2.symm, (off9 (CC, oC) (.tail _ (.head _))).2.symm, (off9 (D', LCg.lst ys) (.tail _ (.tail _ (.head _)))).2.symm⟩
        rcases List.mem_cons.mp hq with rfl | hq
        · exact ⟨(off9 (I, oI) (.head _)).1.symm, (off9 (CC, oC) (.tail _ (.head _))).1.symm, (off9 (D', LCg.lst ys) (.tail _ (.tail _ (.head _)))).1.symm⟩
        · exact off q hq
      · have hmono : ∀ q ∈ G ++ R, q ∈ (x, instObj 210 dx) :: (dx, covD w tg tt) :: G ++ R := fun q hq => List.mem_cons_of_mem _ (List.mem_cons_of_mem _ hq)
        have hone : CovsIn w ((x, instObj 210 dx) :: (dx, covD w tg tt) :: G ++ R) [.ref x] [gs] := .cons ⟨x, dx, tg, tt, ogt, vg', kg, rfl, List.mem_cons_self, List.mem_cons_of_mem _ List.mem_cons_self, hmono _ (List.mem_append_right _ hog), hoc, hod, hig⟩ .nil
        rw [List.take_add_one, hgs]
        exact (hys.mono hmono).append hone
      · have e1 := off9 (lp, W.listOf #[.int k t] n) (.tail _ (.tail _ (.tail _ (List.mem_append_right _ q1))))
        have e2 := off9 (gd, og) (.tail _ (.tail _ (.tail _ (List.mem_append_right _ q2))))
        intro q hq
        rcases List.mem_cons.mp hq with rfl | hq
        · exact ⟨e1.2.symm, e2.2.symm⟩
        rcases List.mem_cons.mp hq with rfl | hq
        · exact ⟨e1.1.symm, e2.1.symm⟩
        · exact hGl q hq
    · obtain ⟨g₂, rfl⟩ := hs₂
      intro DL2 h2 tk2 ys2 nw F₁₂ N₁₂ off2 hy2 hp1
      try k_fold
      obtain ⟨G2, rfl, hcv2, hGl2⟩ := hp1
      rw [List.size_toArray] at hy2 hcv2
      rw [List.take_of_length_le (by omega)] at hcv2
      dsimp only
      k_steps
      refine Hold.go (tuple_new F₁₂ N₁₂ ⟨_, (N₁₂ _ (.head _)).1, rfl, _, rfl⟩ (fun ta h₁₃ F₁₃ N₁₃ l13 => ?_) (by omega))
      k_steps
      refine Hold.go (reverse_new C F₁₃ N₁₃ (by omega) (by omega) fun x dx t1 t2 t3 h₁₄ tk₁₄ F₁₄ N₁₄ nx off14 => ?_)
      k_steps
      rename News _ _ _ _ => N₁₅
      rename Fr _ _ _ _ => F₁₅
      have f1 := off14 (lp, W.listOf #[.int k t] n) (.tail _ (.tail _ (List.mem_append_right _ q1)))
      have f2 := off14 (gd, og) (.tail _ (.tail _ (List.mem_append_right _ q2)))
      have f3 : lp < ta := l13 (lp, W.listOf #[.int k t] n) (.tail _ (List.mem_append_right _ q1))
      have f4 : gd < ta := l13 (gd, og) (.tail _ (List.mem_append_right _ q2))
      have f5 : lp ≠ DL2 := off2 (lp, W.listOf #[.int k t] n) (List.mem_append_right _ q1)
      have f6 : gd ≠ DL2 := off2 (gd, og) (List.mem_append_right _ q2)
      subst hRe8
      subst hRe
      have hGR : ∀ (a : Addr), (∀ q ∈ G2, q.1 ≠ a) → (∀ q ∈ G, q.1 ≠ a) → tb ≠ a → DL ≠ a → (∀ q ∈ R, q.1 ≠ a) → ∀ q ∈ G2 ++ (tb, ({ cls := .type "tuple", data := .seq ys.toArray } : Obj)) :: (DL, LCg.lst ys) :: (G ++ R), q.1 ≠ a := fun a b1 b2 b3 b4 b5 q hq => by
        rcases List.mem_append.mp hq with hq | hq
        · exact b1 q hq
        rcases List.mem_cons.mp hq with rfl | hq
        · exact b3
        rcases List.mem_cons.mp hq with rfl | hq
        · exact b4
        rcases List.mem_append.mp hq with hq | hq
        · exact b2 q hq
        · exact b5 q hq
      have iG : ∀ q ∈ G ++ R, q ∈ (x, instObj 260 dx) :: (dx, revD w gd tb ta t1 t2 t3) :: (ta, ({ cls := .type "tuple", data := .seq ys2.toArray } : Obj)) :: (DL2, LCg.lst ys2) :: (G2 ++ (tb, ({ cls := .type "tuple", data := .seq ys.toArray } : Obj)) :: (DL, LCg.lst ys) :: (G ++ R)) := fun q hq => .tail _ (.tail _ (.tail _ (.tail _ (List.mem_append_right _ (.tail _ (.tail _ hq))))))
      refine Hold.go (hK n ((x, instObj 260 dx) :: (dx, revD w gd tb ta t1 t2 t3) :: (ta, ({ cls := .type "tuple", data := .seq ys2.toArray } : Obj)) :: (DL2, LCg.lst ys2) :: (G2 ++ (tb, ({ cls := .type "tuple", data := .seq ys.toArray } : Obj)) :: (DL, LCg.lst ys) :: (G ++ R))) _ _ _ x dx tb ta t1 t2 t3 { cls := .type "tuple", data := .seq ys.toArray } { cls := .type "tuple", data := .seq ys2.toArray } ys ys2 _ _
        (fun q hq => iG q (List.mem_append_right _ hq))
        (off_cons f1.2.symm (off_cons f1.1.symm (off_cons (Nat.ne_of_gt f3) (off_cons f5.symm (hGR lp (fun q hq => (hGl2 q hq).1) (fun q hq => (hGl q hq).1) htl.symm hDl.symm soff)))))
        (off_cons f2.2.symm (off_cons f2.1.symm (off_cons (Nat.ne_of_gt f4) (off_cons f6.symm (hGR gd (fun q hq => (hGl2 q hq).2) (fun q hq => (hGl q hq).2) htg.symm hDg.symm hgR)))))
        F₁₅ (fun q hq => N₁₅ q ?_) hm1 hm2 hm3 hm4 rfl (.head _) (.tail _ (.head _)) (.tail _ (.tail _ (.tail _ (.tail _ (List.mem_append_right _ (.head _)))))) rfl rfl (hcv.mono iG) (.tail _ (.tail _ (.head _))) rfl rfl
        (hcv2.mono fun q hq => ?_))
      · revert q
        repeat' (first | exact sub_rf | exact List.Mem.head _ | refine sub_cons ?_ ?_ | refine List.Mem.tail _ ?_ | refine List.mem_append_right _ ?_ | exact sub_apl | refine sub_app ?_ ?_ | refine sub_tl ?_ | refine sub_apr ?_)
      · rcases List.mem_append.mp hq with hq | hq
        · exact .tail _ (.tail _ (.tail _ (.tail _ (List.mem_append_left _ hq))))
        · exact iG q (List.mem_append_right _ hq)
end K_lawT
theorem lawT {w : World} {p : Program} {loose : List Str} {mean : ExcName → Option Value} {mg : Str → Option Value} {mb : Str → Option Value} {A : Around} {A₀ : Around} {outer : List Env} {base : Heap} {h₀ : Heap} {L : Addr} {m : Str → Option Value} {s : Shared} {Q : Flow → Shared → Prop} {E : Value → Shared → Prop} {name qual : Str} {params : Arguments} {bb : List Stmt} {scope : Scope} {dV kV doc pm cdv ct oc : Value} {an od : Option Addr} {osl : Array (Option Value)} {f lp D : Addr} {k : Int} {n : Nat} {t : Tok} {T R : List (Addr × Obj)} {kvs : List (Int × Value)} {gss : List (List Int)} {sd cl rl kl gd : Addr} {og : Obj} {v0 v1 : Value} {back ahead : List (List Int)} (hb : (hd0.heap_1 w.params).lookup 305 = some ⟨oc, od, .func (fnOf name qual params bb scope dV kV doc pm an cdv ct), osl⟩) (C : Cx w p loose mean mg mb A A₀ (envOfC qual scope L 305 cdv) outer base h₀ L) (F : Fr h₀ L s.heap m) (N : News h₀ L s.heap ((lp, W.listOf #[.int k t] n) :: (gd, og) :: R)) (S : LawSt w p loose mean mg mb L f lp D k T R kvs gss) (hgl : gd ≠ lp) (hgR : ∀ q ∈ R, q.1 ≠ gd) (hm : m ("sides" : Str) = some (.ref sd)) (hsd : ∃ n, (sd, W.listOf #[v0, v1] n) ∈ R) (hv0 : SideIn R v0 back) (hv1 : SideIn R v1 ahead) (hbl : back.length ≤ 3) (hal : ahead.length ≤ 3) (hm1 : m ("covers" : Str) = some (.ref cl)) (hm2 : m ("row" : Str) = some (.ref rl)) (hm3 : m ("key_row" : Str) = some (.ref kl)) (hm4 : m ("given" : Str) = some (.ref gd)) (hd : A.depth ≤ 800) (hu : A.units ≤ 4000) (hK : ∀ n R' m' h' tk' x dx tb ta t1 t2 t3 ob oa vb va kb ka, (∀ q ∈ R, q ∈ R') → (∀ q ∈ R', q.1 ≠ lp) → (∀ q ∈ R', q.1 ≠ gd) → Fr h₀ L h' m' → News h₀ L h' ((lp, W.listOf #[.int k t] n) :: (gd, og) :: R') →
      m' ("covers" : Str) = some (.ref cl) → m' ("row" : Str) = some (.ref rl) → m' ("key_row" : Str) = some (.ref kl) → m' ("given" : Str) = some (.ref gd) → m' ("table" : Str) = some (.ref x) →
      (x, instObj 260 dx) ∈ R' → (dx, revD w gd tb ta t1 t2 t3) ∈ R' → (tb, (ob : Obj)) ∈ R' → ob.cls = .type "tuple" → ob.data = .seq (List.toArray vb) kb → CovsIn w R' vb back →
      (ta, (oa : Obj)) ∈ R' → oa.cls = .type "tuple" → oa.data = .seq (List.toArray va) ka → CovsIn w R' va ahead →
      wpC (model PySem.Challenge.rw_pb0182_01.row.prog w) A (execs (bb.drop 19) (envOfC qual scope L 305 cdv)) Q E { s with heap := h', toks := tk' }) :
    wpC (model PySem.Challenge.rw_pb0182_01.row.prog w) A (execs (bb.drop 18) (envOfC qual scope L 305 cdv)) Q E s :=
  eps_all (P := fun v => P_lawT v.1 v.2.1 v.2.2.1 v.2.2.2.1 v.2.2.2.2.1 v.2.2.2.2.2.1 v.2.2.2.2.2.2.1 v.2.2.2.2.2.2.2.1 v.2.2.2.2.2.2.2.2.1 v.2.2.2.2.2.2.2.2.2.1 v.2.2.2.2.2.2.2.2.2.2.1 v.2.2.2.2.2.2.2.2.2.2.2.1 v.2.2.2.2.2.2.2.2.2.2.2.2.1 v.2.2.2.2.2.2.2.2.2.2.2.2.2.1 v.2.2.2.2.2.2.2.2.2.2.2.2.2.2.1 v.2.2.2.2.2.2.2.2.2.2.2.2.2.2.2.1 v.2.2.2.2.2.2.2.2.2.2.2.2.2.2.2.2.1 v.2.2.2.2.2.2.2.2.2.2.2.2.2.2.2.2.2.1 v.2.2.2.2.2.2.2.2.2.2.2.2.2.2.2.2.2.2.1 v.2.2.2.2.2.2.2.2.2.2.2.2.2.2.2.2.2.2.2.1 v.2.2.2.2.2.2.2.2.2.2.2.2.2.2.2.2.2.2.2.2.1 v.2.2.2.2.2.2.2.2.2.2.2.2.2.2.2.2.2.2.2.2.2.1 v.2.2.2.2.2.2.2.2.2.2.2.2.2.2.2.2.2.2.2.2.2.2.1 v.2.2.2.2.2.2.2.2.2.2.2.2.2.2.2.2.2.2.2.2.2.2.2.1 v.2.2.2.2.2.2.2.2.2.2.2.2.2.2.2.2.2.2.2.2.2.2.2.2.1 v.2.2.2.2.2.2.2.2.2.2.2.2.2.2.2.2.2.2.2.2.2.2.2.2.2.1 v.2.2.2.2.2.2.2.2.2.2.2.2.2.2.2.2.2.2.2.2.2.2.2.2.2.2.1 v.2.2.2.2.2.2.2.2.2.2.2.2.2.2.2.2.2.2.2.2.2.2.2.2.2.2.2.1 v.2.2.2.2.2.2.2.2.2.2.2.2.2.2.2.2.2.2.2.2.2.2.2.2.2.2.2.2.1 v.2.2.2.2.2.2.2.2.2.2.2.2.2.2.2.2.2.2.2.2.2.2.2.2.2.2.2.2.2.1 v.2.2.2.2.2.2.2.2.2.2.2.2.2.2.2.2.2.2.2.2.2.2.2.2.2.2.2.2.2.2.1 v.2.2.2.2.2.2.2.2.2.2.2.2.2.2.2.2.2.2.2.2.2.2.2.2.2.2.2.2.2.2.2.1 v.2.2.2.2.2.2.2.2.2.2.2.2.2.2.2.2.2.2.2.2.2.2.2.2.2.2.2.2.2.2.2.2.1 v.2.2.2.2.2.2.2.2.2.2.2.2.2.2.2.2.2.2.2.2.2.2.2.2.2.2.2.2.2.2.2.2.2) (by with_unfolding_all exact K_lawT.core) (w, p, loose, mean, mg, mb, A, A₀, outer, base, h₀, L, m, s, Q, E, f, lp, D, k, n, t, T, R, kvs, gss, sd, cl, rl, kl, gd, og, back, ahead) name qual params bb scope dV kV doc pm cdv ct oc an od osl hb v0 v1 C F N S hgl hgR hm hsd hv0 hv1 hbl hal hm1 hm2 hm3 hm4 hd hu hK
end
end Mine
end TextW9
section TextE6
open PySem PySem.W PyProof.Rows PySem.Calls PySem.Spec
set_option Elab.async false
set_option maxRecDepth 100000
set_option maxHeartbeats 1000000
namespace Mine
theorem fillE6 {w : World} {A : Around} {Q : Value → Shared → Prop} {E : Value → Shared → Prop} {s : Shared} (h : (hd0.heap_1 w.params).In s.heap → wpAny (model PySem.Challenge.rw_pb0182_01.row.prog w) A (call .none []) Q E s) :
    (hd0.heap_1 w.params).In s.heap → wpAny (model PySem.Challenge.rw_pb0182_01.row.prog w) A (call .none []) Q E s := by
  k_fill
  w_top off
  intro hX
  try walk1
  exact h hX
section
variable {w : World} {p : Program} {loose : List Str} {mean : ExcName → Option Value} {mg mb : Str → Option Value} {A A₀ : Around} {env : Env} {outer : List Env} {base h₀ : Heap} {L : Addr} {m : Str → Option Value} {news rest : List (Addr × Obj)} {s : Shared}
  {Q E : Value → Shared → Prop}
theorem refused_ok {x dt dm tb ta : Addr} {t1 t2 t3 : Tok} {om ob oa : Obj} {vb va : List Value} {kb ka : Nat} {kvs : List (Int × Value)} {back ahead : List (List Int)} (C : Cx w p loose mean mg mb A A₀ env outer base h₀ L) (F : Fr h₀ L s.heap m) (N : News h₀ L s.heap news)
   (Xb : (hd0.heap_1 w.params).In base) (Tb : Top p loose mean mg mb base)
   (hx : (x, instObj 260 dt) ∈ news) (hdt : (dt, revD w dm tb ta t1 t2 t3) ∈ news) (hdm : (dm, om) ∈ news) (hom : om.IsDictOf (PySem.intKind PySem.Challenge.rw_pb0182_01.row.prog w) kvs) (lom : (dm == sysModules) = false)
   (htb : (tb, ob) ∈ news) (hobc : ob.cls = .type "tuple") (hobd : ob.data = .seq vb.toArray kb) (hB : CovsIn w news vb back)
   (hta : (ta, oa) ∈ news) (hoac : oa.cls = .type "tuple") (hoad : oa.data = .seq va.toArray ka) (hA' : CovsIn w news va ahead)
   (hkl : kvs.length ≤ 10) (hbl : back.length ≤ 5) (hal : ahead.length ≤ 5)
   (hks : ∀ k ∈ kvs.map (·.1), 0 ≤ k ∧ k < 10 ^ 6) (hbk : ∀ l ∈ back ++ ahead, l.length ≤ 10 ∧ ∀ g ∈ l, 0 ≤ g ∧ g < 65536)
   (hvs : ∀ k ∈ kvs.map (·.1), ∃ n t, valueAt kvs k = some (.int n t) ∧ 0 ≤ n ∧ n < 10 ^ 9)
   (hd : A.depth ≤ 830) (hu : A.units ≤ 4300) (hbad : ¬ ((∀ k ∈ kvs.map (·.1), k < 65536) ∧ ∀ k ∈ kvs.map (·.1), valI kvs k < 65536))
   (hret : ∀ h' tk', base.StaysIn h' → Q (.bool true) { s with heap := h', toks := tk' }) :
   wpC (model PySem.Challenge.rw_pb0182_01.row.prog w) A (call (.ref 300) [.ref x]) Q E s := by
  have st0 : Stop "mem 2" := .mk
  refine wpC_call ?_
  k_dflt (refine' enterC_raw C F N ?k6 ?k7 ?k8 ?k9 ?kB ?_ ?c2 ?c3 ?c4 ?c5)
  case k6 => k_is
  case k7 => k_is
  case k8 => exact Nat.lt_of_le_of_lt hd (by decide)
  case k9 => first | exact BindsTo.of_eq rfl | exact binds_K (C.X.keeps F.keep) rfl (by k_is) rfl rfl rfl
  case c5 => decide
  case kB => exact locs rfl
  case c2 => exact rfl
  case c3 => exact rfl
  case c4 => exact rfl
  intro g' L' h₁ C₁ F₁ N₁ G₁ l1
  have X₁ := C₁.X
  have T₁ := C₁.T
  have B₁ := C₁.B
  first | (refine foldA ?_; intro qC eC) | (refine foldC ?_; intro qC eC)
  refine execsC_cons (tryC (execsC_cons (exprC (callNameC ?_))))
  k_steps
  rename News _ _ _ _ => N₂
  rename Fr _ _ _ _ => F₂
  refine callWithC (P := fun h => (hd0.heap_1 w.params).In h) (by rfl) (keeps_K (by k_is)) (splicedC_cons (wpC_any (wpAny_eqv (if_neg Bool.false_ne_true) ?_)))
  k_steps
  rename News _ _ _ _ => N₃
  rename Fr _ _ _ _ => F₃
  refine splicedC_nil ⟨X₁.keeps F₃.keep, ?_⟩
  refine write_reverse_ok C₁ F₃ N₃ hx hdt hdm hom lom htb hobc hobd hB hta hoac hoad hA' hkl hbl hal hks hbk hvs (Nat.le_trans (Nat.add_le_add_right hd 1) (by decide)) (Nat.le_trans (Nat.add_le_add_right hu 3) (by decide)) (fun _ x' h' tk' e => ?_) (fun gs hp _ h1 h2 => ?_)
  · obtain ⟨g₂, gsz, hg₂⟩ := ground_base C₁.B.stays
    have above := F₃.above
    rw [← gsz] at above
    have ns₃ := F₃.ns
    have hA₁ := C₁.hA
    clear C₁; try clear X₁
    try clear T₁
    try clear B₁
    try clear N₁
    try clear N₂
    try clear N₃
    try clear F₁
    try clear F₂
    try clear F₃
    try clear N
    try clear F
    have X₂ : (hd0.heap_1 w.params).In g₂ := Xb.keeps fun b o e => (hg₂ b o).mpr e
    have T₂ : Top p loose mean mg mb g₂ := Tb.keeps fun b o e => (hg₂ b o).mpr e
    refine exc_note hA₁ rfl e fun h2 e2 => ?_
    refine exc_setFlight e2 fun h3 e3 => ?_
    refine wpAny_handleBy_cons (codeAny_handlers_test ?_) (by intro q; cases q)
    have N' : News g₂ L' h3 [] := fun q hq => by cases hq
    have F' : Fr g₂ L' h3 _ := ⟨e3.1.ns ns₃ (by simp), fun b o q => e3.2.2.1 b o ((hg₂ b o).mp q), above⟩
    k_steps
    obtain ⟨oe, vs, q1, q2, q3, q4⟩ := e3.2.2.2.2.2
    have hC := (Xb.keeps e3.2.2.1) 68 _ (by k_is)
    refine wpAny_excMatches_sub_self hC q1 q2 (by decide) ?_
    refine codeAny_handlers_suite ?_
    refine exc_setFlight e3 fun h4 e4 => ?_
    have N₄ : News g₂ L' h4 [] := fun q hq => by cases hq
    have F₄ : Fr g₂ L' h4 _ := ⟨e4.1.ns ns₃ (by simp), fun b o q => e4.2.2.1 b o ((hg₂ b o).mp q), above⟩
    try clear N'
    try clear F'
    k_steps
    exact hret _ _ e4.2.2.1
  · exact absurd ⟨fun k hk => h1 k (hp.mem_iff.mpr hk), fun k hk => h2 k (hp.mem_iff.mpr hk)⟩ hbad
end
end Mine
end TextE6
section TextO1
open PySem PySem.W PyProof.Rows PySem.Calls PySem.Spec
set_option Elab.async false
set_option maxRecDepth 100000
set_option maxHeartbeats 1000000
namespace Mine
section
variable {M : Model} {A : Around} {E : Value → Shared → Prop} {s : Shared} {env : Env}
theorem isTrueC_or {x : Expr} {rest : List Expr} {pos : Pos} {whole : Sem Value} {Q : Bool → Shared → Prop}
    (h : wpC M A (isTrue x env (eval x env)) (fun b s' => if b then Q true s' else wpC M A (isTrue (.BoolOp .Or rest pos) env whole) Q E s') E s) :
    wpC M A (isTrue (.BoolOp .Or (x :: rest) pos) env whole) Q E s := by
  rw [arm_isTrue_BoolOp]
  rw [arm_allTrue_cons]
  refine wpC_bind (wpC_mono h (fun b s' h' => ?_) fun _ _ z => z)
  cases b
  · exact h'
  · exact wpC_pure h'
theorem isTrueC_cmp {l : Expr} {ops : List CmpOp} {cs : List Expr} {pos : Pos} {whole : Sem Value} {Q : Bool → Shared → Prop}
    (h : wpC M A (eval l env) (fun v s' => wpC M A (testChain pos v ops (markedEach ops cs (evalEach cs env))) Q E s') E s) :
    wpC M A (isTrue (.Compare l ops cs pos) env whole) Q E s := by
  rw [arm_isTrue_Compare]
  exact wpC_bind h
end
end Mine
end TextO1
section TextZ1
open PySem PySem.W PyProof.Rows PySem.Calls PySem.Spec
set_option Elab.async false
set_option maxRecDepth 100000
set_option maxHeartbeats 1000000
namespace Mine
theorem idx_app {bg : Int} {cs : List (List UInt8)} {c a : List UInt8} (h : c ∈ cs) : offOf bg (cs ++ [a]) c = offOf bg cs c := by
  have hl : cs.idxOf c < cs.length := List.idxOf_lt_length_iff.mpr h
  unfold offOf
  rw [List.idxOf_append, if_pos h, List.take_append_of_le_length (Nat.le_of_lt hl)]
theorem idx_new {bg : Int} {cs : List (List UInt8)} {a : List UInt8} (h : a ∉ cs) : offOf bg (cs ++ [a]) a = bg + (cs.flatten.length : Int) := by
  unfold offOf
  rw [List.idxOf_append, if_neg h, List.idxOf_cons_self, Nat.zero_add, List.take_left' rfl]
  congr 1
  induction cs with
  | nil => rfl
  | cons c r ih =>
    rw [List.map_cons, List.sum_cons, ih (fun z => h (.tail _ z)), List.flatten_cons, List.length_append, Int.natCast_add]
theorem find_place {cs : List (List UInt8)} {f : List UInt8 → Int} (a : List UInt8) : ((cs.map fun c => (c, f c)).find? fun p => p.1 = a) = (if a ∈ cs then some (a, f a) else none) := by
  induction cs with
  | nil => simp
  | cons c r ih =>
    rw [List.map_cons, List.find?_cons]
    by_cases h : c = a
    · subst h; simp
    · have h' : a ≠ c := fun z => h z.symm
      simp only [h, decide_false, ih, List.mem_cons, h', false_or]
theorem laid_law (bg : Int) (bs : List (List UInt8)) : laidS bg bs = (bs.map (offOf bg (firsts bs)), (firsts bs).map (fun c => (c, offOf bg (firsts bs) c)), (firsts bs).flatten) := by
  have key : ∀ l : List (List UInt8), laidS bg l.reverse = (l.reverse.map (offOf bg (firsts l.reverse)), (firsts l.reverse).map (fun c => (c, offOf bg (firsts l.reverse) c)), (firsts l.reverse).flatten) := by
    intro l
    induction l with
    | nil => rfl
    | cons a r ih =>
      rw [List.reverse_cons, laidS_snoc, ih]
      unfold laidStep
      dsimp only
      rw [find_place, firsts_snoc]
      by_cases h : a ∈ firsts r.reverse
      · have hany : (firsts r.reverse).any (fun x => decide (x = a)) = true := List.any_eq_true.mpr ⟨a, h, by simp⟩
        rw [if_pos h, if_pos hany]
        simp
      · have hany : ¬ (firsts r.reverse).any (fun x => decide (x = a)) = true := fun z => by
          obtain ⟨x, hx, hxa⟩ := List.any_eq_true.mp z
          have : x = a := by simpa using hxa
          exact h (this ▸ hx)
        rw [if_neg h, if_neg hany]
        dsimp only
        have e1 : ∀ c ∈ r.reverse, offOf bg (firsts r.reverse ++ [a]) c = offOf bg (firsts r.reverse) c := fun c hc => idx_app (firsts_mem.mp hc)
        have e2 : ∀ c ∈ firsts r.reverse, offOf bg (firsts r.reverse ++ [a]) c = offOf bg (firsts r.reverse) c := fun c hc => idx_app hc
        have e1' : r.reverse.map (offOf bg (firsts r.reverse ++ [a])) = r.reverse.map (offOf bg (firsts r.reverse)) := List.map_congr_left e1
        have e3 : (firsts r.reverse).map (fun c => (c, offOf bg (firsts r.reverse ++ [a]) c)) = (firsts r.reverse).map (fun c => (c, offOf bg (firsts r.reverse) c)) := List.map_congr_left fun c hc => by rw [e2 c hc]
        rw [List.map_append, List.map_append, List.map_cons, List.map_cons, List.map_nil, List.map_nil, idx_new h, List.flatten_append, List.flatten_cons, List.flatten_nil, List.append_nil, e1', e3]
  have := key bs.reverse
  rwa [List.reverse_reverse] at this
end Mine
end TextZ1
section TextZ2
open PySem PySem.W PyProof.Rows PySem.Calls PySem.Spec
set_option Elab.async false
set_option maxRecDepth 100000
set_option maxHeartbeats 1000000
namespace Mine
theorem rev_law (kvs : List (Int × Value)) (back ahead : List (List Int)) :
    revBytes (kvs.map (·.1)) ((kvs.map (·.1)).map (valI kvs)) back ahead =
      ((rowOf kvs back.length ahead.length ((kvs.map (·.1) :: back ++ ahead).map fun gs => offOf (10 + 2 * ((back.length : Int) + ahead.length + kvs.length)) (firsts ((kvs.map (·.1) :: back ++ ahead).map coverBytes)) (coverBytes gs))).map two).flatten
        ++ (firsts ((kvs.map (·.1) :: back ++ ahead).map coverBytes)).flatten := by
  unfold revBytes
  rw [laid_law]
  dsimp only
  rw [List.length_map]
  generalize hwg : kvs.map (·.1) :: back ++ ahead = wg
  generalize hcs : firsts (wg.map coverBytes) = cs
  rw [List.map_map]
  show _ = ((rowOf kvs back.length ahead.length (wg.map (offOf _ cs ∘ coverBytes))).map two).flatten ++ cs.flatten
  generalize wg.map (offOf _ cs ∘ coverBytes) = offs
  unfold rowOf
  simp only [List.map_append, List.map_cons, List.map_nil, List.flatten_append, List.flatten_cons, List.flatten_nil, List.append_nil, List.append_assoc]
end Mine
end TextZ2
section TextW10
open PySem PySem.W PyProof.Rows PySem.Calls PySem.Spec
set_option Elab.async false
set_option maxRecDepth 100000
set_option maxHeartbeats 1000000
namespace Mine
theorem fillW10 {w : World} {A : Around} {Q : Value → Shared → Prop} {E : Value → Shared → Prop} {s : Shared} (h : (hd0.heap_1 w.params).In s.heap → wpAny (model PySem.Challenge.rw_pb0182_01.row.prog w) A (call .none []) Q E s) :
    (hd0.heap_1 w.params).In s.heap → wpAny (model PySem.Challenge.rw_pb0182_01.row.prog w) A (call .none []) Q E s := by
  k_fill
  w_top off
  intro hX
  try walk1
  exact h hX
section
variable {w : World} {p : Program} {loose : List Str} {mean : ExcName → Option Value} {mg mb : Str → Option Value} {A A₀ : Around} {env : Env} {outer : List Env} {base h₀ : Heap} {L : Addr} {m : Str → Option Value} {news rest : List (Addr × Obj)} {s : Shared}
  {Q : Flow → Shared → Prop} {E : Value → Shared → Prop}
theorem list_dict {d : Addr} {o : Obj} {kvs : List (Int × Value)} {prog : Program} {Q : Value → Shared → Prop} (hh : A.handled = none) (F : Fr h₀ L s.heap m) (N : News h₀ L s.heap news) (hp : (d, o) ∈ news) (hd : o.IsDictOf (PySem.intKind prog w) kvs) (lo : (d == sysModules) = false) (hn : kvs.length ≤ 1000)
    (h : ∀ D vs c h' tk, Fr h₀ L h' m → News h₀ L h' ((D, PySem.W.listOf (List.toArray vs) c) :: news) → (∀ q ∈ news, q.1 < D) → IntsAre vs (kvs.map (·.1)) → Q (.ref D) { s with heap := h', toks := tk }) :
    wpAny (model prog w) A (call (.type "list") [.ref d]) Q E s := by
  obtain ⟨ep, hat⟩ := (kda_dict N hp hd).dictAt
  refine kdl_N (kdl_dict (knd := PySem.intKind prog w) (kvs := kvs) (ep := ep) lo) hh F N hat (kdl_size (by omega)) fun B c h' tk vs F' N' l1 hl hv => ?_
  exact h B vs c h' tk F' N' l1 (items_ints s (acc := vs.toArray) ⟨by rw [List.size_toArray, hl], fun j v e => hv j v (by simpa using e)⟩)
theorem hits_same {A : Around} {s : Shared} {kvs : List (Int × Value)} {l : List (Int × Value)} (h : ∀ q ∈ l, valueAt kvs q.1 = some q.2 ∧ ∃ n t, q.2 = .int n t) : KeqHits A s kvs l true := by
  induction l with
  | nil => exact .nil
  | cons q r ih =>
    obtain ⟨k, v⟩ := q
    try k_fold
    obtain ⟨e, n, t, rfl⟩ := h (k, v) (.head _)
    have e2 : SeqAt.EqAt A s (.int n t) (.int n t) true := by
      have := keq_flat (A := A) (s := s) (PyProof.V.Flat.int n t) (PyProof.V.Flat.int n t)
      simpa [PyData.eqv] using this
    exact .hit (e := true) (b := true) e e2 (ih fun q hq => h q (.tail _ hq))
theorem two_len : ∀ l : List Int, ((l.map two).flatten).length = 2 * l.length
  | [] => rfl
  | a :: r => by rw [List.map_cons, List.flatten_cons, List.length_append, two_len r]; simp [two]; omega
theorem lawG {name qual : Str} {params : Arguments} {bb : List Stmt} {scope : Scope} {dV kV doc pm cdv ct oc : Value} {an od : Option Addr} {osl : Array (Option Value)} {f lp D : Addr} {k : Int} {n : Nat} {t : Tok} {T R : List (Addr × Obj)} {kvs kvs2 : List (Int × Value)} {gss : List (List Int)}
    {cl rl kl gd x dx tb ta : Addr} {t1 t2 t3 : Tok} {og ob oa : Obj} {vb va rr cc kr : List Value} {kb ka rn cn kn : Nat} {back ahead : List (List Int)} {ks rw' : List Int} {cs : List (List UInt8)}
    (hb : (hd0.heap_1 w.params).lookup 305 = some ⟨oc, od, .func (fnOf name qual params bb scope dV kV doc pm an cdv ct), osl⟩)
    (C : Cx w p loose mean mg mb A A₀ (envOfC qual scope L 305 cdv) outer base h₀ L) (F : Fr h₀ L s.heap m) (N : News h₀ L s.heap ((lp, W.listOf #[.int k t] n) :: (gd, og) :: R))
    (hm1 : m ("covers" : Str) = some (.ref cl)) (hm2 : m ("row" : Str) = some (.ref rl)) (hm3 : m ("key_row" : Str) = some (.ref kl)) (hm4 : m ("given" : Str) = some (.ref gd)) (hm5 : m ("table" : Str) = some (.ref x))
    (S : LawSt w p loose mean mg mb L f lp D k T R kvs gss) (hxR : (x, instObj 260 dx) ∈ R) (hdxR : (dx, revD w gd tb ta t1 t2 t3) ∈ R) (htb : (tb, ob) ∈ R) (hobc : ob.cls = .type "tuple") (hobd : ob.data = .seq (List.toArray vb) kb) (hB : CovsIn w R vb back)
    (hta : (ta, oa) ∈ R) (hoac : oa.cls = .type "tuple") (hoad : oa.data = .seq (List.toArray va) ka) (hA' : CovsIn w R va ahead) (hbl : back.length ≤ 3) (hal : ahead.length ≤ 3) (fb : Fine back) (fa : Fine ahead)
    (hog : og.IsDictOf (PySem.intKind PySem.Challenge.rw_pb0182_01.row.prog w) kvs2) (lom2 : (gd == sysModules) = false) (hks2 : kvs2.map (·.1) = ks) (hks : ks = kvs.map (·.1) ∨ ks = (kvs.map (·.1)).reverse) (hval : ∀ q ∈ kvs2, valueAt kvs q.1 = some q.2) (hkR : (kl, W.listOf (List.toArray kr) kn) ∈ R) (hkr : IntsAre kr ks)
    (hrl : (rl, W.listOf (List.toArray rr) rn) ∈ R) (hrr : IntsAre rr rw') (hrw : ∀ n ∈ rw', 0 ≤ n ∧ n < 65536) (hrwl : rw'.length ≤ 1000) (hcl : (cl, W.listOf (List.toArray cc) cn) ∈ R) (hcc : BytesAre cc cs)
    (hcz : cs.flatten.length ≤ 100000) (hlaw : (rw'.map two).flatten ++ cs.flatten = revBytes (kvs.map (·.1)) ((kvs.map (·.1)).map (valI kvs)) back ahead)
    (hd : A.depth ≤ 800) (hu : A.units ≤ 4000) 
    (hK : ∀ h' tk', Fr h₀ L h' m → News h₀ L h' ((lp, W.listOf #[.int k t] n) :: (gd, og) :: R) → wpC (model PySem.Challenge.rw_pb0182_01.row.prog w) A (execs (bb.drop 20) (envOfC qual scope L 305 cdv)) Q E { s with heap := h', toks := tk' }) :
    wpC (model PySem.Challenge.rw_pb0182_01.row.prog w) A (execs (bb.drop 19) (envOfC qual scope L 305 cdv)) Q E s := by
  have st0 : Stop "all 2" := .mk
  have st1 : Stop "mem 2" := .mk
  have st2 : Stop "name local" := .mk
  have st3 : Stop "call ref" := .mk
  have st4 : Stop "call builtin:bytes.join" := .mk
  have st5 : Stop "compareOp NotEq bytes bytes" := .mk
  have st6 : Stop "compareOp NotEq ref ref" := .mk
  have st7 : Stop "call type:list" := .mk
  have st8 : Stop "join" := .mk
  revert name qual params bb scope dV kV doc pm cdv ct oc an od osl
  refine' no_implicit_lambda% (fn_cases ?k6 ?_)
  case k6 => k_is
  intro bb e C hK
  obtain ⟨L, hL⟩ : ∃ l : Nat, l = L := ⟨L, rfl⟩
  subst hL
  refine start1 e rfl ?_
  have X' := C.X
  have T' := C.T
  have B' := C.B
  refine execsC_cons (ifC (isTrueC_or (isTrueC_cmp (callNameC ?_))))
  try k_fold
  k_steps
  refine callWithC (P := fun h => (hd0.heap_1 w.params).In h) (by rfl) (keeps_K (by k_is)) (splicedC_cons (wpC_any (wpAny_eqv (if_neg Bool.false_ne_true) ?_)))
  try k_fold
  k_steps
  rename News _ _ _ _ => N₁
  rename Fr _ _ _ _ => F₁
  have up : ∀ q ∈ R, q ∈ (lp, W.listOf #[.int k t] n) :: (gd, og) :: R := fun q hq => .tail _ (.tail _ hq)
  have hksm : ∀ y ∈ ks, y ∈ kvs.map (·.1) := by rcases hks with rfl | rfl <;> intro y hy <;> simpa using hy
  have hv2 : ∀ q ∈ kvs2, ∃ n t, q.2 = .int n t ∧ 0 ≤ n ∧ n < 65536 := fun q hq => by
    try k_fold
    obtain ⟨nq, tq, e1, e2, e3⟩ := valueAt_int S.kv (hksm q.1 (hks2 ▸ List.mem_map_of_mem hq))
    have e4 := hval q hq
    rw [e1] at e4
    exact ⟨nq, tq, (Option.some.inj e4).symm, e2, e3⟩
  refine splicedC_nil ⟨X'.keeps F₁.keep, ?_⟩
  refine write_reverse_ok C F₁ N₁ (up _ hxR) (up _ hdxR) (.tail _ (.head _)) hog lom2 (up _ htb) hobc hobd (hB.mono up) (up _ hta) hoac hoad (hA'.mono up) ?_ (by omega) (by omega) ?_ ?_ ?_ (by omega) (by omega) (fun hbad => ?_) (fun gs hp hs h1 h2 tw h₂ tk₂ F₂ N₂ => ?_)
  · have h1 := congrArg List.length hks2
    rw [List.length_map] at h1
    have h2 : ks.length = kvs.length := by rcases hks with rfl | rfl <;> simp
    have := S.kl
    omega
  · intro y hy
    rw [hks2] at hy
    have := S.kk y (hksm y hy)
    omega
  · intro l hl
    rcases List.mem_append.mp hl with hl | hl
    · exact ⟨by have := (fb l hl).1; omega, fun g hg => by have := (fb l hl).2 g hg; omega⟩
    · exact ⟨by have := (fa l hl).1; omega, fun g hg => by have := (fa l hl).2 g hg; omega⟩
  · intro y hy
    try k_fold
    obtain ⟨ny, ty, e1, e2, e3⟩ := valueAt_int hv2 hy
    exact ⟨ny, ty, e1, e2, by omega⟩
  · refine absurd ⟨fun y hy => ?_, fun y hy => ?_⟩ hbad
    · rw [hks2] at hy
      have := S.kk y (hksm y hy)
      omega
    · try k_fold
      obtain ⟨ny, ty, e1, e2, e3⟩ := valueAt_int hv2 hy
      unfold valI
      rw [e1]
      exact e3
  · have hgs : gs = kvs.map (·.1) := by
      have hpk : gs.Perm (kvs.map (·.1)) := by
        rw [hks2] at hp
        rcases hks with rfl | rfl
        · exact hp
        · exact hp.trans (List.reverse_perm _)
      exact sorted_unique hpk (hs.imp Int.le_of_lt) S.kp
    subst hgs
    refine wpC_any ?_
    try k_fold
    k_steps
    rw [markedBehindIn_of_false (by rfl)]
    try k_fold
    k_steps
    refine Hold.go (two_ok C F₂ N₂ (up _ hrl) hrr hrw hrwl (by omega) (by omega) fun t2' h₃ tk₃ F₃ N₃ => ?_)
    try k_fold
    k_steps
    rename News _ _ _ _ => N₄
    rename Fr _ _ _ _ => F₄
    have hrwz : ((rw'.map two).flatten).length ≤ 2000 := by rw [two_len]; omega
    refine Hold.go (BJ.call_join ⟨_, (N₄ _ (up _ hcl)).1, rfl, _, rfl⟩ hcc (by omega) fun t' k' => ?_)
    refine KBy.add_bytes (by rw [List.size_toArray, List.size_toArray]; omega) fun t'' k'' => ?_
    try k_fold
    k_steps
    refine Hold.go (ne_bytes ?_)
    have hsame : (kvs.map (·.1)).map (valI kvs2) = (kvs.map (·.1)).map (valI kvs) := by
      refine List.map_congr_left fun y hy => ?_
      have hy2 : y ∈ kvs2.map (·.1) := by
        rw [hks2]
        rcases hks with rfl | rfl
        · exact hy
        · exact List.mem_reverse.mpr hy
      try k_fold
      obtain ⟨q, hq, hqk⟩ := List.mem_map.mp hy2
      unfold valI
      cases hf : kvs2.find? (fun p => p.1 = y) with
      | none => exact absurd (List.find?_eq_none.mp hf q hq) (by simp [hqk])
      | some r =>
        have e1 : r.1 = y := by simpa using List.find?_some hf
        have e2 := hval r (List.mem_of_find?_eq_some hf)
        rw [e1] at e2
        rw [e2, show valueAt kvs2 y = some r.2 from by unfold valueAt; rw [hf]; rfl]
    rw [hsame, ← hlaw, List.append_toArray, bne_self_eq_false]
    try k_fold
    k_steps
    try k_fold
    obtain ⟨ob₂, z2, hob₂⟩ := S.c2
    try k_fold
    obtain ⟨om, zm, hom⟩ := S.dm
    refine wpC_any ?_
    try k_fold
    k_steps
    have hlen2 : kvs2.length = kvs.length := by
      have h1 := congrArg List.length hks2
      rw [List.length_map] at h1
      have h2 : ks.length = kvs.length := by rcases hks with rfl | rfl <;> simp
      omega
    have hkl5 := S.kl
    rename News _ _ _ _ => N₅
    rename Fr _ _ _ _ => F₅
    have hu' : A.units + 64 < cLine := Nat.lt_of_le_of_lt (Nat.add_le_add_right hu 64) (by decide)
    refine Hold.go (kne_pairs (knd := PySem.intKind PySem.Challenge.rw_pb0182_01.row.prog w) N₅ (.tail _ (.head _)) (up _ zm) hog hom lom2 S.lom hlen2 (by omega) (hits_same fun q hq => ⟨hval q hq, by obtain ⟨nq, tq, e, _⟩ := hv2 q hq; exact ⟨nq, tq, e⟩⟩) ?_)
    try k_fold
    k_steps
    refine Hold.go (list_dict C.hh F₅ N₅ (.tail _ (.head _)) hog lom2 (by omega) fun Dk vk ck h₆ tk₆ F₆ N₆ l6 hI6 => ?_)
    try k_fold
    k_steps
    rw [hks2] at hI6
    refine Hold.go (ne_intsK ⟨_, (N₆ _ (.head _)).1, rfl, _, rfl⟩ hI6 ⟨_, (N₆ _ (.tail _ (up _ hkR))).1, rfl, _, rfl⟩ hkr hu' ?_)
    rw [decide_eq_true rfl]
    try k_fold
    k_steps
    exact execsC_nil (hK _ _ F₆ fun q hq => N₆ q (.tail _ hq))
end
end Mine
end TextW10
section TextW11
open PySem PySem.W PyProof.Rows PySem.Calls PySem.Spec
set_option Elab.async false
set_option maxRecDepth 100000
set_option maxHeartbeats 1000000
namespace Mine
theorem fillW11 {w : World} {A : Around} {Q : Value → Shared → Prop} {E : Value → Shared → Prop} {s : Shared} (h : (hd0.heap_1 w.params).In s.heap → wpAny (model PySem.Challenge.rw_pb0182_01.row.prog w) A (call .none []) Q E s) :
    (hd0.heap_1 w.params).In s.heap → wpAny (model PySem.Challenge.rw_pb0182_01.row.prog w) A (call .none []) Q E s := by
  k_fill
  w_top off
  intro hX
  try walk1
  exact h hX
section
variable {w : World} {p : Program} {loose : List Str} {mean : ExcName → Option Value} {mg mb : Str → Option Value} {A A₀ : Around} {env : Env} {outer : List Env} {base h₀ : Heap} {L : Addr} {m : Str → Option Value} {news rest : List (Addr × Obj)} {s : Shared}
  {Q : Flow → Shared → Prop} {E : Value → Shared → Prop}
theorem CovsIn.monoC {w : World} {nw nw' : List (Addr × Obj)} (h : ∀ p ∈ nw, p.2.cls ≠ .none → p ∈ nw') : ∀ {vs : List Value} {gss : List (List Int)}, CovsIn w nw vs gss → CovsIn w nw' vs gss := by
  intro vs gss H
  induction H with
  | nil => exact .nil
  | cons c _ ih =>
    try k_fold
    obtain ⟨cv, dx, tg, tt, og, vs, k, e, h1, h2, h3, h4, r⟩ := c
    exact .cons ⟨cv, dx, tg, tt, og, vs, k, e, h _ h1 (by intro q; cases q), h _ h2 (by intro q; cases q), h _ h3 (by rw [h4]; intro q; cases q), h4, r⟩ ih
theorem stored_len {kvs : List (Int × Value)} {y : Int} {v : Value} : (stored kvs y v).length ≤ kvs.length + 1 := by
  unfold stored
  split
  · rw [List.length_map]; omega
  · rw [List.length_append]; exact Nat.le_refl _
theorem stored_mem {kvs : List (Int × Value)} {y : Int} {v : Value} {q : Int × Value} (h : q ∈ stored kvs y v) : (q.1 = y ∧ q.2 = v) ∨ q ∈ kvs := by
  unfold stored at h
  split at h
  · try k_fold
    obtain ⟨r, hr, e⟩ := List.mem_map.mp h
    split at e
    · rename_i hy; subst e; exact .inl ⟨hy, rfl⟩
    · subst e; exact .inr hr
  · rcases List.mem_append.mp h with h | h
    · exact .inr h
    · rw [List.mem_singleton.mp h]; exact .inl ⟨rfl, rfl⟩
theorem stored_at {y : Int} {v : Value} : ∀ {kvs : List (Int × Value)}, y ∈ (stored kvs y v).map (·.1) ∧ valueAt (stored kvs y v) y = some v := by
  intro kvs
  by_cases h : y ∈ kvs.map (·.1)
  · have hs : stored kvs y v = kvs.map (fun kv => if kv.1 = y then (kv.1, v) else kv) := by
      unfold stored
      rw [if_pos]
      try k_fold
      obtain ⟨q, hq, e⟩ := List.mem_map.mp h
      exact List.any_eq_true.mpr ⟨q, hq, by simp [e]⟩
    rw [hs]
    constructor
    · rw [List.map_map]
      try k_fold
      obtain ⟨q, hq, e⟩ := List.mem_map.mp h
      refine List.mem_map.mpr ⟨q, hq, ?_⟩
      show (if q.1 = y then (q.1, v) else q).1 = y
      rw [if_pos e]; exact e
    · clear hs
      induction kvs with
      | nil => cases h
      | cons a r ih =>
        unfold valueAt
        rw [List.map_cons]
        by_cases ha : a.1 = y
        · rw [if_pos ha, List.find?_cons_of_pos (by simp [ha])]; rfl
        · rw [if_neg ha, List.find?_cons_of_neg (by simp [ha])]
          refine ih ?_
          rcases List.mem_cons.mp h with h | h
          · exact absurd h.symm ha
          · exact h
  · rw [stored_app h]
    refine ⟨by simp, ?_⟩
    unfold valueAt
    rw [List.find?_append, List.find?_eq_none.mpr fun q hq => by
      intro e
      exact h (List.mem_map.mpr ⟨q, hq, by simpa using e⟩)]
    simp
theorem valueAt_some {P : Value → Prop} {kvs : List (Int × Value)} (hv : ∀ q ∈ kvs, P q.2) {y : Int} (hy : y ∈ kvs.map (·.1)) : ∃ v, valueAt kvs y = some v ∧ P v := by
  try k_fold
  obtain ⟨q, hq, hqk⟩ := List.mem_map.mp hy
  unfold valueAt
  cases hf : kvs.find? (fun p => p.1 = y) with
  | none => exact absurd (List.find?_eq_none.mp hf q hq) (by simp [hqk])
  | some r => exact ⟨r.2, rfl, hv r (List.mem_of_find?_eq_some hf)⟩
theorem ledger_271 {h₀ g₂ h : Heap} {L : Addr} {news : List (Addr × Obj)} {ps : Array Value} (N : News h₀ L h news) (ht : (271, tabObj ps) ∈ news) (goth : ∀ b, b ≠ 271 → g₂.get? b = h₀.get? b) :
    ∃ news', News g₂ L h news' ∧ ∀ q ∈ news, q.2.cls ≠ .none → q ∈ news' := by
  refine ⟨news.filter fun q => decide (q.1 ≠ 271), fun q hq => ?_, fun q hq hc => List.mem_filter.mpr ⟨hq, decide_eq_true fun e => ?_⟩⟩
  · obtain ⟨h1, h2⟩ := List.mem_filter.mp hq
    exact ⟨(N q h1).1, (N q h1).2.1, (goth q.1 (of_decide_eq_true h2)).trans (N q h1).2.2⟩
  · have e1 := (N q hq).1
    rw [e, (N _ ht).1] at e1
    exact hc (by rw [← Option.some.inj e1])
theorem dict_cls {o : Obj} {kvs : List (Int × Value)} {prog : Program} (h : o.IsDictOf (PySem.intKind prog w) kvs) : o.cls ≠ .none := by
  try k_fold
  obtain ⟨es, ep, h1, _⟩ := h
  rw [h1.1]
  intro q
  cases q
theorem lawH {name qual : Str} {params : Arguments} {bb : List Stmt} {scope : Scope} {dV kV doc pm cdv ct oc : Value} {an od : Option Addr} {osl : Array (Option Value)} {f lp D : Addr} {k : Int} {n : Nat} {t : Tok} {T R : List (Addr × Obj)} {kvs kvs2 : List (Int × Value)} {gss : List (List Int)}
    {gd x dx tb ta : Addr} {t1 t2 t3 : Tok} {og ob oa : Obj} {vb va : List Value} {kb ka : Nat} {back ahead : List (List Int)} {ks : List Int}
    (hb : (hd0.heap_1 w.params).lookup 305 = some ⟨oc, od, .func (fnOf name qual params bb scope dV kV doc pm an cdv ct), osl⟩)
    (C : Cx w p loose mean mg mb A A₀ (envOfC qual scope L 305 cdv) [] h₀ h₀ L) (F : Fr h₀ L s.heap m) (N : News h₀ L s.heap ((lp, W.listOf #[.int k t] n) :: (gd, og) :: R))
    (hm4 : m ("given" : Str) = some (.ref gd)) (hm5 : m ("table" : Str) = some (.ref x)) (hgl : gd ≠ lp) (hgR : ∀ q ∈ R, q.1 ≠ gd) (hk : k ≤ 77) (hcd : CodeHd h₀ 275 271)
    (S : LawSt w p loose mean mg mb L f lp D k T R kvs gss) (hxR : (x, instObj 260 dx) ∈ R) (hdxR : (dx, revD w gd tb ta t1 t2 t3) ∈ R) (htb : (tb, ob) ∈ R) (hobc : ob.cls = .type "tuple") (hobd : ob.data = .seq (List.toArray vb) kb) (hB : CovsIn w R vb back)
    (hta : (ta, oa) ∈ R) (hoac : oa.cls = .type "tuple") (hoad : oa.data = .seq (List.toArray va) ka) (hA' : CovsIn w R va ahead) (hbl : back.length ≤ 3) (hal : ahead.length ≤ 3) (fb : Fine back) (fa : Fine ahead)
    (hog : og.IsDictOf (PySem.intKind PySem.Challenge.rw_pb0182_01.row.prog w) kvs2) (lom2 : (gd == sysModules) = false) (hks2 : kvs2.map (·.1) = ks) (hks : ks = kvs.map (·.1) ∨ ks = (kvs.map (·.1)).reverse) (hval : ∀ q ∈ kvs2, valueAt kvs q.1 = some q.2)
    (hd : A.depth ≤ 800) (hu : A.units ≤ 4000)
    (hgr : ∀ ps, ∃ g₂ : Heap, g₂.objs.size = h₀.objs.size ∧ g₂.get? 271 = some (tabObj ps) ∧ ∀ b, b ≠ 271 → g₂.get? b = h₀.get? b)
    (hQ : ∀ h' tk', h₀.StaysIn h' → GrownAt 271 h' → Q (.ret (.bool true)) { s with heap := h', toks := tk' }) :
    wpC (model PySem.Challenge.rw_pb0182_01.row.prog w) A (execs (bb.drop 20) (envOfC qual scope L 305 cdv)) Q E s := by
  have st0 : Stop "all 2" := .mk
  have st1 : Stop "mem 2" := .mk
  have st2 : Stop "name local" := .mk
  have st3 : Stop "call ref" := .mk
  have st4 : Stop "setItem" := .mk
  have st5 : Stop "subscriptTail" := .mk
  revert name qual params bb scope dV kV doc pm cdv ct oc an od osl
  refine' no_implicit_lambda% (fn_cases ?k6 ?_)
  case k6 => k_is
  intro bb e C
  obtain ⟨L, hL⟩ : ∃ l : Nat, l = L := ⟨L, rfl⟩
  subst hL
  refine start2E e rfl (fun a21' h21 => ?_)
  have X' := C.X
  have T' := C.T
  have B' := C.B
  try k_fold
  obtain ⟨foc, fod, ffd, fsl, hfm⟩ := S.isf
  have hfr := S.hT _ hfm
  try k_fold
  obtain ⟨oa₁, z1, hoa₁⟩ := S.c1
  have soff := S.off
  have hk0 := S.k0
  have pk := hold (And.intro hxR (And.intro hdxR (And.intro htb hta)))
  clear hxR hdxR htb hta
  refine execsC_any ?_
  try k_fold
  k_steps
  rename News _ _ _ _ => N₁
  rename Fr _ _ _ _ => F₁
  have N₂ : News h₀ L _ ((lp, W.listOf #[.int k t] n) :: _) := fun q hq => N₁ q (by
    rcases List.mem_cons.mp hq with rfl | hq
    · exact .tail _ (.head _)
    rcases List.mem_cons.mp hq with rfl | hq
    · exact .head _
    · exact .tail _ (.tail _ hq))
  rename _ ∧ _ ∧ AllLt _ _ => lD
  refine Hold.go (take_call S.tok C F₁ N₂ hcd (fun q hq => .tail _ (.tail _ (S.hT q hq))) (off_cons (Nat.ne_of_gt lD.1) (off_cons hgl soff)) hk0 (by omega) (by decide) (by decide) (by omega) (by omega) fun x1 tb tc n1 h₃ tk₃ hv0 hv1 F₃ N₃ => ?_)
  refine Hold.go (menuAt (ns := [5, 70000]) (tup_src N₃ (.tail _ (.head _)) rfl rfl) (.cons _ _ (.cons _ _ .nil)) hv0 hv1 (by decide) fun nm tm hnm => ?_)
  try k_fold
  k_steps
  have hkvl : kvs2.length ≤ 5 := by
    have h1 := congrArg List.length hks2
    rw [List.length_map] at h1
    have h2 : ks.length = kvs.length := by rcases hks with rfl | rfl <;> simp
    have := S.kl
    omega
  refine Hold.go (kda_set (knd := PySem.intKind PySem.Challenge.rw_pb0182_01.row.prog w) (k := nm) F₃ N₃ (.tail hgl.symm (.tail (Nat.ne_of_gt lD.2.1) (.head hgR))) hog (by show Value.isInt nm (Value.int nm tm) = true; simp [Value.isInt]) (by rw [sizeLine_eq]; omega) fun h₄ o₄ F₄ N₄ ho₄ => ?_)
  have hnm2 : 0 ≤ nm ∧ nm < 10 ^ 6 := by
    simp only [List.mem_cons, List.not_mem_nil, or_false] at hnm
    omega
  have hksm : ∀ y ∈ ks, y ∈ kvs.map (·.1) := by rcases hks with rfl | rfl <;> intro y hy <;> simpa using hy
  have hv2 : ∀ q ∈ kvs2, ∃ n t, q.2 = .int n t ∧ 0 ≤ n ∧ n < 65536 := fun q hq => by
    try k_fold
    obtain ⟨nq, tq, e1, e2, e3⟩ := valueAt_int S.kv (hksm q.1 (hks2 ▸ List.mem_map_of_mem hq))
    have e4 := hval q hq
    rw [e1] at e4
    exact ⟨nq, tq, (Option.some.inj e4).symm, e2, e3⟩
  have hkk2 : ∀ q ∈ kvs2, 0 ≤ q.1 ∧ q.1 < 2000 := fun q hq => S.kk q.1 (hksm q.1 (hks2 ▸ List.mem_map_of_mem hq))
  generalize htv : Value.int 65536 _ = vbig at ho₄ 
  have hst := stored_at (y := nm) (v := vbig) (kvs := kvs2)
  have hlen3 : (stored kvs2 nm vbig).length ≤ 10 := Nat.le_trans stored_len (by omega)
  have hkeys3 : ∀ q ∈ stored kvs2 nm vbig, 0 ≤ q.1 ∧ q.1 < 10 ^ 6 := fun q hq => by
    rcases stored_mem hq with ⟨e, _⟩ | e
    · rw [e]; exact hnm2
    · have := hkk2 q e; omega
  have hvals3 : ∀ q ∈ stored kvs2 nm vbig, ∃ n t, q.2 = .int n t ∧ 0 ≤ n ∧ n < 10 ^ 9 := fun q hq => by
    rcases stored_mem hq with ⟨_, e⟩ | e
    · exact ⟨65536, _, e.trans htv.symm, by decide, by decide⟩
    · try k_fold
      obtain ⟨n, t, e1, e2, e3⟩ := hv2 q e
      exact ⟨n, t, e1, e2, by omega⟩
  have hbad : ¬ ((∀ k ∈ (stored kvs2 nm vbig).map (·.1), k < 65536) ∧ ∀ k ∈ (stored kvs2 nm vbig).map (·.1), valI (stored kvs2 nm vbig) k < 65536) := fun hall => by
    have h1 := hall.2 nm hst.1
    unfold valI at h1
    rw [hst.2, ← htv] at h1
    exact absurd (show (65536 : Int) < 65536 from h1) (by decide)
  generalize hkv3 : stored kvs2 nm vbig = kvs3 at ho₄ hlen3 hkeys3 hvals3 hbad
  clear hst hnm hnm2 hkk2 hv2 hksm htv
  try k_fold
  k_steps
  subst h21
  refine Hold.go (execsC_cons (returnC (callNameC ?_)))
  replace hcd := hold hcd
  try k_fold
  k_steps
  refine callWithC (P := fun h => (hd0.heap_1 w.params).In h) (by rfl) (keeps_K (by k_is)) (splicedC_cons (wpC_any (wpAny_eqv (if_neg Bool.false_ne_true) ?_)))
  try k_fold
  k_steps
  rename News _ _ _ _ => N₅
  rename Fr _ _ _ _ => F₅
  refine splicedC_nil ⟨X'.keeps F₅.keep, ?_⟩
  obtain ⟨ps, htab⟩ := S.tab
  try k_fold
  obtain ⟨hxR, hdxR, htb, hta⟩ := unhide pk
  try k_fold
  obtain ⟨g₂, gsz, g271, goth⟩ := hgr ps
  obtain ⟨R₅, N₅, upR, hgd⟩ : ∃ R₅, News h₀ L h₄ R₅ ∧ (∀ q ∈ R, q ∈ R₅) ∧ (gd, o₄) ∈ R₅ := ⟨_, N₅, fun q hq => .tail _ (.tail _ (.tail _ hq)), .tail _ (.tail _ (.head _))⟩
  have n271 : h₀.get? 271 = none := (N₅ _ (upR _ htab)).2.2
  have up2 : ∀ b o, h₀.get? b = some o → g₂.get? b = some o := fun b o e => by
    by_cases hb : b = 271
    · subst hb; rw [n271] at e; cases e
    · rw [goth b hb]; exact e
  have C₂ : Cx w p loose mean mg mb A A₀ _ [] g₂ g₂ L := ⟨⟨C.B.stack, fun _ _ e => e, trivial⟩, C.X.keeps up2, C.T.keeps up2, up2 _ _ C.b0, C.hA, C.hf, C.hk, C.hh, C.hG⟩
  have F₂' : Fr g₂ L _ _ := ⟨F₅.ns, fun b o e => by
    by_cases hb : b = 271
    · subst hb; rw [g271] at e; cases e; exact (N₅ _ (upR _ htab)).1
    · rw [goth b hb] at e; exact F₅.keep b o e, by rw [gsz]; exact F₅.above⟩
  try k_fold
  obtain ⟨R', N', keepR⟩ := ledger_271 N₅ (upR _ htab) goth
  have dn : ∀ {a b : Addr}, (instObj a b).cls ≠ .none := fun q => by cases q
  refine refused_ok C₂ F₂' N' C₂.X C₂.T (keepR _ (upR _ hxR) dn) (keepR _ (upR _ hdxR) (fun q => by cases q)) (keepR (gd, o₄) hgd (dict_cls ho₄)) ho₄ lom2
    (keepR _ (upR _ htb) (by rw [hobc]; exact fun q => by cases q)) hobc hobd (hB.monoC fun q hq hc => keepR _ (upR _ hq) hc) (keepR _ (upR _ hta) (by rw [hoac]; exact fun q => by cases q)) hoac hoad (hA'.monoC fun q hq hc => keepR _ (upR _ hq) hc)
    hlen3 (by omega) (by omega) (fun y hy => ?_) (fun l hl => ?_) (fun y hy => ?_) (by omega) (by omega) hbad (fun h' tk' st => hQ h' tk' (fun b o e => st b o (up2 b o e)) ⟨ps, st 271 _ g271⟩)
  · try k_fold
    obtain ⟨q, hq, rfl⟩ := List.mem_map.mp hy
    exact hkeys3 q hq
  · rcases List.mem_append.mp hl with hl | hl
    · exact ⟨by have := (fb l hl).1; omega, fun g hg => by have := (fb l hl).2 g hg; omega⟩
    · exact ⟨by have := (fa l hl).1; omega, fun g hg => by have := (fa l hl).2 g hg; omega⟩
  · try k_fold
    obtain ⟨v, e, n, t, rfl, h1, h2⟩ := valueAt_some (P := fun v => ∃ n t, v = .int n t ∧ 0 ≤ n ∧ n < 10 ^ 9) hvals3 hy
    exact ⟨n, t, e, h1, h2⟩
end
end Mine
end TextW11
section TextT3
open PySem PySem.W PyProof.Rows PySem.Calls PySem.Spec
set_option Elab.async false
set_option maxRecDepth 100000
set_option maxHeartbeats 1000000
namespace Mine
theorem flat_len {c : Nat} : ∀ {l : List (List UInt8)}, (∀ x ∈ l, x.length ≤ c) → l.flatten.length ≤ c * l.length
  | [], _ => by simp
  | a :: r, h => by
    have h1 := h a (.head _)
    have h2 := flat_len (l := r) fun x hx => h x (.tail _ hx)
    rw [List.flatten_cons, List.length_append, List.length_cons, Nat.mul_succ]
    omega
theorem take_sum : ∀ (l : List (List UInt8)) (i : Nat), 0 ≤ ((l.take i).map fun x => (x.length : Int)).sum ∧ ((l.take i).map fun x => (x.length : Int)).sum ≤ (l.flatten.length : Int)
  | [], i => by simp
  | a :: r, 0 => ⟨Int.le_refl _, Int.natCast_nonneg _⟩
  | a :: r, i + 1 => by
    have h := take_sum r i
    rw [List.take_succ_cons, List.map_cons, List.sum_cons, List.flatten_cons, List.length_append]
    omega
theorem row_len {kvs : List (Int × Value)} {nb na : Nat} {offs : List Int} (h1 : offs.length = 1 + nb + na) : (rowOf kvs nb na offs).length = 5 + nb + na + kvs.length := by
  unfold rowOf
  simp only [List.length_append, List.length_cons, List.length_nil, List.length_map, List.length_take, List.length_drop, ar_min2 h1, ar_drop h1]
  omega
theorem row_ok {kvs : List (Int × Value)} {nb na : Nat} {offs : List Int} (h1 : offs.length = 1 + nb + na) (h2 : ∀ o ∈ offs, 0 ≤ o ∧ o < 65536) (hb : nb ≤ 3) (ha : na ≤ 3) (hl : kvs.length ≤ 5) (hv : ∀ q ∈ kvs, ∃ n t, q.2 = .int n t ∧ 0 ≤ n ∧ n < 65536) :
    ∀ n ∈ rowOf kvs nb na offs, 0 ≤ n ∧ n < 65536 := by
  intro n hn
  unfold rowOf at hn
  rcases List.mem_append.mp hn with hn | hn
  · rcases List.mem_append.mp hn with hn | hn
    · rcases List.mem_append.mp hn with hn | hn
      · rcases List.mem_append.mp hn with hn | hn
        · rcases List.mem_append.mp hn with hn | hn
          · simp only [List.mem_cons, List.not_mem_nil, or_false] at hn
            rcases hn with rfl | rfl | rfl
            · decide
            · cases offs with
              | nil => decide
              | cons o r => exact h2 o (.head _)
            · omega
          · exact h2 n (List.mem_of_mem_drop (List.mem_of_mem_take hn))
        · rw [List.mem_singleton.mp hn]; omega
      · exact h2 n (List.mem_of_mem_drop hn)
    · rw [List.mem_singleton.mp hn]; omega
  · obtain ⟨k, hk, rfl⟩ := List.mem_map.mp hn
    obtain ⟨n, t, e, z1, z2⟩ := valueAt_int hv hk
    unfold valI
    rw [e]
    exact ⟨z1, z2⟩
theorem covers_small {kvs : List (Int × Value)} {back ahead : List (List Int)} (hl : kvs.length ≤ 5) (hbl : back.length ≤ 3) (hal : ahead.length ≤ 3) (fb : Fine back) (fa : Fine ahead) :
    (firsts ((kvs.map (·.1) :: back ++ ahead).map coverBytes)).flatten.length ≤ 98 := by
  have h1 : ∀ gs ∈ kvs.map (·.1) :: back ++ ahead, gs.length ≤ 5 := fun gs hg => by
    rw [List.cons_append] at hg
    rcases List.mem_cons.mp hg with rfl | hg
    · rw [List.length_map]; exact hl
    rcases List.mem_append.mp hg with hg | hg
    · exact (fb gs hg).1
    · exact (fa gs hg).1
  have h2 : ∀ x ∈ firsts ((kvs.map (·.1) :: back ++ ahead).map coverBytes), x.length ≤ 14 := fun x hx => by
    obtain ⟨gs, hg, rfl⟩ := List.mem_map.mp (firsts_mem.mpr hx)
    have := cover_size gs
    have := h1 gs hg
    omega
  have h3 := flat_len h2
  have h4 : (firsts ((kvs.map (·.1) :: back ++ ahead).map coverBytes)).length ≤ 7 := Nat.le_trans (firsts_len _) (by rw [List.length_map, List.cons_append, List.length_cons, List.length_append]; omega)
  omega
section
variable {w : World} {p : Program} {loose : List Str} {mean : ExcName → Option Value} {mg mb : Str → Option Value} {A A₀ : Around} {env : Env} {outer : List Env} {base h₀ : Heap} {L : Addr} {m : Str → Option Value} {news rest : List (Addr × Obj)} {s : Shared}
  {Q : Flow → Shared → Prop} {E : Value → Shared → Prop}
theorem law_ok {name qual : Str} {params : Arguments} {bb : List Stmt} {scope : Scope} {dV kV doc pm cdv ct oc : Value} {an od : Option Addr} {osl : Array (Option Value)} {ls : Addr} {vs : List Value} {ns : List Int} {o1 o2 o3 : Obj}
    (hb : (hd0.heap_1 w.params).lookup 305 = some ⟨oc, od, .func (fnOf name qual params bb scope dV kV doc pm an cdv ct), osl⟩)
    (C : Cx w p loose mean mg mb A A₀ (envOfC qual scope L 305 cdv) [] h₀ h₀ L) (F : Fr h₀ L s.heap m) (N : News h₀ L s.heap [(L + 1, o1), (L + 1 + 1, o2), (L + 1 + 1 + 1, o3), (271, tabObj #[])])
    (ho1 : o1.data = .cell none) (ho2 : o2.data = .cell none) (ho3 : o3.data = .cell none) (hm : m ("script" : Str) = some (.ref ls))
    (hd : A.depth ≤ 800) (hu : A.units ≤ 4000) (hcd : CodeHd h₀ 275 271) (hl : h₀.IsList ls vs.toArray) (hi : IntsAre vs ns) (hlen : ns.length ≤ 63) (h271 : 271 < L)
    (hE : PassesOwn (model PySem.Challenge.rw_pb0182_01.row.prog w) A (envOfC qual scope L 305 cdv) E)
    (hgr : ∀ ps, ∃ g₂ : Heap, g₂.objs.size = h₀.objs.size ∧ g₂.get? 271 = some (tabObj ps) ∧ ∀ b, b ≠ 271 → g₂.get? b = h₀.get? b)
    (hQ : ∀ h' tk', h₀.StaysIn h' → GrownAt 271 h' → Q (.ret (.bool true)) { s with heap := h', toks := tk' }) :
    wpC (model PySem.Challenge.rw_pb0182_01.row.prog w) A (execs bb (envOfC qual scope L 305 cdv)) Q E s := by
  refine lawA hb C F N ho1 ho2 ho3 hm hd hu hcd hl hi hlen h271 hE fun f lp D k t n T R kvs gss m₁ h₁ tk₁ hk₁ S₁ F₁ N₁ => ?_
  refine lawB hb C F₁ N₁ S₁ hk₁ hd hu hcd hE fun k t n R m₂ h₂ tk₂ sd v0 v1 back ahead hk₂ S₂ F₂ N₂ ms₂ hsd₂ hv0 hv1 hbl hal fb fa => ?_
  clear S₁ N₁ F₁
  refine lawC hb C F₂ N₂ S₂ ms₂ hsd₂ hv0 hv1 hbl hal fb fa hd hu hE fun n R₃ m₃ h₃ tk₃ wl ww wn cl cc cn up₃ off₃ F₃ N₃ ms₃ mw₃ hwl hww mc₃ hcl hcc => ?_
  have S₃ := S₂.mono up₃ off₃ S₂.k0
  obtain ⟨sn, hsd₃⟩ := hsd₂
  have hsd₃ : ∃ n, (sd, W.listOf #[v0, v1] n) ∈ R₃ := ⟨sn, up₃ _ hsd₃⟩
  have hv0 := hv0.mono up₃
  have hv1 := hv1.mono up₃
  clear S₂ N₂ F₂ ms₂ 
  refine lawD hb C F₃ N₃ S₃ ms₃ hsd₃ hv0 hv1 hbl hal fb fa mw₃ hwl hww mc₃ hcl hcc hd hu hE fun n R₄ m₄ h₄ tk₄ ol oo on up₄ off₄ F₄ N₄ ms₄ mc₄ mo₄ hol hoo => ?_
  have S₄ := S₃.mono up₄ off₄ S₃.k0
  obtain ⟨sn, hsd₄⟩ := hsd₃
  have hsd₄ : ∃ n, (sd, W.listOf #[v0, v1] n) ∈ R₄ := ⟨sn, up₄ _ hsd₄⟩
  have hv0 := hv0.mono up₄
  have hv1 := hv1.mono up₄
  have hcl := up₄ _ hcl
  clear S₃ N₃ F₃ ms₃ mw₃ mc₃ hwl hww
  refine lawE hb C F₄ N₄ S₄ ms₄ hsd₄ hv0 hv1 hbl hal mo₄ hol hoo (by rw [List.length_map, List.cons_append, List.length_cons, List.length_append]; omega) ⟨_, mc₄⟩ hd hu fun n R₅ m₅ h₅ tk₅ rl rr rn up₅ off₅ F₅ N₅ ms₅ mc₅ mr₅ hrl hrr => ?_
  have S₅ := S₄.mono up₅ off₅ S₄.k0
  obtain ⟨sn, hsd₅⟩ := hsd₄
  have hsd₅ : ∃ n, (sd, W.listOf #[v0, v1] n) ∈ R₅ := ⟨sn, up₅ _ hsd₅⟩
  have hv0 := hv0.mono up₅
  have hv1 := hv1.mono up₅
  have hcl := up₅ _ hcl
  rw [mc₄] at mc₅
  clear S₄ N₄ F₄ ms₄ mo₄ mc₄ hol hoo
  refine lawF hb C F₅ N₅ S₅ hk₂ ms₅ mc₅ mr₅ hd hu hcd fun k t n R₆ m₆ h₆ tk₆ kl kr kn ks gd og kvs2 hk₆ up₆ off₆ k0₆ F₆ N₆ hgl hgR ms₆ mc₆ mr₆ mk₆ hkl hkr hks mg₆ hog lom2 hks2 hval => ?_
  have S₆ := S₅.mono up₆ off₆ k0₆
  obtain ⟨sn, hsd₆⟩ := hsd₅
  have hsd₆ : ∃ n, (sd, W.listOf #[v0, v1] n) ∈ R₆ := ⟨sn, up₆ _ hsd₆⟩
  have hv0 := hv0.mono up₆
  have hv1 := hv1.mono up₆
  have hcl := up₆ _ hcl
  have hrl := up₆ _ hrl
  clear S₅ N₅ F₅ ms₅ mc₅ mr₅
  refine lawT hb C F₆ N₆ S₆ hgl hgR ms₆ hsd₆ hv0 hv1 hbl hal mc₆ mr₆ mk₆ mg₆ hd hu fun n R₇ m₇ h₇ tk₇ x dx tb ta t1 t2 t3 ob oa vb va kb ka up₇ off₇ offg₇ F₇ N₇ mc₇ mr₇ mk₇ mg₇ mt₇ hxR hdxR htb hobc hobd hB hta hoac hoad hA' => ?_
  have S₇ := S₆.mono up₇ off₇ k0₆
  have hcz := covers_small S₇.kl hbl hal fb fa
  have hlenk := S₇.kl
  have hoff : ∀ o ∈ (kvs.map (·.1) :: back ++ ahead).map (fun gs => offOf (10 + 2 * ((back.length : Int) + ahead.length + kvs.length)) (firsts ((kvs.map (·.1) :: back ++ ahead).map coverBytes)) (coverBytes gs)), 0 ≤ o ∧ o < 65536 := fun o ho => by
    obtain ⟨gs, _, rfl⟩ := List.mem_map.mp ho
    have := take_sum (firsts ((kvs.map (·.1) :: back ++ ahead).map coverBytes)) ((firsts ((kvs.map (·.1) :: back ++ ahead).map coverBytes)).idxOf (coverBytes gs))
    show 0 ≤ _ + _ ∧ _ + _ < _
    omega
  have hol : ((kvs.map (·.1) :: back ++ ahead).map (fun gs => offOf (10 + 2 * ((back.length : Int) + ahead.length + kvs.length)) (firsts ((kvs.map (·.1) :: back ++ ahead).map coverBytes)) (coverBytes gs))).length = 1 + back.length + ahead.length := by
    rw [List.length_map, List.cons_append, List.length_cons, List.length_append]; omega
  refine lawG hb C F₇ N₇ mc₇ mr₇ mk₇ mg₇ mt₇ S₇ hxR hdxR htb hobc hobd hB hta hoac hoad hA' hbl hal fb fa hog lom2 hks2 hks hval (up₇ _ hkl) hkr (up₇ _ hrl) hrr (row_ok hol hoff hbl hal hlenk S₇.kv) (by rw [row_len hol]; omega) (up₇ _ hcl) hcc (by omega) (rev_law kvs back ahead).symm hd hu fun h₈ tk₈ F₈ N₈ => ?_
  exact lawH hb C F₈ N₈ mg₇ mt₇ hgl offg₇ hk₆ hcd S₇ hxR hdxR htb hobc hobd hB hta hoac hoad hA' hbl hal fb fa hog lom2 hks2 hks hval hd hu hgr fun h' tk' e1 e2 => hQ h' tk' e1 e2
end
end Mine
end TextT3
section TextT2
open PySem PySem.W PyProof.Rows PySem.Calls PySem.Spec
set_option Elab.async false
set_option maxRecDepth 100000
set_option maxHeartbeats 1000000
namespace Mine
theorem fillT2 {w : World} {A : Around} {Q : Value → Shared → Prop} {E : Value → Shared → Prop} {s : Shared} (h : (hd0.heap_1 w.params).In s.heap → wpAny (model PySem.Challenge.rw_pb0182_01.row.prog w) A (call .none []) Q E s) :
    (hd0.heap_1 w.params).In s.heap → wpAny (model PySem.Challenge.rw_pb0182_01.row.prog w) A (call .none []) Q E s := by
  k_fill
  w_top off
  intro hX
  try walk1
  exact h hX
theorem good_true {cw : ClaimW} {cl : Str → Option Addr} {mean : ExcName → Option Value} {args : List WData} {s₁ s' : Shared} {c P : Addr} (hT : TabsAt [(c, P)] s₁.heap) (hr : ∀ x, cw.raises args x = false) (hp : cw.post args (.bool true) args = true)
    (st : (ghostOf s₁.heap [(c, P)]).StaysIn s'.heap) (hgr : GrownAt P s'.heap) (hos : s'.os = s₁.os) (hg : s'.gens = #[]) : GoodWG cw cl mean args s₁ (.ok (.ret (.bool true))) s' := by
  have keep : ∀ b o, b ∉ [(c, P)].map (·.2) → s₁.heap.get? b = some o → s'.heap.get? b = some o := fun b o hb e => st b o (ghost_ne e hb)
  have grown : ∀ b o, b ∈ [(c, P)].map (·.2) → s₁.heap.get? b = some o → isCodeTable s₁.heap b ∧ o = tabObj #[] ∧ ∃ ps, s'.heap.get? b = some (tabObj ps) := fun b o hb e => by
    obtain ⟨q, hq, rfl⟩ := List.mem_map.mp hb
    have e2 := (hT q hq).2
    rw [e] at e2
    refine ⟨((hT q hq).1.tab (hT q hq).2).isCodeTable, Option.some.inj e2, ?_⟩
    rw [List.mem_singleton.mp hq]
    exact hgr
  refine ⟨.inl ⟨_, _, [], rfl, hr, ReadsW.bool true, hp, fun _ => ⟨List.nodup_nil, fun _ hm => (nomatch hm)⟩⟩, ⟨fun b o e => ?_, fun b o e => ?_⟩, hos, .of_eq hg⟩
  · by_cases hb : b ∈ [(c, P)].map (·.2)
    · obtain ⟨ht, rfl, ps, hP⟩ := grown b o hb e
      exact .inr (.inl ⟨ht, rfl, #[], ps, rfl, by rw [Array.empty_append]; exact hP⟩)
    · exact .inl (keep b o hb e)
  · by_cases hb : b ∈ [(c, P)].map (·.2)
    · obtain ⟨_, _, ps, hP⟩ := grown b o hb e
      exact ⟨_, hP⟩
    · exact ⟨o, keep b o hb e⟩
theorem perm3 {α : Type} {a b c d q : α} (h : q ∈ [c, b, a, d]) : q ∈ [a, b, c, d] := by
  simp only [List.mem_cons, List.not_mem_nil, or_false] at h ⊢
  rcases h with h | h | h | h
  · exact .inr (.inr (.inl h))
  · exact .inr (.inl h)
  · exact .inl h
  · exact .inr (.inr (.inr h))
set_option maxHeartbeats 4000000 in
theorem top : PySem.Challenge.rw_pb0182_01.Holds := by
  refine hd0 ?_
  intro w s₀ s₁ mg mb G Y fa o pm cd doc dV kV ho hd hcd hD hmg hg args vals as hpre hlay hrd hwl hlo
  have KX := km_in_of Y.1
  have hT8 := km_tabs_of Y.1
  have hb0 := Y.2
  clear Y
  refine Ground.open G ?_
  intro T B D TE TW
  clear D B TE TW G
  have hfa : fa = 305 := by
    have e := mg_of (n := Str.ofString "law") (v := .ref 305) KX T.g (by kernel_rfl)
    rw [show mg (Str.ofString "law") = some (.ref fa) from hmg] at e
    cases e
    rfl
  clear ho hd hcd hD hmg
  subst hfa
  have hT9 : TabsAt [(275, 271)] s₁.heap := List.forall_mem_cons.mpr ⟨⟨codeHd_of_K (c := 275) (P := 271) KX (by kernel_rfl), hT8 271 (.head _)⟩, fun _ h => nomatch h⟩
  clear hT8
  wrow_args hpre hlay hrd hwl hlo
  all_goals
    refine wpC_call ?_
    k_dflt (refine' enterC_top (f := 305) hT9 KX (by kernel_rfl) T hb0 ?k6 ?k7 ?k9 ?kB ?kD ?_ ?c2 ?c3 ?c4)
    case k6 => k_is
    case k7 => k_is
    case k9 => first | exact BindsTo.of_eq rfl | exact binds_K KX rfl (by k_is) rfl rfl rfl
    case kB => exact rfl
    case kD => decide +kernel
    case c2 => exact rfl
    case c3 => exact rfl
    case c4 => exact rfl
    intro h₁ tk cells C₁ F₁ N₁ Y₁
    rename s₁.heap.IsList _ _ => hl
    rename IntsAre _ _ => hi
    k_cells Y₁
    (try simp only [tabNews, List.map_cons, List.map_nil, List.cons_append, List.nil_append] at N₁)
    have N₂ := fun q hq => N₁ q (perm3 hq)
    refine law_ok (by k_is) C₁ F₁ N₂ (by assumption) (by assumption) (by assumption) rfl (show callerA.depth + 1 ≤ 800 by decide) (show callerA.units + 3 ≤ 4000 by decide) (codeHd_of_K (c := 275) (P := 271) C₁.X (by kernel_rfl)) (ghost_list hT9 hl) hi (by omega) (Heap.lt_size (hT9 _ (.head _)).2) (by passes_own) (fun ps => ⟨s₁.heap.update 271 fun _ => tabObj ps, ?_, ?_, ?_⟩) (fun h' tk' e1 e2 => ?_)
    · rw [hideAll_size]
      exact Heap.size_update _ _ _
    · exact Heap.get?_update_self _ (hT9 _ (.head _)).2 rfl
    · intro b hb
      show _ = (s₁.heap.hide 271).get? b
      rw [Heap.hide_ne _ hb, Heap.get?_update_other _ _ (Ne.symm hb)]
    · refine ⟨good_true hT9 (fun _ => rfl) ?_ e1 e2 rfl hg, hg⟩
      wrow_post
end Mine
end TextT2
end Walks
set_option maxRecDepth 100000 in
theorem PySem.Challenge.cw_pb0182_01_holds : PySem.Challenge.rw_pb0182_01.Holds :=
  Mine.top
