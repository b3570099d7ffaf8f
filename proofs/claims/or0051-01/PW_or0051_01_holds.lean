import PyProof.Rows.All
import Wide.All
import OpenK.AllK
import Wide.FinOn
import PySem.Challenge.RW_or0051_01
open PySem PySem.W PySem.Calls PyProof.Rows
set_option Elab.async false
set_option maxRecDepth 100000
set_option maxHeartbeats 8000000
set_option linter.unusedVariables false
namespace Mine
/-- a code that may hold a bytearray's buffer while it runs -/
noncomputable def holdsBuf : Code → Bool
  | .builtin id _ => guardIds.contains id || Builtin.Bytes.decodersThatHold.contains id
  | _ => false
/-- a place in the call tree beneath which nothing holds a buffer -/
noncomputable def Clean (Γ : Ctx) : Prop := ∀ c ∈ Γ.code :: Γ.below.map (·.1), holdsBuf c = false
/-- the weakest precondition at clean places alone: «wpAny» asks all places, and there no bytearray may grow -/
noncomputable def wpD {α : Type} (M : Model) (A : Around) (t : Sem α) (Q : α → Shared → Prop) (E : Value → Shared → Prop) (s : Shared) : Prop :=
  ∀ Γ p, Γ.In A → Clean Γ → Sem.wp M Γ t (fun a _ s' => Q a s') (fun e _ s' => E e s') p s
section
variable {α β : Type} {M : Model} {A : Around} {E : Value → Shared → Prop} {s : Shared}
theorem wpD_of_any {t : Sem α} {Q : α → Shared → Prop} (h : wpAny M A t Q E s) : wpD M A t Q E s := fun Γ p hΓ _ => h Γ p hΓ
theorem wpD_mono {t : Sem α} {Q Q' : α → Shared → Prop} {E' : Value → Shared → Prop} (h : wpD M A t Q E s) (hQ : ∀ a s, Q a s → Q' a s) (hE : ∀ e s, E e s → E' e s) : wpD M A t Q' E' s :=
  fun Γ p hΓ c => Sem.wp_mono M Γ t (fun a _ s => hQ a s) (fun e _ s => hE e s) p s (h Γ p hΓ c)
theorem wpD_bind {m : Sem α} {f : α → Sem β} {Q : β → Shared → Prop} (h : wpD M A m (fun a s' => wpD M A (f a) Q E s') E s) : wpD M A (m >>= f) Q E s := fun Γ p hΓ c => by
  rw [Sem.wp_bind']
  exact Sem.wp_mono M Γ m (fun a p' s' h' => h' Γ p' hΓ c) (fun _ _ _ h' => h') p s (h Γ p hΓ c)
/-- first what any place gives, then what a clean one does -/
theorem wpD_bindAny {m : Sem α} {f : α → Sem β} {Q : β → Shared → Prop} (h : wpAny M A m (fun a s' => wpD M A (f a) Q E s') E s) : wpD M A (m >>= f) Q E s := wpD_bind (wpD_of_any h)
theorem wpD_pure {a : α} {Q : α → Shared → Prop} (h : Q a s) : wpD M A (pure a) Q E s := wpD_of_any (wpAny_pure h)
end
theorem caller_clean : Clean ⟨.builtin "claim.caller" {}, none, none, [], none⟩ := by
  intro c hc
  rcases List.mem_cons.mp hc with rfl | hc
  · decide +kernel
  · cases hc
theorem ends_D {prog : Program} {w : World} {t : Sem Fin} {s : Shared} {R : Result → Shared → Prop} (hreg : s.asleep)
    (h : wpD (model prog w) callerA t (fun fin s' => ∃ f, fin = .done f ∧ (R (.ok f) s' ∧ leftWithCleanup s'.gens = false)) (fun e s' => R (.error e) s' ∧ leftWithCleanup s'.gens = false) s) :
    ∃ n r s' s'', runN (denote table) prog w n s ⟨t, .builtin "claim.caller" {}, default, []⟩ = .halted (outcomeOf r) s' ∧
      schedN (denote table) prog w n (.single s ⟨t, .builtin "claim.caller" {}, default, []⟩) = .halted (outcomeOf r) s' ∧ s'.forget = s''.forget ∧ R r s'' := by
  have h1 := h _ default caller_in caller_clean
  have h2 : Sem.wp (model prog w) ⟨.builtin "claim.caller" {}, none, none, [], none⟩ t
      (Sem.finPost (model prog w) ⟨.builtin "claim.caller" {}, none, none, [], none⟩ fun r s' => R r s' ∧ leftWithCleanup s'.gens = false)
      (fun e _ s' => R (.error e) s' ∧ leftWithCleanup s'.gens = false) default s :=
    Sem.wp_mono _ _ t (fun fin _ s' ⟨f, hf, hr⟩ => by subst hf; exact hr) (fun _ _ _ x => x) default s h1
  obtain ⟨n, r, s₁, s₂, a, b, c, d⟩ := wp_halts_full (M := model prog w) hreg h2
  exact ⟨n, r, s₂, s₁, b, a, c, d⟩
theorem ok_shape {r : Result} {P Q R S S' U : Value → Prop} (hS : ∀ v, S v → S' v) : (∃ v, r = .ok (.ret v) ∧ P v ∧ Q v ∧ R v ∧ S v ∧ U v) → ∃ v, outcomeOf r = .done (.ret v) ∧ P v ∧ Q v ∧ R v ∧ S' v ∧ U v := by
  rintro ⟨v, rfl, p, q, r, s, u⟩; exact ⟨v, rfl, p, q, r, hS v s, u⟩
theorem err_shape {r : Result} {P Q R T S S' : Addr → Obj → ExcName → Prop} (hS : ∀ e ob cls, S e ob cls → S' e ob cls) : (∃ e ob cls, r = .error (.ref e) ∧ P e ob cls ∧ Q e ob cls ∧ R e ob cls ∧ T e ob cls ∧ S e ob cls) →
    ∃ e ob cls, outcomeOf r = .uncaught (.ref e) ∧ P e ob cls ∧ Q e ob cls ∧ R e ob cls ∧ T e ob cls ∧ S' e ob cls := by
  rintro ⟨e, ob, cls, rfl, p, q, r, t, s⟩; exact ⟨e, ob, cls, rfl, p, q, r, t, hS _ _ _ s⟩
theorem callFrom_D {c : ClaimW} {tree : List Value → Sem Fin} {w : World} {s : Shared} {free : Addr → Prop} {gens : Prop} {kept : Heap → Prop} (hz : s.asleep) (hgens : s.gens = #[])
    (hspec : ∀ args, c.pre args = true → WData.layableAll args = true → ∀ ord : List DictEntry → List DictEntry, (∀ l, (ord l).Perm l) →
      ∃ vs s₁, layAllW c.records (classAt s.heap) w.params ord args s = some (vs, s₁) ∧
        wpD (model c.prog w) callerA (tree vs) (fun fin s' => ∃ f, fin = .done f ∧ (c.Ends s args vs s₁ (.ok f) s' ∧ s'.os = s.os ∧ AllBare s'.gens ∧ kept s'.heap))
          (fun e s' => c.Ends s args vs s₁ (.error e) s' ∧ s'.os = s.os ∧ AllBare s'.gens ∧ kept s'.heap) s₁) :
    c.CallFrom (fun vs => ⟨tree vs, .builtin "claim.caller" {}, default, []⟩) w free gens kept s := by
  intro args hpre hlay ord hord
  obtain ⟨vs, s₁, hlaid, hcode⟩ := hspec args hpre hlay ord hord
  have hal := layAllW_rest _ _ _ hlaid
  obtain ⟨k, r, s', s'', hrun, hsched, hfo, hcase, hos, hkp⟩ := ends_D (R := fun r s' => c.Ends s args vs s₁ r s' ∧ s'.os = s.os ∧ kept s'.heap) (Shared.asleep_of_life hal.2.2.2 hz)
    (wpD_mono hcode (fun fin s' ⟨f, e, h1, h2, h3, h4⟩ => ⟨f, e, ⟨h1, h2, h4⟩, leftWithCleanup_false_of_bare h3⟩) fun e s' ⟨h1, h2, h3, h4⟩ => ⟨⟨h1, h2, h4⟩, leftWithCleanup_false_of_bare h3⟩)
  obtain ⟨eh, _, _, eo, _⟩ := Shared.forget_eq hfo
  have hcase := hcase.congr eh
  have hkp : kept s'.heap := by rw [eh]; exact hkp
  rw [← eo] at hos
  have hlife : s'.heap.life = s.heap.life := (runN_life _ _ _ hrun).trans hal.2.2.2
  refine ⟨vs, s₁, hlaid, k, _, s', hsched, ?_, (fun _ i x hx => by rw [hgens] at hx; simp at hx), hkp, by rw [hlife], Shared.rest_eq hos⟩
  exact hcase.imp (ok_shape fun v d b o y _ => d b o y) (err_shape fun e ob cls d b o y _ => d b o y)
abbrev WalkD (q : Program) (loose : List PySem.Str) (XP : (PySem.Str → Option Value) → Heap → Prop) (YP : World → Heap → Prop) (r : RowW) (d : DefRec) (kwd : List (PySem.Str × Expr)) : Prop :=
  ∀ (w : World) (s₀ s₁ : Shared) (mg mb : PySem.Str → Option Value), Ground q loose r.records XP w s₀ mg mb s₁.heap → YP w s₁.heap → ∀ (a : Addr) (o : Obj) (pm cd doc dV kV : Value), s₁.heap.get? a = some o →
    o.data = .func { docDef d.name d.params d.body d.scope pm cd doc with defaults := dV, kwdefaults := kV } → s₁.heap.CodeRec cd d.name → Dflts mg s₁.heap d.params kwd dV kV → mg d.name = some (.ref a) → s₁.gens = #[] →
    ∀ (args : List WData) (vals : List Value) (as : List Addr), r.claim.pre args = true → WData.layableAll args = true → ReadsAllW r.records (classAt s₀.heap) s₁.heap vals args as → WellAll w.params s₁.heap vals args → (∀ a ∈ as, (a == sysModules) = false) →
      wpD (model r.prog w) callerA (PySem.call (.ref a) vals) (fun v s' => GoodWG r.claim (classAt s₀.heap) (ExcName.means s₀.heap) args s₁ (.ok (.ret v)) s')
        (fun e s' => GoodWG r.claim (classAt s₀.heap) (ExcName.means s₀.heap) args s₁ (.error e) s') s₁
/-- the head, its last premise asked at clean places alone -/
theorem PySem.W.holds_open {r : OpenRow} {q : Program} {loose : List PySem.Str} {Xt : Shared → Bool} {XP : (PySem.Str → Option Value) → Heap → Prop} {α : Type} {Yf : Shared → α} {Ya : World → α} {YP : World → Heap → Prop} {d : DefRec} {kwd : List (PySem.Str × Expr)} {N : Nat}
    (left : LeftO r.prog q loose Xt Yf Ya N) (hY : ∀ w s, Yf s = Ya w → YP w s.heap) (hYk : ∀ w h h', YP w h → (∀ b o, h.get? b = some o → h'.get? b = some o) → YP w h')
    (hX : ∀ s, Xt s = true → XP (s.heap.nsMap mainGlobals) s.heap) (hXk : ∀ mg h h', XP mg h → (∀ b o, h.get? b = some o → h'.get? b = some o) → XP mg h')
    (hdef : defOf q r.name = some (d, kwd)) (hp : r.prog.theDef r.name = some (d.params, d.body, d.scope)) (hk : kwWritten? d.params.kwonlyargs d.params.kw_defaults = some kwd) (hRf : ∀ s, Xt s = true → RecFacts r.records s.heap) (hwr : (!r.writes || r.records.isEmpty) = true)
    (k1 : r.wellSaid = true) (ok : (chainsOk q && opensWell r.prog && (frees r.toRowW && r.within.isEmpty)) = true) (hb : r.prog.bare) (hw : r.toRowW.promised)
    (call : WalkD q loose XP YP r.toRowW d kwd) : r.Holds := by
  refine ⟨k1, hw, ?_⟩
  obtain ⟨ok1, ok2⟩ := Bool.and_eq_true_iff.mp ok
  obtain ⟨hch, o1⟩ := Bool.and_eq_true_iff.mp ok1
  obtain ⟨ok3, ok4⟩ := Bool.and_eq_true_iff.mp ok2
  obtain ⟨hsame, hu, ha, hap, hm⟩ := frees_parts ok3
  have hwi : r.toRowW.claim.within = [] := List.isEmpty_iff.mp ok4
  refine ⟨⟨hb, o1, by show r.makers.map _ = []; rw [hm]; rfl⟩, hw.witness, fun w => ?_⟩
  have Bh := left.behind (XP := fun mg h => XP mg h ∧ RecFacts r.records h) (fun s hs => ⟨hX s hs, hRf s hs⟩) hch w
  refine ⟨Bh.1, fun s' hs' => ?_⟩
  obtain ⟨s₀, hf, hg0, s, hT, hz, hgens, hg, G00, y⟩ := Bh.2 s' hs'
  have G0 : Ground q loose [] XP w s (s.heap.nsMap mainGlobals) (s.heap.nsMap builtinsNs) s.heap := ⟨G00.T, G00.B, G00.D, G00.TE, G00.TD, G00.W, G00.X.1, G00.cls, G00.has, G00.apart, G00.once, G00.K⟩
  have RF := G00.X.2
  have G : Ground q loose r.records XP w s _ _ s.heap := RF.ground G0
  have hgens : s.gens = #[] := Array.eq_empty_of_size_eq_zero (beq_iff_eq.mp hgens)
  refine ⟨s₀, hf, hg0, s, hT, fun n hn => ?_, RF.1, RF.2.1, ?_⟩
  · obtain rfl : n = r.name := by split at hn <;> simp_all
    exact pinned_of_view hg G0 hdef hp hk
  · refine callFrom_D (c := r.toRowW.claim) (tree := fun vs => do match ← nsGet mainNs r.name with
      | some f => do ret (← PySem.call f vs)
      | none => unsupported "claim.caller:no-such-global") hz hgens fun args hpre hlay ord hord => ?_
    obtain ⟨⟨vs, s₁⟩, hlaid⟩ := Option.isSome_iff_exists.mp (layAllW_isSome (P := w.params) (ord := ord) G.has args r.args s (pre_splitW hpre).1)
    have keeps := layAllW_keeps _ _ _ hlaid
    have hal := layAllW_rest _ _ _ hlaid
    obtain ⟨as, hrd, hin, hold⟩ := reads_layAllW hord _ _ _ hlaid hlay s₁.heap (fun _ _ e => e)
    have L : Laid r.records w s s₁ args vs as := ⟨⟨ord, hord, hlaid⟩, hrd, hin, hold, keeps, hal.1.trans hgens, hal.2.2.1⟩
    have G₁ := G.keeps hXk keeps
    obtain ⟨a, o, pm, cd, doc, dV, kV, h1, h2, h3, h4, h5⟩ := G₁.fn hdef
    have hc := call w s s₁ _ _ G₁ (hYk _ _ _ (hY w s y) keeps) a o pm cd doc dV kV h2 h3 h4 h5 (defOf_name hdef ▸ h1) L.gens args vs as hpre hlay L.reads L.well (L.low G.low)
    refine ⟨vs, s₁, hlaid, wpD_bindAny (wpAny_nsGet G₁.T.g ?_)⟩
    rw [h1]
    refine wpD_bind (wpD_mono hc (fun v s' g => wpD_pure ⟨_, rfl, ?_⟩) fun e s' g => ?_)
    · have z := g.laid (c := r.toRowW.claim) hsame hwi (ident_freeW hu ha hap) L
      exact ⟨z.1, z.2.1, z.2.2, fun q => ⟨namesKept_of hT hg _ keeps g.2.1.old, noTable hwr q⟩⟩
    · have z := g.laid (c := r.toRowW.claim) hsame hwi (ident_freeW hu ha hap) L
      exact ⟨z.1, z.2.1, z.2.2, fun q => ⟨namesKept_of hT hg _ keeps g.2.1.old, noTable hwr q⟩⟩
noncomputable def stm (i : Nat) : Stmt := (PySem.Challenge.pw_or0051_01.main.body)[i]?.getD (.Pass ⟨0, 0, 0, 0⟩)
noncomputable def clsBody : Stmt → List Stmt
  | .ClassDef (body := b) .. => b
  | _ => []
noncomputable def cstm (i j : Nat) : Stmt := (clsBody (stm i))[j]?.getD (.Pass ⟨0, 0, 0, 0⟩)
noncomputable def fA : Stmt → Arguments
  | .FunctionDef (args := a) .. => a
  | _ => { posonlyargs := [], args := [], vararg := none, kwonlyargs := [], kw_defaults := [], kwarg := none, defaults := [] }
noncomputable def fB : Stmt → List Stmt
  | .FunctionDef (body := b) .. => b
  | _ => []
noncomputable def fC : Stmt → Scope
  | .FunctionDef (scope := c) .. => c
  | _ => { kind := .function, names := [], isGenerator := false, isCoroutine := false }
@[reducible] noncomputable def astA1x0 : Arguments := by
  refine' (?f : (K : Arguments) → (fA (cstm 1 0) = K) → Arguments) _ ?e
  case f => exact fun K _ => K
  case e => (conv => (lhs; whnf))
@[reducible] noncomputable def astB1x0 : List Stmt := by
  refine' (?f : (K : List Stmt) → (fB (cstm 1 0) = K) → List Stmt) _ ?e
  case f => exact fun K _ => K
  case e => (conv => (lhs; whnf))
@[reducible] noncomputable def astC1x0 : Scope := by
  refine' (?f : (K : Scope) → (fC (cstm 1 0) = K) → Scope) _ ?e
  case f => exact fun K _ => K
  case e => (conv => (lhs; whnf))
@[reducible] noncomputable def astA1x1 : Arguments := by
  refine' (?f : (K : Arguments) → (fA (cstm 1 1) = K) → Arguments) _ ?e
  case f => exact fun K _ => K
  case e => (conv => (lhs; whnf))
@[reducible] noncomputable def astB1x1 : List Stmt := by
  refine' (?f : (K : List Stmt) → (fB (cstm 1 1) = K) → List Stmt) _ ?e
  case f => exact fun K _ => K
  case e => (conv => (lhs; whnf))
@[reducible] noncomputable def astC1x1 : Scope := by
  refine' (?f : (K : Scope) → (fC (cstm 1 1) = K) → Scope) _ ?e
  case f => exact fun K _ => K
  case e => (conv => (lhs; whnf))
@[reducible] noncomputable def astA5 : Arguments := by
  refine' (?f : (K : Arguments) → (fA (stm 5) = K) → Arguments) _ ?e
  case f => exact fun K _ => K
  case e => (conv => (lhs; whnf))
@[reducible] noncomputable def astB5 : List Stmt := by
  refine' (?f : (K : List Stmt) → (fB (stm 5) = K) → List Stmt) _ ?e
  case f => exact fun K _ => K
  case e => (conv => (lhs; whnf))
@[reducible] noncomputable def astC5 : Scope := by
  refine' (?f : (K : Scope) → (fC (stm 5) = K) → Scope) _ ?e
  case f => exact fun K _ => K
  case e => (conv => (lhs; whnf))
@[reducible] noncomputable def astA6 : Arguments := by
  refine' (?f : (K : Arguments) → (fA (stm 6) = K) → Arguments) _ ?e
  case f => exact fun K _ => K
  case e => (conv => (lhs; whnf))
@[reducible] noncomputable def astB6 : List Stmt := by
  refine' (?f : (K : List Stmt) → (fB (stm 6) = K) → List Stmt) _ ?e
  case f => exact fun K _ => K
  case e => (conv => (lhs; whnf))
@[reducible] noncomputable def astC6 : Scope := by
  refine' (?f : (K : Scope) → (fC (stm 6) = K) → Scope) _ ?e
  case f => exact fun K _ => K
  case e => (conv => (lhs; whnf))
@[reducible] noncomputable def astA7 : Arguments := by
  refine' (?f : (K : Arguments) → (fA (stm 7) = K) → Arguments) _ ?e
  case f => exact fun K _ => K
  case e => (conv => (lhs; whnf))
@[reducible] noncomputable def astB7 : List Stmt := by
  refine' (?f : (K : List Stmt) → (fB (stm 7) = K) → List Stmt) _ ?e
  case f => exact fun K _ => K
  case e => (conv => (lhs; whnf))
@[reducible] noncomputable def astC7 : Scope := by
  refine' (?f : (K : Scope) → (fC (stm 7) = K) → Scope) _ ?e
  case f => exact fun K _ => K
  case e => (conv => (lhs; whnf))
@[reducible] noncomputable def astA8 : Arguments := by
  refine' (?f : (K : Arguments) → (fA (stm 8) = K) → Arguments) _ ?e
  case f => exact fun K _ => K
  case e => (conv => (lhs; whnf))
@[reducible] noncomputable def astB8 : List Stmt := by
  refine' (?f : (K : List Stmt) → (fB (stm 8) = K) → List Stmt) _ ?e
  case f => exact fun K _ => K
  case e => (conv => (lhs; whnf))
@[reducible] noncomputable def astC8 : Scope := by
  refine' (?f : (K : Scope) → (fC (stm 8) = K) → Scope) _ ?e
  case f => exact fun K _ => K
  case e => (conv => (lhs; whnf))
@[reducible] noncomputable def astA9 : Arguments := by
  refine' (?f : (K : Arguments) → (fA (stm 9) = K) → Arguments) _ ?e
  case f => exact fun K _ => K
  case e => (conv => (lhs; whnf))
@[reducible] noncomputable def astB9 : List Stmt := by
  refine' (?f : (K : List Stmt) → (fB (stm 9) = K) → List Stmt) _ ?e
  case f => exact fun K _ => K
  case e => (conv => (lhs; whnf))
@[reducible] noncomputable def astC9 : Scope := by
  refine' (?f : (K : Scope) → (fC (stm 9) = K) → Scope) _ ?e
  case f => exact fun K _ => K
  case e => (conv => (lhs; whnf))
@[reducible] noncomputable def astA10 : Arguments := by
  refine' (?f : (K : Arguments) → (fA (stm 10) = K) → Arguments) _ ?e
  case f => exact fun K _ => K
  case e => (conv => (lhs; whnf))
@[reducible] noncomputable def astB10 : List Stmt := by
  refine' (?f : (K : List Stmt) → (fB (stm 10) = K) → List Stmt) _ ?e
  case f => exact fun K _ => K
  case e => (conv => (lhs; whnf))
@[reducible] noncomputable def astC10 : Scope := by
  refine' (?f : (K : Scope) → (fC (stm 10) = K) → Scope) _ ?e
  case f => exact fun K _ => K
  case e => (conv => (lhs; whnf))
@[reducible] noncomputable def astA12 : Arguments := by
  refine' (?f : (K : Arguments) → (fA (stm 12) = K) → Arguments) _ ?e
  case f => exact fun K _ => K
  case e => (conv => (lhs; whnf))
@[reducible] noncomputable def astB12 : List Stmt := by
  refine' (?f : (K : List Stmt) → (fB (stm 12) = K) → List Stmt) _ ?e
  case f => exact fun K _ => K
  case e => (conv => (lhs; whnf))
@[reducible] noncomputable def astC12 : Scope := by
  refine' (?f : (K : Scope) → (fC (stm 12) = K) → Scope) _ ?e
  case f => exact fun K _ => K
  case e => (conv => (lhs; whnf))
@[reducible] noncomputable def astA18 : Arguments := by
  refine' (?f : (K : Arguments) → (fA (stm 18) = K) → Arguments) _ ?e
  case f => exact fun K _ => K
  case e => (conv => (lhs; whnf))
@[reducible] noncomputable def astB18 : List Stmt := by
  refine' (?f : (K : List Stmt) → (fB (stm 18) = K) → List Stmt) _ ?e
  case f => exact fun K _ => K
  case e => (conv => (lhs; whnf))
@[reducible] noncomputable def astC18 : Scope := by
  refine' (?f : (K : Scope) → (fC (stm 18) = K) → Scope) _ ?e
  case f => exact fun K _ => K
  case e => (conv => (lhs; whnf))
@[reducible] noncomputable def astA19 : Arguments := by
  refine' (?f : (K : Arguments) → (fA (stm 19) = K) → Arguments) _ ?e
  case f => exact fun K _ => K
  case e => (conv => (lhs; whnf))
@[reducible] noncomputable def astB19 : List Stmt := by
  refine' (?f : (K : List Stmt) → (fB (stm 19) = K) → List Stmt) _ ?e
  case f => exact fun K _ => K
  case e => (conv => (lhs; whnf))
@[reducible] noncomputable def astA20 : Arguments := by
  refine' (?f : (K : Arguments) → (fA (stm 20) = K) → Arguments) _ ?e
  case f => exact fun K _ => K
  case e => (conv => (lhs; whnf))
@[reducible] noncomputable def astB20 : List Stmt := by
  refine' (?f : (K : List Stmt) → (fB (stm 20) = K) → List Stmt) _ ?e
  case f => exact fun K _ => K
  case e => (conv => (lhs; whnf))
@[reducible] noncomputable def astC20 : Scope := by
  refine' (?f : (K : Scope) → (fC (stm 20) = K) → Scope) _ ?e
  case f => exact fun K _ => K
  case e => (conv => (lhs; whnf))
@[reducible] noncomputable def astA21 : Arguments := by
  refine' (?f : (K : Arguments) → (fA (stm 21) = K) → Arguments) _ ?e
  case f => exact fun K _ => K
  case e => (conv => (lhs; whnf))
@[reducible] noncomputable def astB21 : List Stmt := by
  refine' (?f : (K : List Stmt) → (fB (stm 21) = K) → List Stmt) _ ?e
  case f => exact fun K _ => K
  case e => (conv => (lhs; whnf))
@[reducible] noncomputable def astC21 : Scope := by
  refine' (?f : (K : Scope) → (fC (stm 21) = K) → Scope) _ ?e
  case f => exact fun K _ => K
  case e => (conv => (lhs; whnf))
@[reducible] noncomputable def astA22 : Arguments := by
  refine' (?f : (K : Arguments) → (fA (stm 22) = K) → Arguments) _ ?e
  case f => exact fun K _ => K
  case e => (conv => (lhs; whnf))
@[reducible] noncomputable def astB22 : List Stmt := by
  refine' (?f : (K : List Stmt) → (fB (stm 22) = K) → List Stmt) _ ?e
  case f => exact fun K _ => K
  case e => (conv => (lhs; whnf))
@[reducible] noncomputable def astC22 : Scope := by
  refine' (?f : (K : Scope) → (fC (stm 22) = K) → Scope) _ ?e
  case f => exact fun K _ => K
  case e => (conv => (lhs; whnf))
@[reducible] noncomputable def astA23 : Arguments := by
  refine' (?f : (K : Arguments) → (fA (stm 23) = K) → Arguments) _ ?e
  case f => exact fun K _ => K
  case e => (conv => (lhs; whnf))
@[reducible] noncomputable def astB23 : List Stmt := by
  refine' (?f : (K : List Stmt) → (fB (stm 23) = K) → List Stmt) _ ?e
  case f => exact fun K _ => K
  case e => (conv => (lhs; whnf))
@[reducible] noncomputable def astC23 : Scope := by
  refine' (?f : (K : Scope) → (fC (stm 23) = K) → Scope) _ ?e
  case f => exact fun K _ => K
  case e => (conv => (lhs; whnf))
@[reducible] noncomputable def astA24 : Arguments := by
  refine' (?f : (K : Arguments) → (fA (stm 24) = K) → Arguments) _ ?e
  case f => exact fun K _ => K
  case e => (conv => (lhs; whnf))
@[reducible] noncomputable def astB24 : List Stmt := by
  refine' (?f : (K : List Stmt) → (fB (stm 24) = K) → List Stmt) _ ?e
  case f => exact fun K _ => K
  case e => (conv => (lhs; whnf))
@[reducible] noncomputable def astC24 : Scope := by
  refine' (?f : (K : Scope) → (fC (stm 24) = K) → Scope) _ ?e
  case f => exact fun K _ => K
  case e => (conv => (lhs; whnf))
@[reducible] noncomputable def astA25 : Arguments := by
  refine' (?f : (K : Arguments) → (fA (stm 25) = K) → Arguments) _ ?e
  case f => exact fun K _ => K
  case e => (conv => (lhs; whnf))
@[reducible] noncomputable def astB25 : List Stmt := by
  refine' (?f : (K : List Stmt) → (fB (stm 25) = K) → List Stmt) _ ?e
  case f => exact fun K _ => K
  case e => (conv => (lhs; whnf))
@[reducible] noncomputable def astC25 : Scope := by
  refine' (?f : (K : Scope) → (fC (stm 25) = K) → Scope) _ ?e
  case f => exact fun K _ => K
  case e => (conv => (lhs; whnf))
@[reducible] noncomputable def astA26 : Arguments := by
  refine' (?f : (K : Arguments) → (fA (stm 26) = K) → Arguments) _ ?e
  case f => exact fun K _ => K
  case e => (conv => (lhs; whnf))
@[reducible] noncomputable def astB26 : List Stmt := by
  refine' (?f : (K : List Stmt) → (fB (stm 26) = K) → List Stmt) _ ?e
  case f => exact fun K _ => K
  case e => (conv => (lhs; whnf))
@[reducible] noncomputable def astC26 : Scope := by
  refine' (?f : (K : Scope) → (fC (stm 26) = K) → Scope) _ ?e
  case f => exact fun K _ => K
  case e => (conv => (lhs; whnf))
@[reducible] noncomputable def astA27 : Arguments := by
  refine' (?f : (K : Arguments) → (fA (stm 27) = K) → Arguments) _ ?e
  case f => exact fun K _ => K
  case e => (conv => (lhs; whnf))
@[reducible] noncomputable def astB27 : List Stmt := by
  refine' (?f : (K : List Stmt) → (fB (stm 27) = K) → List Stmt) _ ?e
  case f => exact fun K _ => K
  case e => (conv => (lhs; whnf))
@[reducible] noncomputable def astC27 : Scope := by
  refine' (?f : (K : Scope) → (fC (stm 27) = K) → Scope) _ ?e
  case f => exact fun K _ => K
  case e => (conv => (lhs; whnf))
@[reducible] noncomputable def astA28 : Arguments := by
  refine' (?f : (K : Arguments) → (fA (stm 28) = K) → Arguments) _ ?e
  case f => exact fun K _ => K
  case e => (conv => (lhs; whnf))
@[reducible] noncomputable def astB28 : List Stmt := by
  refine' (?f : (K : List Stmt) → (fB (stm 28) = K) → List Stmt) _ ?e
  case f => exact fun K _ => K
  case e => (conv => (lhs; whnf))
@[reducible] noncomputable def astC28 : Scope := by
  refine' (?f : (K : Scope) → (fC (stm 28) = K) → Scope) _ ?e
  case f => exact fun K _ => K
  case e => (conv => (lhs; whnf))
@[reducible] noncomputable def astA29 : Arguments := by
  refine' (?f : (K : Arguments) → (fA (stm 29) = K) → Arguments) _ ?e
  case f => exact fun K _ => K
  case e => (conv => (lhs; whnf))
@[reducible] noncomputable def astB29 : List Stmt := by
  refine' (?f : (K : List Stmt) → (fB (stm 29) = K) → List Stmt) _ ?e
  case f => exact fun K _ => K
  case e => (conv => (lhs; whnf))
@[reducible] noncomputable def astC29 : Scope := by
  refine' (?f : (K : Scope) → (fC (stm 29) = K) → Scope) _ ?e
  case f => exact fun K _ => K
  case e => (conv => (lhs; whnf))
@[reducible] noncomputable def astA30 : Arguments := by
  refine' (?f : (K : Arguments) → (fA (stm 30) = K) → Arguments) _ ?e
  case f => exact fun K _ => K
  case e => (conv => (lhs; whnf))
@[reducible] noncomputable def astB30 : List Stmt := by
  refine' (?f : (K : List Stmt) → (fB (stm 30) = K) → List Stmt) _ ?e
  case f => exact fun K _ => K
  case e => (conv => (lhs; whnf))
@[reducible] noncomputable def astC30 : Scope := by
  refine' (?f : (K : Scope) → (fC (stm 30) = K) → Scope) _ ?e
  case f => exact fun K _ => K
  case e => (conv => (lhs; whnf))
@[reducible] noncomputable def astA31 : Arguments := by
  refine' (?f : (K : Arguments) → (fA (stm 31) = K) → Arguments) _ ?e
  case f => exact fun K _ => K
  case e => (conv => (lhs; whnf))
@[reducible] noncomputable def astB31 : List Stmt := by
  refine' (?f : (K : List Stmt) → (fB (stm 31) = K) → List Stmt) _ ?e
  case f => exact fun K _ => K
  case e => (conv => (lhs; whnf))
@[reducible] noncomputable def astC31 : Scope := by
  refine' (?f : (K : Scope) → (fC (stm 31) = K) → Scope) _ ?e
  case f => exact fun K _ => K
  case e => (conv => (lhs; whnf))
@[reducible] noncomputable def astA32 : Arguments := by
  refine' (?f : (K : Arguments) → (fA (stm 32) = K) → Arguments) _ ?e
  case f => exact fun K _ => K
  case e => (conv => (lhs; whnf))
@[reducible] noncomputable def astB32 : List Stmt := by
  refine' (?f : (K : List Stmt) → (fB (stm 32) = K) → List Stmt) _ ?e
  case f => exact fun K _ => K
  case e => (conv => (lhs; whnf))
@[reducible] noncomputable def astC32 : Scope := by
  refine' (?f : (K : Scope) → (fC (stm 32) = K) → Scope) _ ?e
  case f => exact fun K _ => K
  case e => (conv => (lhs; whnf))
@[reducible] noncomputable def astA34 : Arguments := by
  refine' (?f : (K : Arguments) → (fA (stm 34) = K) → Arguments) _ ?e
  case f => exact fun K _ => K
  case e => (conv => (lhs; whnf))
@[reducible] noncomputable def astB34 : List Stmt := by
  refine' (?f : (K : List Stmt) → (fB (stm 34) = K) → List Stmt) _ ?e
  case f => exact fun K _ => K
  case e => (conv => (lhs; whnf))
@[reducible] noncomputable def astC34 : Scope := by
  refine' (?f : (K : Scope) → (fC (stm 34) = K) → Scope) _ ?e
  case f => exact fun K _ => K
  case e => (conv => (lhs; whnf))
@[reducible] noncomputable def astA35 : Arguments := by
  refine' (?f : (K : Arguments) → (fA (stm 35) = K) → Arguments) _ ?e
  case f => exact fun K _ => K
  case e => (conv => (lhs; whnf))
@[reducible] noncomputable def astB35 : List Stmt := by
  refine' (?f : (K : List Stmt) → (fB (stm 35) = K) → List Stmt) _ ?e
  case f => exact fun K _ => K
  case e => (conv => (lhs; whnf))
@[reducible] noncomputable def astC35 : Scope := by
  refine' (?f : (K : Scope) → (fC (stm 35) = K) → Scope) _ ?e
  case f => exact fun K _ => K
  case e => (conv => (lhs; whnf))
@[reducible] noncomputable def astA37 : Arguments := by
  refine' (?f : (K : Arguments) → (fA (stm 37) = K) → Arguments) _ ?e
  case f => exact fun K _ => K
  case e => (conv => (lhs; whnf))
@[reducible] noncomputable def astB37 : List Stmt := by
  refine' (?f : (K : List Stmt) → (fB (stm 37) = K) → List Stmt) _ ?e
  case f => exact fun K _ => K
  case e => (conv => (lhs; whnf))
@[reducible] noncomputable def astC37 : Scope := by
  refine' (?f : (K : Scope) → (fC (stm 37) = K) → Scope) _ ?e
  case f => exact fun K _ => K
  case e => (conv => (lhs; whnf))
@[reducible] noncomputable def astA38 : Arguments := by
  refine' (?f : (K : Arguments) → (fA (stm 38) = K) → Arguments) _ ?e
  case f => exact fun K _ => K
  case e => (conv => (lhs; whnf))
@[reducible] noncomputable def astB38 : List Stmt := by
  refine' (?f : (K : List Stmt) → (fB (stm 38) = K) → List Stmt) _ ?e
  case f => exact fun K _ => K
  case e => (conv => (lhs; whnf))
@[reducible] noncomputable def astC38 : Scope := by
  refine' (?f : (K : Scope) → (fC (stm 38) = K) → Scope) _ ?e
  case f => exact fun K _ => K
  case e => (conv => (lhs; whnf))
@[reducible] noncomputable def astA39 : Arguments := by
  refine' (?f : (K : Arguments) → (fA (stm 39) = K) → Arguments) _ ?e
  case f => exact fun K _ => K
  case e => (conv => (lhs; whnf))
@[reducible] noncomputable def astB39 : List Stmt := by
  refine' (?f : (K : List Stmt) → (fB (stm 39) = K) → List Stmt) _ ?e
  case f => exact fun K _ => K
  case e => (conv => (lhs; whnf))
@[reducible] noncomputable def astC39 : Scope := by
  refine' (?f : (K : Scope) → (fC (stm 39) = K) → Scope) _ ?e
  case f => exact fun K _ => K
  case e => (conv => (lhs; whnf))
@[reducible] noncomputable def astA40 : Arguments := by
  refine' (?f : (K : Arguments) → (fA (stm 40) = K) → Arguments) _ ?e
  case f => exact fun K _ => K
  case e => (conv => (lhs; whnf))
@[reducible] noncomputable def astB40 : List Stmt := by
  refine' (?f : (K : List Stmt) → (fB (stm 40) = K) → List Stmt) _ ?e
  case f => exact fun K _ => K
  case e => (conv => (lhs; whnf))
@[reducible] noncomputable def astC40 : Scope := by
  refine' (?f : (K : Scope) → (fC (stm 40) = K) → Scope) _ ?e
  case f => exact fun K _ => K
  case e => (conv => (lhs; whnf))
@[reducible] noncomputable def astA41 : Arguments := by
  refine' (?f : (K : Arguments) → (fA (stm 41) = K) → Arguments) _ ?e
  case f => exact fun K _ => K
  case e => (conv => (lhs; whnf))
@[reducible] noncomputable def astB41 : List Stmt := by
  refine' (?f : (K : List Stmt) → (fB (stm 41) = K) → List Stmt) _ ?e
  case f => exact fun K _ => K
  case e => (conv => (lhs; whnf))
@[reducible] noncomputable def astC41 : Scope := by
  refine' (?f : (K : Scope) → (fC (stm 41) = K) → Scope) _ ?e
  case f => exact fun K _ => K
  case e => (conv => (lhs; whnf))
noncomputable def hd.heap_39 : PySem.Params → PySem.W.Frag := by
  refine' (?f : (K : PySem.Params → PySem.W.Frag) → ((fun P =>
  ((nat_lit 2,
      { cls := PySem.Value.none,
        data :=
          PySem.Data.dict
            #[{ hash := PySem.PyData.keyHash P (PySem.Str.ofString "type.__subclasses__.Exception.0"), key := PySem.Value.str (PySem.Str.ofString "type.__subclasses__.Exception.0") 225,
                val := PySem.Value.int 39 0 },
              { hash := PySem.PyData.keyHash P (PySem.Str.ofString "type.__subclasses__.Exception.n"), key := PySem.Value.str (PySem.Str.ofString "type.__subclasses__.Exception.n") 226,
                val := PySem.Value.int 1 0 }]
            2 }) ::
    (nat_lit 3,
      { cls := PySem.Value.type "dict",
        data :=
          PySem.Data.dict
            #[{ hash := PySem.PyData.keyHash P (PySem.Str.ofString "__name__"), key := PySem.Value.str (PySem.Str.ofString "__name__") 165,
                val := PySem.Value.str (PySem.Str.ofString "law_or0051_01") 492 },
              { hash := PySem.PyData.keyHash P (PySem.Str.ofString "__doc__"), key := PySem.Value.str (PySem.Str.ofString "__doc__") 166, val := PySem.Value.none },
              { hash := PySem.PyData.keyHash P (PySem.Str.ofString "__package__"), key := PySem.Value.str (PySem.Str.ofString "__package__") 167, val := PySem.Value.none },
              { hash := PySem.PyData.keyHash P (PySem.Str.ofString "__loader__"), key := PySem.Value.str (PySem.Str.ofString "__loader__") 168,
                val := PySem.Value.builtin "__main__.__loader__#opaque" },
              { hash := PySem.PyData.keyHash P (PySem.Str.ofString "__spec__"), key := PySem.Value.str (PySem.Str.ofString "__spec__") 169, val := PySem.Value.none },
              { hash := PySem.PyData.keyHash P (PySem.Str.ofString "__annotations__"), key := PySem.Value.str (PySem.Str.ofString "__annotations__") 170, val := PySem.Value.ref 6 },
              { hash := PySem.PyData.keyHash P (PySem.Str.ofString "__builtins__"), key := PySem.Value.str (PySem.Str.ofString "__builtins__") 171, val := PySem.Value.ref 4 },
              { hash := PySem.PyData.keyHash P (PySem.Str.ofString "__file__"), key := PySem.Value.str (PySem.Str.ofString "__file__") 173,
                val := PySem.Value.str (PySem.Str.ofString "/claim/cut.py") 172 },
              { hash := PySem.PyData.keyHash P (PySem.Str.ofString "__cached__"), key := PySem.Value.str (PySem.Str.ofString "__cached__") 174, val := PySem.Value.none },
              { hash := PySem.PyData.keyHash P (PySem.Str.ofString "PostError"), key := PySem.Value.str (PySem.Str.ofString "PostError") 228, val := PySem.Value.ref 39 },
              { hash := PySem.PyData.keyHash P (PySem.Str.ofString "MimeFault"), key := PySem.Value.str (PySem.Str.ofString "MimeFault") 244, val := PySem.Value.ref 52 },
              { hash := PySem.PyData.keyHash P (PySem.Str.ofString "NameFault"), key := PySem.Value.str (PySem.Str.ofString "NameFault") 260, val := PySem.Value.ref 64 },
              { hash := PySem.PyData.keyHash P (PySem.Str.ofString "worth_table"), key := PySem.Value.str (PySem.Str.ofString "worth_table") 268, val := PySem.Value.ref 71 },
              { hash := PySem.PyData.keyHash P (PySem.Str.ofString "group_codes"), key := PySem.Value.str (PySem.Str.ofString "group_codes") 274, val := PySem.Value.ref 76 },
              { hash := PySem.PyData.keyHash P (PySem.Str.ofString "group_octets"), key := PySem.Value.str (PySem.Str.ofString "group_octets") 280, val := PySem.Value.ref 81 },
              { hash := PySem.PyData.keyHash P (PySem.Str.ofString "part_encoded"), key := PySem.Value.str (PySem.Str.ofString "part_encoded") 290, val := PySem.Value.ref 88 },
              { hash := PySem.PyData.keyHash P (PySem.Str.ofString "part_numbers"), key := PySem.Value.str (PySem.Str.ofString "part_numbers") 300, val := PySem.Value.ref 95 },
              { hash := PySem.PyData.keyHash P (PySem.Str.ofString "part_decoded"), key := PySem.Value.str (PySem.Str.ofString "part_decoded") 314, val := PySem.Value.ref 102 },
              { hash := PySem.PyData.keyHash P (PySem.Str.ofString "upper_text"), key := PySem.Value.str (PySem.Str.ofString "upper_text") 322, val := PySem.Value.ref 107 },
              { hash := PySem.PyData.keyHash P (PySem.Str.ofString "DELIMITER"), key := PySem.Value.str (PySem.Str.ofString "DELIMITER") 326, val := PySem.Value.str (PySem.Str.ofString "/") 325 },
              { hash := PySem.PyData.keyHash P (PySem.Str.ofString "INBOX"), key := PySem.Value.str (PySem.Str.ofString "INBOX") 328, val := PySem.Value.str (PySem.Str.ofString "INBOX") 327 },
              { hash := PySem.PyData.keyHash P (PySem.Str.ofString "WILD_SIGNS"), key := PySem.Value.str (PySem.Str.ofString "WILD_SIGNS") 330, val := PySem.Value.str (PySem.Str.ofString "%*") 329 },
              { hash := PySem.PyData.keyHash P (PySem.Str.ofString "SHIFT_SIGNS"), key := PySem.Value.str (PySem.Str.ofString "SHIFT_SIGNS") 332,
                val :=
                  PySem.Value.bytes
                    #[65, 66, 67, 68, 69, 70, 71, 72, 73, 74, 75, 76, 77, 78, 79, 80, 81, 82, 83, 84, 85, 86, 87, 88, 89, 90, 97, 98, 99, 100, 101, 102, 103, 104, 105, 106, 107, 108, 109, 110, 111,
                      112, 113, 114, 115, 116, 117, 118, 119, 120, 121, 122, 48, 49, 50, 51, 52, 53, 54, 55, 56, 57, 43, 44]
                    331 },
              { hash := PySem.PyData.keyHash P (PySem.Str.ofString "is_plain_code"), key := PySem.Value.str (PySem.Str.ofString "is_plain_code") 339, val := PySem.Value.ref 114 },
              { hash := PySem.PyData.keyHash P (PySem.Str.ofString "is_half"), key := PySem.Value.str (PySem.Str.ofString "is_half") 346, val := PySem.Value.ref 121 },
              { hash := PySem.PyData.keyHash P (PySem.Str.ofString "utf16_octets"), key := PySem.Value.str (PySem.Str.ofString "utf16_octets") 359, val := PySem.Value.ref 128 },
              { hash := PySem.PyData.keyHash P (PySem.Str.ofString "run_behind"), key := PySem.Value.str (PySem.Str.ofString "run_behind") 368, val := PySem.Value.ref 135 },
              { hash := PySem.PyData.keyHash P (PySem.Str.ofString "utf7_octets"), key := PySem.Value.str (PySem.Str.ofString "utf7_octets") 379, val := PySem.Value.ref 142 },
              { hash := PySem.PyData.keyHash P (PySem.Str.ofString "shift_behind"), key := PySem.Value.str (PySem.Str.ofString "shift_behind") 388, val := PySem.Value.ref 149 },
              { hash := PySem.PyData.keyHash P (PySem.Str.ofString "units_text"), key := PySem.Value.str (PySem.Str.ofString "units_text") 401, val := PySem.Value.ref 156 },
              { hash := PySem.PyData.keyHash P (PySem.Str.ofString "shifted_text"), key := PySem.Value.str (PySem.Str.ofString "shifted_text") 412, val := PySem.Value.ref 163 },
              { hash := PySem.PyData.keyHash P (PySem.Str.ofString "utf7_text"), key := PySem.Value.str (PySem.Str.ofString "utf7_text") 424, val := PySem.Value.ref 170 },
              { hash := PySem.PyData.keyHash P (PySem.Str.ofString "first_part"), key := PySem.Value.str (PySem.Str.ofString "first_part") 432, val := PySem.Value.ref 177 },
              { hash := PySem.PyData.keyHash P (PySem.Str.ofString "normal_name"), key := PySem.Value.str (PySem.Str.ofString "normal_name") 441, val := PySem.Value.ref 184 },
              { hash := PySem.PyData.keyHash P (PySem.Str.ofString "is_barred_code"), key := PySem.Value.str (PySem.Str.ofString "is_barred_code") 448, val := PySem.Value.ref 191 },
              { hash := PySem.PyData.keyHash P (PySem.Str.ofString "check_name"), key := PySem.Value.str (PySem.Str.ofString "check_name") 458, val := PySem.Value.ref 198 },
              { hash := PySem.PyData.keyHash P (PySem.Str.ofString "name_of_wire"), key := PySem.Value.str (PySem.Str.ofString "name_of_wire") 465, val := PySem.Value.ref 205 },
              { hash := PySem.PyData.keyHash P (PySem.Str.ofString "parents"), key := PySem.Value.str (PySem.Str.ofString "parents") 474, val := PySem.Value.ref 212 },
              { hash := PySem.PyData.keyHash P (PySem.Str.ofString "bare_name"), key := PySem.Value.str (PySem.Str.ofString "bare_name") 484, val := PySem.Value.ref 219 },
              { hash := PySem.PyData.keyHash P (PySem.Str.ofString "new_name"), key := PySem.Value.str (PySem.Str.ofString "new_name") 491, val := PySem.Value.ref 226 },
              { hash := PySem.PyData.keyHash P (PySem.Str.ofString "_law_pieces"), key := PySem.Value.str (PySem.Str.ofString "_law_pieces") 499, val := PySem.Value.ref 231 },
              { hash := PySem.PyData.keyHash P (PySem.Str.ofString "_law_bare"), key := PySem.Value.str (PySem.Str.ofString "_law_bare") 507, val := PySem.Value.ref 238 },
              { hash := PySem.PyData.keyHash P (PySem.Str.ofString "_law_fault"), key := PySem.Value.str (PySem.Str.ofString "_law_fault") 519, val := PySem.Value.ref 245 },
              { hash := PySem.PyData.keyHash P (PySem.Str.ofString "_law_made"), key := PySem.Value.str (PySem.Str.ofString "_law_made") 527, val := PySem.Value.ref 252 },
              { hash := PySem.PyData.keyHash P (PySem.Str.ofString "law"), key := PySem.Value.str (PySem.Str.ofString "law") 533, val := PySem.Value.ref 257 }]
            45 }) ::
    (nat_lit 15, { cls := PySem.Value.type "tuple", data := PySem.Data.seq #[PySem.Value.type "Exception"] }) ::
    (nat_lit 22, { cls := PySem.Value.type "tuple", data := PySem.Data.seq #[PySem.Value.int (-1) 202] }) :: (nat_lit 23, { cls := PySem.Value.type "tuple", data := PySem.Data.seq #[] }) ::
    (nat_lit 25,
      { cls := PySem.Value.type "tuple",
        data := PySem.Data.seq #[PySem.Value.str (PySem.Str.ofString "self") 206, PySem.Value.str (PySem.Str.ofString "what") 207, PySem.Value.str (PySem.Str.ofString "at") 208] }) ::
    (nat_lit 26, { cls := PySem.Value.type "tuple", data := PySem.Data.seq #[] }) ::
    (nat_lit 28,
      { cls := PySem.Value.type "code",
        data :=
          PySem.Data.fields
            #[PySem.Value.str (PySem.Str.ofString "__init__") 203, PySem.Value.str (PySem.Str.ofString "PostError.__init__") 204, PySem.Value.str (PySem.Str.ofString "/claim/cut.py") 205,
              PySem.Value.int 4 0, PySem.Value.int 3 0, PySem.Value.int 0 0, PySem.Value.int 0 0, PySem.Value.int 3 0, PySem.Value.ref 23, PySem.Value.bool Bool.true, PySem.Value.int 181 0,
              PySem.Value.ref 24, PySem.Value.none, PySem.Value.ref 25, PySem.Value.ref 26, PySem.Value.ref 27, PySem.Value.int 209 0, PySem.Value.int 4 0,
              PySem.Value.str (PySem.Str.ofString "/claim/cut.py") 210] }) ::
    (nat_lit 29,
      { cls := PySem.Value.type "function",
        data :=
          PySem.Data.func
            { name := PySem.Str.ofString "__init__", qualname := PySem.Str.ofString "PostError.__init__", params := astA1x0, body := PySem.FuncBody.stmts astB1x0, scope := astC1x0, globals := 3,
              closure := [], defaults := PySem.Value.ref 22, kwdefaults := PySem.Value.none, pyModule := PySem.Value.str (PySem.Str.ofString "postkeep.errors") 187, code := PySem.Value.ref 28 } }) ::
    (nat_lit 30, { cls := PySem.Value.type "tuple", data := PySem.Data.seq #[] }) ::
    (nat_lit 32, { cls := PySem.Value.type "tuple", data := PySem.Data.seq #[PySem.Value.str (PySem.Str.ofString "self") 215] }) ::
    (nat_lit 33, { cls := PySem.Value.type "tuple", data := PySem.Data.seq #[] }) ::
    (nat_lit 35,
      { cls := PySem.Value.type "code",
        data :=
          PySem.Data.fields
            #[PySem.Value.str (PySem.Str.ofString "told") 212, PySem.Value.str (PySem.Str.ofString "PostError.told") 213, PySem.Value.str (PySem.Str.ofString "/claim/cut.py") 214, PySem.Value.int 9 0,
              PySem.Value.int 1 0, PySem.Value.int 0 0, PySem.Value.int 0 0, PySem.Value.int 3 0, PySem.Value.ref 30, PySem.Value.bool Bool.true, PySem.Value.int 181 0, PySem.Value.ref 31,
              PySem.Value.none, PySem.Value.ref 32, PySem.Value.ref 33, PySem.Value.ref 34, PySem.Value.int 216 0, PySem.Value.int 9 0, PySem.Value.str (PySem.Str.ofString "/claim/cut.py") 217] }) ::
    (nat_lit 36,
      { cls := PySem.Value.type "function",
        data :=
          PySem.Data.func
            { name := PySem.Str.ofString "told", qualname := PySem.Str.ofString "PostError.told", params := astA1x1, body := PySem.FuncBody.stmts astB1x1, scope := astC1x1, globals := 3,
              closure := [], defaults := PySem.Value.none, kwdefaults := PySem.Value.none, pyModule := PySem.Value.str (PySem.Str.ofString "postkeep.errors") 187, code := PySem.Value.ref 35 } }) ::
    (nat_lit 37, { cls := PySem.Value.type "tuple", data := PySem.Data.seq #[PySem.Value.str (PySem.Str.ofString "at") 219, PySem.Value.str (PySem.Str.ofString "what") 220] }) ::
    (nat_lit 38,
      { cls := PySem.Value.type "dict",
        data :=
          PySem.Data.dict
            #[{ hash := PySem.PyData.keyHash P (PySem.Str.ofString "__module__"), key := PySem.Value.str (PySem.Str.ofString "__module__") 196,
                val := PySem.Value.str (PySem.Str.ofString "postkeep.errors") 187 },
              { hash := PySem.PyData.keyHash P (PySem.Str.ofString "__firstlineno__"), key := PySem.Value.str (PySem.Str.ofString "__firstlineno__") 200, val := PySem.Value.int 2 199 },
              { hash := PySem.PyData.keyHash P (PySem.Str.ofString "__init__"), key := PySem.Value.str (PySem.Str.ofString "__init__") 211, val := PySem.Value.ref 29 },
              { hash := PySem.PyData.keyHash P (PySem.Str.ofString "told"), key := PySem.Value.str (PySem.Str.ofString "told") 218, val := PySem.Value.ref 36 },
              { hash := PySem.PyData.keyHash P (PySem.Str.ofString "__static_attributes__"), key := PySem.Value.str (PySem.Str.ofString "__static_attributes__") 221, val := PySem.Value.ref 37 },
              { hash := PySem.PyData.keyHash P (PySem.Str.ofString "__weakref__"), key := PySem.Value.str (PySem.Str.ofString "__weakref__") 223, val := PySem.Value.ref 40 },
              { hash := PySem.PyData.keyHash P (PySem.Str.ofString "__doc__"), key := PySem.Value.str (PySem.Str.ofString "__doc__") 224, val := PySem.Value.none }]
            3 }) ::
    (nat_lit 39,
      { cls := PySem.Value.type "type",
        data :=
          PySem.Data.cls
            { name := PySem.Str.ofString "PostError", bases := [PySem.Value.type "Exception"],
              mro := [PySem.Value.ref 39, PySem.Value.type "Exception", PySem.Value.type "BaseException", PySem.Value.type "object"], ns := 38, qualname := PySem.Str.ofString "PostError",
              subclasses := [PySem.Value.ref 52, PySem.Value.ref 64] },
        slots :=
          #[Option.some (PySem.Value.ref 15), Option.none, Option.some (PySem.Value.str (PySem.Str.ofString "PostError") 189), Option.some (PySem.Value.str (PySem.Str.ofString "PostError") 197),
            Option.some (PySem.Value.builtin "Exception.__new__"), Option.some (PySem.Value.bool Bool.true)] }) ::
    (nat_lit 40,
      { cls := PySem.Value.type "getset_descriptor",
        data := PySem.Data.fields #[PySem.Value.str (PySem.Str.ofString "__weakref__") 222, PySem.Value.ref 39, PySem.Value.builtin "ExceptionGroup.__weakref__", PySem.Value.none] }) ::
    (nat_lit 43, { cls := PySem.Value.type "tuple", data := PySem.Data.seq #[PySem.Value.ref 39] }) :: (nat_lit 50, { cls := PySem.Value.type "tuple", data := PySem.Data.seq #[] }) ::
    (nat_lit 51,
      { cls := PySem.Value.type "dict",
        data :=
          PySem.Data.dict
            #[{ hash := PySem.PyData.keyHash P (PySem.Str.ofString "__module__"), key := PySem.Value.str (PySem.Str.ofString "__module__") 236,
                val := PySem.Value.str (PySem.Str.ofString "postkeep.errors") 187 },
              { hash := PySem.PyData.keyHash P (PySem.Str.ofString "__firstlineno__"), key := PySem.Value.str (PySem.Str.ofString "__firstlineno__") 240, val := PySem.Value.int 11 239 },
              { hash := PySem.PyData.keyHash P (PySem.Str.ofString "__static_attributes__"), key := PySem.Value.str (PySem.Str.ofString "__static_attributes__") 241, val := PySem.Value.ref 50 },
              { hash := PySem.PyData.keyHash P (PySem.Str.ofString "__doc__"), key := PySem.Value.str (PySem.Str.ofString "__doc__") 242, val := PySem.Value.none }]
            2 }) ::
    (nat_lit 52,
      { cls := PySem.Value.type "type",
        data :=
          PySem.Data.cls
            { name := PySem.Str.ofString "MimeFault", bases := [PySem.Value.ref 39],
              mro := [PySem.Value.ref 52, PySem.Value.ref 39, PySem.Value.type "Exception", PySem.Value.type "BaseException", PySem.Value.type "object"], ns := 51,
              qualname := PySem.Str.ofString "MimeFault" },
        slots :=
          #[Option.some (PySem.Value.ref 43), Option.none, Option.some (PySem.Value.str (PySem.Str.ofString "MimeFault") 229), Option.some (PySem.Value.str (PySem.Str.ofString "MimeFault") 237),
            Option.some (PySem.Value.builtin "Exception.__new__"), Option.some (PySem.Value.bool Bool.true)] }) ::
    (nat_lit 55, { cls := PySem.Value.type "tuple", data := PySem.Data.seq #[PySem.Value.ref 39] }) :: (nat_lit 62, { cls := PySem.Value.type "tuple", data := PySem.Data.seq #[] }) ::
    (nat_lit 63,
      { cls := PySem.Value.type "dict",
        data :=
          PySem.Data.dict
            #[{ hash := PySem.PyData.keyHash P (PySem.Str.ofString "__module__"), key := PySem.Value.str (PySem.Str.ofString "__module__") 252,
                val := PySem.Value.str (PySem.Str.ofString "postkeep.errors") 187 },
              { hash := PySem.PyData.keyHash P (PySem.Str.ofString "__firstlineno__"), key := PySem.Value.str (PySem.Str.ofString "__firstlineno__") 256, val := PySem.Value.int 13 255 },
              { hash := PySem.PyData.keyHash P (PySem.Str.ofString "__static_attributes__"), key := PySem.Value.str (PySem.Str.ofString "__static_attributes__") 257, val := PySem.Value.ref 62 },
              { hash := PySem.PyData.keyHash P (PySem.Str.ofString "__doc__"), key := PySem.Value.str (PySem.Str.ofString "__doc__") 258, val := PySem.Value.none }]
            2 }) ::
    (nat_lit 64,
      { cls := PySem.Value.type "type",
        data :=
          PySem.Data.cls
            { name := PySem.Str.ofString "NameFault", bases := [PySem.Value.ref 39],
              mro := [PySem.Value.ref 64, PySem.Value.ref 39, PySem.Value.type "Exception", PySem.Value.type "BaseException", PySem.Value.type "object"], ns := 63,
              qualname := PySem.Str.ofString "NameFault" },
        slots :=
          #[Option.some (PySem.Value.ref 55), Option.none, Option.some (PySem.Value.str (PySem.Str.ofString "NameFault") 245), Option.some (PySem.Value.str (PySem.Str.ofString "NameFault") 253),
            Option.some (PySem.Value.builtin "Exception.__new__"), Option.some (PySem.Value.bool Bool.true)] }) ::
    (nat_lit 67, { cls := PySem.Value.type "tuple", data := PySem.Data.seq #[] }) ::
    (nat_lit 70,
      { cls := PySem.Value.type "code",
        data :=
          PySem.Data.fields
            #[PySem.Value.str (PySem.Str.ofString "worth_table") 263, PySem.Value.str (PySem.Str.ofString "worth_table") 264, PySem.Value.str (PySem.Str.ofString "/claim/cut.py") 265,
              PySem.Value.int 16 0, PySem.Value.int 1 0, PySem.Value.int 0 0, PySem.Value.int 0 0, PySem.Value.int 3 0, PySem.Value.ref 67, PySem.Value.bool Bool.true, PySem.Value.int 181 0,
              PySem.Value.ref 68, PySem.Value.none, PySem.Value.none, PySem.Value.none, PySem.Value.ref 69, PySem.Value.int 266 0, PySem.Value.int 16 0,
              PySem.Value.str (PySem.Str.ofString "/claim/cut.py") 267] }) ::
    (nat_lit 71,
      { cls := PySem.Value.type "function",
        data :=
          PySem.Data.func
            { name := PySem.Str.ofString "worth_table", qualname := PySem.Str.ofString "worth_table", params := astA5, body := PySem.FuncBody.stmts astB5, scope := astC5, globals := 3, closure := [],
              defaults := PySem.Value.none, kwdefaults := PySem.Value.none, pyModule := PySem.Value.str (PySem.Str.ofString "postkeep.base64") 261, code := PySem.Value.ref 70 } }) ::
    (nat_lit 72, { cls := PySem.Value.type "tuple", data := PySem.Data.seq #[] }) ::
    (nat_lit 75,
      { cls := PySem.Value.type "code",
        data :=
          PySem.Data.fields
            #[PySem.Value.str (PySem.Str.ofString "group_codes") 269, PySem.Value.str (PySem.Str.ofString "group_codes") 270, PySem.Value.str (PySem.Str.ofString "/claim/cut.py") 271,
              PySem.Value.int 18 0, PySem.Value.int 2 0, PySem.Value.int 0 0, PySem.Value.int 0 0, PySem.Value.int 3 0, PySem.Value.ref 72, PySem.Value.bool Bool.true, PySem.Value.int 181 0,
              PySem.Value.ref 73, PySem.Value.none, PySem.Value.none, PySem.Value.none, PySem.Value.ref 74, PySem.Value.int 272 0, PySem.Value.int 18 0,
              PySem.Value.str (PySem.Str.ofString "/claim/cut.py") 273] }) ::
    (nat_lit 76,
      { cls := PySem.Value.type "function",
        data :=
          PySem.Data.func
            { name := PySem.Str.ofString "group_codes", qualname := PySem.Str.ofString "group_codes", params := astA6, body := PySem.FuncBody.stmts astB6, scope := astC6, globals := 3, closure := [],
              defaults := PySem.Value.none, kwdefaults := PySem.Value.none, pyModule := PySem.Value.str (PySem.Str.ofString "postkeep.base64") 261, code := PySem.Value.ref 75 } }) ::
    (nat_lit 77, { cls := PySem.Value.type "tuple", data := PySem.Data.seq #[] }) ::
    (nat_lit 80,
      { cls := PySem.Value.type "code",
        data :=
          PySem.Data.fields
            #[PySem.Value.str (PySem.Str.ofString "group_octets") 275, PySem.Value.str (PySem.Str.ofString "group_octets") 276, PySem.Value.str (PySem.Str.ofString "/claim/cut.py") 277,
              PySem.Value.int 25 0, PySem.Value.int 1 0, PySem.Value.int 0 0, PySem.Value.int 0 0, PySem.Value.int 3 0, PySem.Value.ref 77, PySem.Value.bool Bool.true, PySem.Value.int 181 0,
              PySem.Value.ref 78, PySem.Value.none, PySem.Value.none, PySem.Value.none, PySem.Value.ref 79, PySem.Value.int 278 0, PySem.Value.int 25 0,
              PySem.Value.str (PySem.Str.ofString "/claim/cut.py") 279] }) ::
    (nat_lit 81,
      { cls := PySem.Value.type "function",
        data :=
          PySem.Data.func
            { name := PySem.Str.ofString "group_octets", qualname := PySem.Str.ofString "group_octets", params := astA7, body := PySem.FuncBody.stmts astB7, scope := astC7, globals := 3,
              closure := [], defaults := PySem.Value.none, kwdefaults := PySem.Value.none, pyModule := PySem.Value.str (PySem.Str.ofString "postkeep.base64") 261, code := PySem.Value.ref 80 } }) ::
    (nat_lit 82, { cls := PySem.Value.type "tuple", data := PySem.Data.seq #[] }) ::
    (nat_lit 84,
      { cls := PySem.Value.type "tuple",
        data :=
          PySem.Data.seq
            #[PySem.Value.str (PySem.Str.ofString "octets") 284, PySem.Value.str (PySem.Str.ofString "alphabet") 285, PySem.Value.str (PySem.Str.ofString "codes") 286,
              PySem.Value.str (PySem.Str.ofString "begin") 287] }) ::
    (nat_lit 85, { cls := PySem.Value.type "tuple", data := PySem.Data.seq #[] }) ::
    (nat_lit 87,
      { cls := PySem.Value.type "code",
        data :=
          PySem.Data.fields
            #[PySem.Value.str (PySem.Str.ofString "part_encoded") 281, PySem.Value.str (PySem.Str.ofString "part_encoded") 282, PySem.Value.str (PySem.Str.ofString "/claim/cut.py") 283,
              PySem.Value.int 33 0, PySem.Value.int 2 0, PySem.Value.int 0 0, PySem.Value.int 0 0, PySem.Value.int 3 0, PySem.Value.ref 82, PySem.Value.bool Bool.true, PySem.Value.int 181 0,
              PySem.Value.ref 83, PySem.Value.none, PySem.Value.ref 84, PySem.Value.ref 85, PySem.Value.ref 86, PySem.Value.int 288 0, PySem.Value.int 33 0,
              PySem.Value.str (PySem.Str.ofString "/claim/cut.py") 289] }) ::
    (nat_lit 88,
      { cls := PySem.Value.type "function",
        data :=
          PySem.Data.func
            { name := PySem.Str.ofString "part_encoded", qualname := PySem.Str.ofString "part_encoded", params := astA8, body := PySem.FuncBody.stmts astB8, scope := astC8, globals := 3,
              closure := [], defaults := PySem.Value.none, kwdefaults := PySem.Value.none, pyModule := PySem.Value.str (PySem.Str.ofString "postkeep.base64") 261, code := PySem.Value.ref 87 } }) ::
    (nat_lit 89, { cls := PySem.Value.type "tuple", data := PySem.Data.seq #[] }) ::
    (nat_lit 91,
      { cls := PySem.Value.type "tuple",
        data :=
          PySem.Data.seq
            #[PySem.Value.str (PySem.Str.ofString "signs") 294, PySem.Value.str (PySem.Str.ofString "worths") 295, PySem.Value.str (PySem.Str.ofString "worth_row") 296,
              PySem.Value.str (PySem.Str.ofString "at") 297] }) ::
    (nat_lit 92, { cls := PySem.Value.type "tuple", data := PySem.Data.seq #[] }) ::
    (nat_lit 94,
      { cls := PySem.Value.type "code",
        data :=
          PySem.Data.fields
            #[PySem.Value.str (PySem.Str.ofString "part_numbers") 291, PySem.Value.str (PySem.Str.ofString "part_numbers") 292, PySem.Value.str (PySem.Str.ofString "/claim/cut.py") 293,
              PySem.Value.int 38 0, PySem.Value.int 2 0, PySem.Value.int 0 0, PySem.Value.int 0 0, PySem.Value.int 3 0, PySem.Value.ref 89, PySem.Value.bool Bool.true, PySem.Value.int 181 0,
              PySem.Value.ref 90, PySem.Value.none, PySem.Value.ref 91, PySem.Value.ref 92, PySem.Value.ref 93, PySem.Value.int 298 0, PySem.Value.int 38 0,
              PySem.Value.str (PySem.Str.ofString "/claim/cut.py") 299] }) ::
    (nat_lit 95,
      { cls := PySem.Value.type "function",
        data :=
          PySem.Data.func
            { name := PySem.Str.ofString "part_numbers", qualname := PySem.Str.ofString "part_numbers", params := astA9, body := PySem.FuncBody.stmts astB9, scope := astC9, globals := 3,
              closure := [], defaults := PySem.Value.none, kwdefaults := PySem.Value.none, pyModule := PySem.Value.str (PySem.Str.ofString "postkeep.base64") 261, code := PySem.Value.ref 94 } }) ::
    (nat_lit 96, { cls := PySem.Value.type "tuple", data := PySem.Data.seq #[] }) ::
    (nat_lit 98,
      { cls := PySem.Value.type "tuple",
        data :=
          PySem.Data.seq
            #[PySem.Value.str (PySem.Str.ofString "signs") 304, PySem.Value.str (PySem.Str.ofString "alphabet") 305, PySem.Value.str (PySem.Str.ofString "worth_row") 306,
              PySem.Value.str (PySem.Str.ofString "found") 307, PySem.Value.str (PySem.Str.ofString "begin") 308, PySem.Value.str (PySem.Str.ofString "group") 309,
              PySem.Value.str (PySem.Str.ofString "octets") 310, PySem.Value.str (PySem.Str.ofString "spare") 311] }) ::
    (nat_lit 99, { cls := PySem.Value.type "tuple", data := PySem.Data.seq #[] }) ::
    (nat_lit 101,
      { cls := PySem.Value.type "code",
        data :=
          PySem.Data.fields
            #[PySem.Value.str (PySem.Str.ofString "part_decoded") 301, PySem.Value.str (PySem.Str.ofString "part_decoded") 302, PySem.Value.str (PySem.Str.ofString "/claim/cut.py") 303,
              PySem.Value.int 45 0, PySem.Value.int 2 0, PySem.Value.int 0 0, PySem.Value.int 0 0, PySem.Value.int 3 0, PySem.Value.ref 96, PySem.Value.bool Bool.true, PySem.Value.int 181 0,
              PySem.Value.ref 97, PySem.Value.none, PySem.Value.ref 98, PySem.Value.ref 99, PySem.Value.ref 100, PySem.Value.int 312 0, PySem.Value.int 45 0,
              PySem.Value.str (PySem.Str.ofString "/claim/cut.py") 313] }) ::
    (nat_lit 102,
      { cls := PySem.Value.type "function",
        data :=
          PySem.Data.func
            { name := PySem.Str.ofString "part_decoded", qualname := PySem.Str.ofString "part_decoded", params := astA10, body := PySem.FuncBody.stmts astB10, scope := astC10, globals := 3,
              closure := [], defaults := PySem.Value.none, kwdefaults := PySem.Value.none, pyModule := PySem.Value.str (PySem.Str.ofString "postkeep.base64") 261, code := PySem.Value.ref 101 } }) ::
    (nat_lit 103, { cls := PySem.Value.type "tuple", data := PySem.Data.seq #[] }) ::
    (nat_lit 106,
      { cls := PySem.Value.type "code",
        data :=
          PySem.Data.fields
            #[PySem.Value.str (PySem.Str.ofString "upper_text") 317, PySem.Value.str (PySem.Str.ofString "upper_text") 318, PySem.Value.str (PySem.Str.ofString "/claim/cut.py") 319,
              PySem.Value.int 58 0, PySem.Value.int 1 0, PySem.Value.int 0 0, PySem.Value.int 0 0, PySem.Value.int 3 0, PySem.Value.ref 103, PySem.Value.bool Bool.true, PySem.Value.int 181 0,
              PySem.Value.ref 104, PySem.Value.none, PySem.Value.none, PySem.Value.none, PySem.Value.ref 105, PySem.Value.int 320 0, PySem.Value.int 58 0,
              PySem.Value.str (PySem.Str.ofString "/claim/cut.py") 321] }) ::
    (nat_lit 107,
      { cls := PySem.Value.type "function",
        data :=
          PySem.Data.func
            { name := PySem.Str.ofString "upper_text", qualname := PySem.Str.ofString "upper_text", params := astA12, body := PySem.FuncBody.stmts astB12, scope := astC12, globals := 3, closure := [],
              defaults := PySem.Value.none, kwdefaults := PySem.Value.none, pyModule := PySem.Value.str (PySem.Str.ofString "postkeep.octets") 315, code := PySem.Value.ref 106 } }) ::
    (nat_lit 108, { cls := PySem.Value.type "tuple", data := PySem.Data.seq #[] }) ::
    (nat_lit 110, { cls := PySem.Value.type "tuple", data := PySem.Data.seq #[PySem.Value.str (PySem.Str.ofString "code") 336] }) ::
    (nat_lit 111, { cls := PySem.Value.type "tuple", data := PySem.Data.seq #[] }) ::
    (nat_lit 113,
      { cls := PySem.Value.type "code",
        data :=
          PySem.Data.fields
            #[PySem.Value.str (PySem.Str.ofString "is_plain_code") 333, PySem.Value.str (PySem.Str.ofString "is_plain_code") 334, PySem.Value.str (PySem.Str.ofString "/claim/cut.py") 335,
              PySem.Value.int 65 0, PySem.Value.int 1 0, PySem.Value.int 0 0, PySem.Value.int 0 0, PySem.Value.int 3 0, PySem.Value.ref 108, PySem.Value.bool Bool.true, PySem.Value.int 181 0,
              PySem.Value.ref 109, PySem.Value.none, PySem.Value.ref 110, PySem.Value.ref 111, PySem.Value.ref 112, PySem.Value.int 337 0, PySem.Value.int 65 0,
              PySem.Value.str (PySem.Str.ofString "/claim/cut.py") 338] }) ::
    (nat_lit 114,
      { cls := PySem.Value.type "function",
        data :=
          PySem.Data.func
            { name := PySem.Str.ofString "is_plain_code", qualname := PySem.Str.ofString "is_plain_code", params := astA18, body := PySem.FuncBody.stmts astB18, scope := astC18, globals := 3,
              closure := [], defaults := PySem.Value.none, kwdefaults := PySem.Value.none, pyModule := PySem.Value.str (PySem.Str.ofString "postkeep.names") 323, code := PySem.Value.ref 113 } }) ::
    (nat_lit 115, { cls := PySem.Value.type "tuple", data := PySem.Data.seq #[] }) ::
    (nat_lit 117, { cls := PySem.Value.type "tuple", data := PySem.Data.seq #[PySem.Value.str (PySem.Str.ofString "code") 343] }) ::
    (nat_lit 118, { cls := PySem.Value.type "tuple", data := PySem.Data.seq #[] }) ::
    (nat_lit 120,
      { cls := PySem.Value.type "code",
        data :=
          PySem.Data.fields
            #[PySem.Value.str (PySem.Str.ofString "is_half") 340, PySem.Value.str (PySem.Str.ofString "is_half") 341, PySem.Value.str (PySem.Str.ofString "/claim/cut.py") 342, PySem.Value.int 67 0,
              PySem.Value.int 1 0, PySem.Value.int 0 0, PySem.Value.int 0 0, PySem.Value.int 3 0, PySem.Value.ref 115, PySem.Value.bool Bool.true, PySem.Value.int 181 0, PySem.Value.ref 116,
              PySem.Value.none, PySem.Value.ref 117, PySem.Value.ref 118, PySem.Value.ref 119, PySem.Value.int 344 0, PySem.Value.int 67 0,
              PySem.Value.str (PySem.Str.ofString "/claim/cut.py") 345] }) ::
    (nat_lit 121,
      { cls := PySem.Value.type "function",
        data :=
          PySem.Data.func
            { name := PySem.Str.ofString "is_half", qualname := PySem.Str.ofString "is_half", params := astA19, body := PySem.FuncBody.stmts astB19, scope := astC18, globals := 3, closure := [],
              defaults := PySem.Value.none, kwdefaults := PySem.Value.none, pyModule := PySem.Value.str (PySem.Str.ofString "postkeep.names") 323, code := PySem.Value.ref 120 } }) ::
    (nat_lit 122, { cls := PySem.Value.type "tuple", data := PySem.Data.seq #[] }) ::
    (nat_lit 124,
      { cls := PySem.Value.type "tuple",
        data :=
          PySem.Data.seq
            #[PySem.Value.str (PySem.Str.ofString "text") 350, PySem.Value.str (PySem.Str.ofString "begin") 351, PySem.Value.str (PySem.Str.ofString "end") 352,
              PySem.Value.str (PySem.Str.ofString "out") 353, PySem.Value.str (PySem.Str.ofString "at") 354, PySem.Value.str (PySem.Str.ofString "code") 355,
              PySem.Value.str (PySem.Str.ofString "high") 356] }) ::
    (nat_lit 125, { cls := PySem.Value.type "tuple", data := PySem.Data.seq #[] }) ::
    (nat_lit 127,
      { cls := PySem.Value.type "code",
        data :=
          PySem.Data.fields
            #[PySem.Value.str (PySem.Str.ofString "utf16_octets") 347, PySem.Value.str (PySem.Str.ofString "utf16_octets") 348, PySem.Value.str (PySem.Str.ofString "/claim/cut.py") 349,
              PySem.Value.int 69 0, PySem.Value.int 3 0, PySem.Value.int 0 0, PySem.Value.int 0 0, PySem.Value.int 3 0, PySem.Value.ref 122, PySem.Value.bool Bool.true, PySem.Value.int 181 0,
              PySem.Value.ref 123, PySem.Value.none, PySem.Value.ref 124, PySem.Value.ref 125, PySem.Value.ref 126, PySem.Value.int 357 0, PySem.Value.int 69 0,
              PySem.Value.str (PySem.Str.ofString "/claim/cut.py") 358] }) ::
    (nat_lit 128,
      { cls := PySem.Value.type "function",
        data :=
          PySem.Data.func
            { name := PySem.Str.ofString "utf16_octets", qualname := PySem.Str.ofString "utf16_octets", params := astA20, body := PySem.FuncBody.stmts astB20, scope := astC20, globals := 3,
              closure := [], defaults := PySem.Value.none, kwdefaults := PySem.Value.none, pyModule := PySem.Value.str (PySem.Str.ofString "postkeep.names") 323, code := PySem.Value.ref 127 } }) ::
    (nat_lit 129, { cls := PySem.Value.type "tuple", data := PySem.Data.seq #[] }) ::
    (nat_lit 131,
      { cls := PySem.Value.type "tuple",
        data := PySem.Data.seq #[PySem.Value.str (PySem.Str.ofString "text") 363, PySem.Value.str (PySem.Str.ofString "begin") 364, PySem.Value.str (PySem.Str.ofString "end") 365] }) ::
    (nat_lit 132, { cls := PySem.Value.type "tuple", data := PySem.Data.seq #[] }) ::
    (nat_lit 134,
      { cls := PySem.Value.type "code",
        data :=
          PySem.Data.fields
            #[PySem.Value.str (PySem.Str.ofString "run_behind") 360, PySem.Value.str (PySem.Str.ofString "run_behind") 361, PySem.Value.str (PySem.Str.ofString "/claim/cut.py") 362,
              PySem.Value.int 83 0, PySem.Value.int 2 0, PySem.Value.int 0 0, PySem.Value.int 0 0, PySem.Value.int 3 0, PySem.Value.ref 129, PySem.Value.bool Bool.true, PySem.Value.int 181 0,
              PySem.Value.ref 130, PySem.Value.none, PySem.Value.ref 131, PySem.Value.ref 132, PySem.Value.ref 133, PySem.Value.int 366 0, PySem.Value.int 83 0,
              PySem.Value.str (PySem.Str.ofString "/claim/cut.py") 367] }) ::
    (nat_lit 135,
      { cls := PySem.Value.type "function",
        data :=
          PySem.Data.func
            { name := PySem.Str.ofString "run_behind", qualname := PySem.Str.ofString "run_behind", params := astA21, body := PySem.FuncBody.stmts astB21, scope := astC21, globals := 3, closure := [],
              defaults := PySem.Value.none, kwdefaults := PySem.Value.none, pyModule := PySem.Value.str (PySem.Str.ofString "postkeep.names") 323, code := PySem.Value.ref 134 } }) ::
    (nat_lit 136, { cls := PySem.Value.type "tuple", data := PySem.Data.seq #[] }) ::
    (nat_lit 138,
      { cls := PySem.Value.type "tuple",
        data :=
          PySem.Data.seq
            #[PySem.Value.str (PySem.Str.ofString "text") 372, PySem.Value.str (PySem.Str.ofString "out") 373, PySem.Value.str (PySem.Str.ofString "at") 374,
              PySem.Value.str (PySem.Str.ofString "code") 375, PySem.Value.str (PySem.Str.ofString "end") 376] }) ::
    (nat_lit 139, { cls := PySem.Value.type "tuple", data := PySem.Data.seq #[] }) ::
    (nat_lit 141,
      { cls := PySem.Value.type "code",
        data :=
          PySem.Data.fields
            #[PySem.Value.str (PySem.Str.ofString "utf7_octets") 369, PySem.Value.str (PySem.Str.ofString "utf7_octets") 370, PySem.Value.str (PySem.Str.ofString "/claim/cut.py") 371,
              PySem.Value.int 88 0, PySem.Value.int 1 0, PySem.Value.int 0 0, PySem.Value.int 0 0, PySem.Value.int 3 0, PySem.Value.ref 136, PySem.Value.bool Bool.true, PySem.Value.int 181 0,
              PySem.Value.ref 137, PySem.Value.none, PySem.Value.ref 138, PySem.Value.ref 139, PySem.Value.ref 140, PySem.Value.int 377 0, PySem.Value.int 88 0,
              PySem.Value.str (PySem.Str.ofString "/claim/cut.py") 378] }) ::
    (nat_lit 142,
      { cls := PySem.Value.type "function",
        data :=
          PySem.Data.func
            { name := PySem.Str.ofString "utf7_octets", qualname := PySem.Str.ofString "utf7_octets", params := astA22, body := PySem.FuncBody.stmts astB22, scope := astC22, globals := 3,
              closure := [], defaults := PySem.Value.none, kwdefaults := PySem.Value.none, pyModule := PySem.Value.str (PySem.Str.ofString "postkeep.names") 323, code := PySem.Value.ref 141 } }) ::
    (nat_lit 143, { cls := PySem.Value.type "tuple", data := PySem.Data.seq #[] }) ::
    (nat_lit 145,
      { cls := PySem.Value.type "tuple",
        data := PySem.Data.seq #[PySem.Value.str (PySem.Str.ofString "octets") 383, PySem.Value.str (PySem.Str.ofString "begin") 384, PySem.Value.str (PySem.Str.ofString "end") 385] }) ::
    (nat_lit 146, { cls := PySem.Value.type "tuple", data := PySem.Data.seq #[] }) ::
    (nat_lit 148,
      { cls := PySem.Value.type "code",
        data :=
          PySem.Data.fields
            #[PySem.Value.str (PySem.Str.ofString "shift_behind") 380, PySem.Value.str (PySem.Str.ofString "shift_behind") 381, PySem.Value.str (PySem.Str.ofString "/claim/cut.py") 382,
              PySem.Value.int 105 0, PySem.Value.int 2 0, PySem.Value.int 0 0, PySem.Value.int 0 0, PySem.Value.int 3 0, PySem.Value.ref 143, PySem.Value.bool Bool.true, PySem.Value.int 181 0,
              PySem.Value.ref 144, PySem.Value.none, PySem.Value.ref 145, PySem.Value.ref 146, PySem.Value.ref 147, PySem.Value.int 386 0, PySem.Value.int 105 0,
              PySem.Value.str (PySem.Str.ofString "/claim/cut.py") 387] }) ::
    (nat_lit 149,
      { cls := PySem.Value.type "function",
        data :=
          PySem.Data.func
            { name := PySem.Str.ofString "shift_behind", qualname := PySem.Str.ofString "shift_behind", params := astA23, body := PySem.FuncBody.stmts astB23, scope := astC23, globals := 3,
              closure := [], defaults := PySem.Value.none, kwdefaults := PySem.Value.none, pyModule := PySem.Value.str (PySem.Str.ofString "postkeep.names") 323, code := PySem.Value.ref 148 } }) ::
    (nat_lit 150, { cls := PySem.Value.type "tuple", data := PySem.Data.seq #[] }) ::
    (nat_lit 152,
      { cls := PySem.Value.type "tuple",
        data :=
          PySem.Data.seq
            #[PySem.Value.str (PySem.Str.ofString "raw") 392, PySem.Value.str (PySem.Str.ofString "begin") 393, PySem.Value.str (PySem.Str.ofString "signs") 394,
              PySem.Value.str (PySem.Str.ofString "high") 395, PySem.Value.str (PySem.Str.ofString "place") 396, PySem.Value.str (PySem.Str.ofString "at") 397,
              PySem.Value.str (PySem.Str.ofString "code") 398] }) ::
    (nat_lit 153, { cls := PySem.Value.type "tuple", data := PySem.Data.seq #[] }) ::
    (nat_lit 155,
      { cls := PySem.Value.type "code",
        data :=
          PySem.Data.fields
            #[PySem.Value.str (PySem.Str.ofString "units_text") 389, PySem.Value.str (PySem.Str.ofString "units_text") 390, PySem.Value.str (PySem.Str.ofString "/claim/cut.py") 391,
              PySem.Value.int 112 0, PySem.Value.int 2 0, PySem.Value.int 0 0, PySem.Value.int 0 0, PySem.Value.int 3 0, PySem.Value.ref 150, PySem.Value.bool Bool.true, PySem.Value.int 181 0,
              PySem.Value.ref 151, PySem.Value.none, PySem.Value.ref 152, PySem.Value.ref 153, PySem.Value.ref 154, PySem.Value.int 399 0, PySem.Value.int 112 0,
              PySem.Value.str (PySem.Str.ofString "/claim/cut.py") 400] }) ::
    (nat_lit 156,
      { cls := PySem.Value.type "function",
        data :=
          PySem.Data.func
            { name := PySem.Str.ofString "units_text", qualname := PySem.Str.ofString "units_text", params := astA24, body := PySem.FuncBody.stmts astB24, scope := astC24, globals := 3, closure := [],
              defaults := PySem.Value.none, kwdefaults := PySem.Value.none, pyModule := PySem.Value.str (PySem.Str.ofString "postkeep.names") 323, code := PySem.Value.ref 155 } }) ::
    (nat_lit 157, { cls := PySem.Value.type "tuple", data := PySem.Data.seq #[] }) ::
    (nat_lit 159,
      { cls := PySem.Value.type "tuple",
        data :=
          PySem.Data.seq
            #[PySem.Value.str (PySem.Str.ofString "octets") 405, PySem.Value.str (PySem.Str.ofString "begin") 406, PySem.Value.str (PySem.Str.ofString "end") 407,
              PySem.Value.str (PySem.Str.ofString "raw") 408, PySem.Value.str (PySem.Str.ofString "fault") 409] }) ::
    (nat_lit 160, { cls := PySem.Value.type "tuple", data := PySem.Data.seq #[] }) ::
    (nat_lit 162,
      { cls := PySem.Value.type "code",
        data :=
          PySem.Data.fields
            #[PySem.Value.str (PySem.Str.ofString "shifted_text") 402, PySem.Value.str (PySem.Str.ofString "shifted_text") 403, PySem.Value.str (PySem.Str.ofString "/claim/cut.py") 404,
              PySem.Value.int 134 0, PySem.Value.int 3 0, PySem.Value.int 0 0, PySem.Value.int 0 0, PySem.Value.int 3 0, PySem.Value.ref 157, PySem.Value.bool Bool.true, PySem.Value.int 181 0,
              PySem.Value.ref 158, PySem.Value.none, PySem.Value.ref 159, PySem.Value.ref 160, PySem.Value.ref 161, PySem.Value.int 410 0, PySem.Value.int 134 0,
              PySem.Value.str (PySem.Str.ofString "/claim/cut.py") 411] }) ::
    (nat_lit 163,
      { cls := PySem.Value.type "function",
        data :=
          PySem.Data.func
            { name := PySem.Str.ofString "shifted_text", qualname := PySem.Str.ofString "shifted_text", params := astA25, body := PySem.FuncBody.stmts astB25, scope := astC25, globals := 3,
              closure := [], defaults := PySem.Value.none, kwdefaults := PySem.Value.none, pyModule := PySem.Value.str (PySem.Str.ofString "postkeep.names") 323, code := PySem.Value.ref 162 } }) ::
    (nat_lit 164, { cls := PySem.Value.type "tuple", data := PySem.Data.seq #[] }) ::
    (nat_lit 166,
      { cls := PySem.Value.type "tuple",
        data :=
          PySem.Data.seq
            #[PySem.Value.str (PySem.Str.ofString "octets") 416, PySem.Value.str (PySem.Str.ofString "pieces") 417, PySem.Value.str (PySem.Str.ofString "at") 418,
              PySem.Value.str (PySem.Str.ofString "shift_end") 419, PySem.Value.str (PySem.Str.ofString "code") 420, PySem.Value.str (PySem.Str.ofString "end") 421] }) ::
    (nat_lit 167, { cls := PySem.Value.type "tuple", data := PySem.Data.seq #[] }) ::
    (nat_lit 169,
      { cls := PySem.Value.type "code",
        data :=
          PySem.Data.fields
            #[PySem.Value.str (PySem.Str.ofString "utf7_text") 413, PySem.Value.str (PySem.Str.ofString "utf7_text") 414, PySem.Value.str (PySem.Str.ofString "/claim/cut.py") 415,
              PySem.Value.int 142 0, PySem.Value.int 1 0, PySem.Value.int 0 0, PySem.Value.int 0 0, PySem.Value.int 3 0, PySem.Value.ref 164, PySem.Value.bool Bool.true, PySem.Value.int 181 0,
              PySem.Value.ref 165, PySem.Value.none, PySem.Value.ref 166, PySem.Value.ref 167, PySem.Value.ref 168, PySem.Value.int 422 0, PySem.Value.int 142 0,
              PySem.Value.str (PySem.Str.ofString "/claim/cut.py") 423] }) ::
    (nat_lit 170,
      { cls := PySem.Value.type "function",
        data :=
          PySem.Data.func
            { name := PySem.Str.ofString "utf7_text", qualname := PySem.Str.ofString "utf7_text", params := astA26, body := PySem.FuncBody.stmts astB26, scope := astC26, globals := 3, closure := [],
              defaults := PySem.Value.none, kwdefaults := PySem.Value.none, pyModule := PySem.Value.str (PySem.Str.ofString "postkeep.names") 323, code := PySem.Value.ref 169 } }) ::
    (nat_lit 171, { cls := PySem.Value.type "tuple", data := PySem.Data.seq #[] }) ::
    (nat_lit 173, { cls := PySem.Value.type "tuple", data := PySem.Data.seq #[PySem.Value.str (PySem.Str.ofString "text") 428, PySem.Value.str (PySem.Str.ofString "end") 429] }) ::
    (nat_lit 174, { cls := PySem.Value.type "tuple", data := PySem.Data.seq #[] }) ::
    (nat_lit 176,
      { cls := PySem.Value.type "code",
        data :=
          PySem.Data.fields
            #[PySem.Value.str (PySem.Str.ofString "first_part") 425, PySem.Value.str (PySem.Str.ofString "first_part") 426, PySem.Value.str (PySem.Str.ofString "/claim/cut.py") 427,
              PySem.Value.int 164 0, PySem.Value.int 1 0, PySem.Value.int 0 0, PySem.Value.int 0 0, PySem.Value.int 3 0, PySem.Value.ref 171, PySem.Value.bool Bool.true, PySem.Value.int 181 0,
              PySem.Value.ref 172, PySem.Value.none, PySem.Value.ref 173, PySem.Value.ref 174, PySem.Value.ref 175, PySem.Value.int 430 0, PySem.Value.int 164 0,
              PySem.Value.str (PySem.Str.ofString "/claim/cut.py") 431] }) ::
    (nat_lit 177,
      { cls := PySem.Value.type "function",
        data :=
          PySem.Data.func
            { name := PySem.Str.ofString "first_part", qualname := PySem.Str.ofString "first_part", params := astA27, body := PySem.FuncBody.stmts astB27, scope := astC27, globals := 3, closure := [],
              defaults := PySem.Value.none, kwdefaults := PySem.Value.none, pyModule := PySem.Value.str (PySem.Str.ofString "postkeep.names") 323, code := PySem.Value.ref 176 } }) ::
    (nat_lit 178, { cls := PySem.Value.type "tuple", data := PySem.Data.seq #[] }) ::
    (nat_lit 180,
      { cls := PySem.Value.type "tuple",
        data := PySem.Data.seq #[PySem.Value.str (PySem.Str.ofString "text") 436, PySem.Value.str (PySem.Str.ofString "head") 437, PySem.Value.str (PySem.Str.ofString "rest") 438] }) ::
    (nat_lit 181, { cls := PySem.Value.type "tuple", data := PySem.Data.seq #[] }) ::
    (nat_lit 183,
      { cls := PySem.Value.type "code",
        data :=
          PySem.Data.fields
            #[PySem.Value.str (PySem.Str.ofString "normal_name") 433, PySem.Value.str (PySem.Str.ofString "normal_name") 434, PySem.Value.str (PySem.Str.ofString "/claim/cut.py") 435,
              PySem.Value.int 169 0, PySem.Value.int 1 0, PySem.Value.int 0 0, PySem.Value.int 0 0, PySem.Value.int 3 0, PySem.Value.ref 178, PySem.Value.bool Bool.true, PySem.Value.int 181 0,
              PySem.Value.ref 179, PySem.Value.none, PySem.Value.ref 180, PySem.Value.ref 181, PySem.Value.ref 182, PySem.Value.int 439 0, PySem.Value.int 169 0,
              PySem.Value.str (PySem.Str.ofString "/claim/cut.py") 440] }) ::
    (nat_lit 184,
      { cls := PySem.Value.type "function",
        data :=
          PySem.Data.func
            { name := PySem.Str.ofString "normal_name", qualname := PySem.Str.ofString "normal_name", params := astA28, body := PySem.FuncBody.stmts astB28, scope := astC28, globals := 3,
              closure := [], defaults := PySem.Value.none, kwdefaults := PySem.Value.none, pyModule := PySem.Value.str (PySem.Str.ofString "postkeep.names") 323, code := PySem.Value.ref 183 } }) ::
    (nat_lit 185, { cls := PySem.Value.type "tuple", data := PySem.Data.seq #[] }) ::
    (nat_lit 187, { cls := PySem.Value.type "tuple", data := PySem.Data.seq #[PySem.Value.str (PySem.Str.ofString "code") 445] }) ::
    (nat_lit 188, { cls := PySem.Value.type "tuple", data := PySem.Data.seq #[] }) ::
    (nat_lit 190,
      { cls := PySem.Value.type "code",
        data :=
          PySem.Data.fields
            #[PySem.Value.str (PySem.Str.ofString "is_barred_code") 442, PySem.Value.str (PySem.Str.ofString "is_barred_code") 443, PySem.Value.str (PySem.Str.ofString "/claim/cut.py") 444,
              PySem.Value.int 174 0, PySem.Value.int 1 0, PySem.Value.int 0 0, PySem.Value.int 0 0, PySem.Value.int 3 0, PySem.Value.ref 185, PySem.Value.bool Bool.true, PySem.Value.int 181 0,
              PySem.Value.ref 186, PySem.Value.none, PySem.Value.ref 187, PySem.Value.ref 188, PySem.Value.ref 189, PySem.Value.int 446 0, PySem.Value.int 174 0,
              PySem.Value.str (PySem.Str.ofString "/claim/cut.py") 447] }) ::
    (nat_lit 191,
      { cls := PySem.Value.type "function",
        data :=
          PySem.Data.func
            { name := PySem.Str.ofString "is_barred_code", qualname := PySem.Str.ofString "is_barred_code", params := astA29, body := PySem.FuncBody.stmts astB29, scope := astC29, globals := 3,
              closure := [], defaults := PySem.Value.none, kwdefaults := PySem.Value.none, pyModule := PySem.Value.str (PySem.Str.ofString "postkeep.names") 323, code := PySem.Value.ref 190 } }) ::
    (nat_lit 192, { cls := PySem.Value.type "tuple", data := PySem.Data.seq #[] }) ::
    (nat_lit 194,
      { cls := PySem.Value.type "tuple",
        data :=
          PySem.Data.seq
            #[PySem.Value.str (PySem.Str.ofString "text") 452, PySem.Value.str (PySem.Str.ofString "begin") 453, PySem.Value.str (PySem.Str.ofString "at") 454,
              PySem.Value.str (PySem.Str.ofString "sign") 455] }) ::
    (nat_lit 195, { cls := PySem.Value.type "tuple", data := PySem.Data.seq #[] }) ::
    (nat_lit 197,
      { cls := PySem.Value.type "code",
        data :=
          PySem.Data.fields
            #[PySem.Value.str (PySem.Str.ofString "check_name") 449, PySem.Value.str (PySem.Str.ofString "check_name") 450, PySem.Value.str (PySem.Str.ofString "/claim/cut.py") 451,
              PySem.Value.int 176 0, PySem.Value.int 1 0, PySem.Value.int 0 0, PySem.Value.int 0 0, PySem.Value.int 3 0, PySem.Value.ref 192, PySem.Value.bool Bool.true, PySem.Value.int 181 0,
              PySem.Value.ref 193, PySem.Value.none, PySem.Value.ref 194, PySem.Value.ref 195, PySem.Value.ref 196, PySem.Value.int 456 0, PySem.Value.int 176 0,
              PySem.Value.str (PySem.Str.ofString "/claim/cut.py") 457] }) ::
    (nat_lit 198,
      { cls := PySem.Value.type "function",
        data :=
          PySem.Data.func
            { name := PySem.Str.ofString "check_name", qualname := PySem.Str.ofString "check_name", params := astA30, body := PySem.FuncBody.stmts astB30, scope := astC30, globals := 3, closure := [],
              defaults := PySem.Value.none, kwdefaults := PySem.Value.none, pyModule := PySem.Value.str (PySem.Str.ofString "postkeep.names") 323, code := PySem.Value.ref 197 } }) ::
    (nat_lit 199, { cls := PySem.Value.type "tuple", data := PySem.Data.seq #[] }) ::
    (nat_lit 201, { cls := PySem.Value.type "tuple", data := PySem.Data.seq #[PySem.Value.str (PySem.Str.ofString "octets") 462] }) ::
    (nat_lit 202, { cls := PySem.Value.type "tuple", data := PySem.Data.seq #[] }) ::
    (nat_lit 204,
      { cls := PySem.Value.type "code",
        data :=
          PySem.Data.fields
            #[PySem.Value.str (PySem.Str.ofString "name_of_wire") 459, PySem.Value.str (PySem.Str.ofString "name_of_wire") 460, PySem.Value.str (PySem.Str.ofString "/claim/cut.py") 461,
              PySem.Value.int 191 0, PySem.Value.int 1 0, PySem.Value.int 0 0, PySem.Value.int 0 0, PySem.Value.int 3 0, PySem.Value.ref 199, PySem.Value.bool Bool.true, PySem.Value.int 181 0,
              PySem.Value.ref 200, PySem.Value.none, PySem.Value.ref 201, PySem.Value.ref 202, PySem.Value.ref 203, PySem.Value.int 463 0, PySem.Value.int 191 0,
              PySem.Value.str (PySem.Str.ofString "/claim/cut.py") 464] }) ::
    (nat_lit 205,
      { cls := PySem.Value.type "function",
        data :=
          PySem.Data.func
            { name := PySem.Str.ofString "name_of_wire", qualname := PySem.Str.ofString "name_of_wire", params := astA31, body := PySem.FuncBody.stmts astB31, scope := astC31, globals := 3,
              closure := [], defaults := PySem.Value.none, kwdefaults := PySem.Value.none, pyModule := PySem.Value.str (PySem.Str.ofString "postkeep.names") 323, code := PySem.Value.ref 204 } }) ::
    (nat_lit 206, { cls := PySem.Value.type "tuple", data := PySem.Data.seq #[] }) ::
    (nat_lit 208,
      { cls := PySem.Value.type "tuple",
        data := PySem.Data.seq #[PySem.Value.str (PySem.Str.ofString "name") 469, PySem.Value.str (PySem.Str.ofString "some") 470, PySem.Value.str (PySem.Str.ofString "at") 471] }) ::
    (nat_lit 209, { cls := PySem.Value.type "tuple", data := PySem.Data.seq #[] }) ::
    (nat_lit 211,
      { cls := PySem.Value.type "code",
        data :=
          PySem.Data.fields
            #[PySem.Value.str (PySem.Str.ofString "parents") 466, PySem.Value.str (PySem.Str.ofString "parents") 467, PySem.Value.str (PySem.Str.ofString "/claim/cut.py") 468, PySem.Value.int 193 0,
              PySem.Value.int 1 0, PySem.Value.int 0 0, PySem.Value.int 0 0, PySem.Value.int 3 0, PySem.Value.ref 206, PySem.Value.bool Bool.true, PySem.Value.int 181 0, PySem.Value.ref 207,
              PySem.Value.none, PySem.Value.ref 208, PySem.Value.ref 209, PySem.Value.ref 210, PySem.Value.int 472 0, PySem.Value.int 193 0,
              PySem.Value.str (PySem.Str.ofString "/claim/cut.py") 473] }) ::
    (nat_lit 212,
      { cls := PySem.Value.type "function",
        data :=
          PySem.Data.func
            { name := PySem.Str.ofString "parents", qualname := PySem.Str.ofString "parents", params := astA32, body := PySem.FuncBody.stmts astB32, scope := astC32, globals := 3, closure := [],
              defaults := PySem.Value.none, kwdefaults := PySem.Value.none, pyModule := PySem.Value.str (PySem.Str.ofString "postkeep.names") 323, code := PySem.Value.ref 211 } }) ::
    (nat_lit 213, { cls := PySem.Value.type "tuple", data := PySem.Data.seq #[] }) ::
    (nat_lit 215, { cls := PySem.Value.type "tuple", data := PySem.Data.seq #[PySem.Value.str (PySem.Str.ofString "text") 480, PySem.Value.str (PySem.Str.ofString "name") 481] }) ::
    (nat_lit 216, { cls := PySem.Value.type "tuple", data := PySem.Data.seq #[] }) ::
    (nat_lit 218,
      { cls := PySem.Value.type "code",
        data :=
          PySem.Data.fields
            #[PySem.Value.str (PySem.Str.ofString "bare_name") 477, PySem.Value.str (PySem.Str.ofString "bare_name") 478, PySem.Value.str (PySem.Str.ofString "/claim/cut.py") 479,
              PySem.Value.int 201 0, PySem.Value.int 1 0, PySem.Value.int 0 0, PySem.Value.int 0 0, PySem.Value.int 3 0, PySem.Value.ref 213, PySem.Value.bool Bool.true, PySem.Value.int 181 0,
              PySem.Value.ref 214, PySem.Value.none, PySem.Value.ref 215, PySem.Value.ref 216, PySem.Value.ref 217, PySem.Value.int 482 0, PySem.Value.int 201 0,
              PySem.Value.str (PySem.Str.ofString "/claim/cut.py") 483] }) ::
    (nat_lit 219,
      { cls := PySem.Value.type "function",
        data :=
          PySem.Data.func
            { name := PySem.Str.ofString "bare_name", qualname := PySem.Str.ofString "bare_name", params := astA34, body := PySem.FuncBody.stmts astB34, scope := astC34, globals := 3, closure := [],
              defaults := PySem.Value.none, kwdefaults := PySem.Value.none, pyModule := PySem.Value.str (PySem.Str.ofString "postkeep.session") 475, code := PySem.Value.ref 218 } }) ::
    (nat_lit 220, { cls := PySem.Value.type "tuple", data := PySem.Data.seq #[] }) ::
    (nat_lit 222, { cls := PySem.Value.type "tuple", data := PySem.Data.seq #[PySem.Value.str (PySem.Str.ofString "text") 488] }) ::
    (nat_lit 223, { cls := PySem.Value.type "tuple", data := PySem.Data.seq #[] }) ::
    (nat_lit 225,
      { cls := PySem.Value.type "code",
        data :=
          PySem.Data.fields
            #[PySem.Value.str (PySem.Str.ofString "new_name") 485, PySem.Value.str (PySem.Str.ofString "new_name") 486, PySem.Value.str (PySem.Str.ofString "/claim/cut.py") 487, PySem.Value.int 204 0,
              PySem.Value.int 1 0, PySem.Value.int 0 0, PySem.Value.int 0 0, PySem.Value.int 3 0, PySem.Value.ref 220, PySem.Value.bool Bool.true, PySem.Value.int 181 0, PySem.Value.ref 221,
              PySem.Value.none, PySem.Value.ref 222, PySem.Value.ref 223, PySem.Value.ref 224, PySem.Value.int 489 0, PySem.Value.int 204 0,
              PySem.Value.str (PySem.Str.ofString "/claim/cut.py") 490] }) ::
    (nat_lit 226,
      { cls := PySem.Value.type "function",
        data :=
          PySem.Data.func
            { name := PySem.Str.ofString "new_name", qualname := PySem.Str.ofString "new_name", params := astA35, body := PySem.FuncBody.stmts astB35, scope := astC35, globals := 3, closure := [],
              defaults := PySem.Value.none, kwdefaults := PySem.Value.none, pyModule := PySem.Value.str (PySem.Str.ofString "postkeep.session") 475, code := PySem.Value.ref 225 } }) ::
    (nat_lit 227, { cls := PySem.Value.type "tuple", data := PySem.Data.seq #[] }) ::
    (nat_lit 230,
      { cls := PySem.Value.type "code",
        data :=
          PySem.Data.fields
            #[PySem.Value.str (PySem.Str.ofString "_law_pieces") 494, PySem.Value.str (PySem.Str.ofString "_law_pieces") 495, PySem.Value.str (PySem.Str.ofString "/claim/cut.py") 496,
              PySem.Value.int 207 0, PySem.Value.int 1 0, PySem.Value.int 0 0, PySem.Value.int 0 0, PySem.Value.int 3 0, PySem.Value.ref 227, PySem.Value.bool Bool.true, PySem.Value.int 181 0,
              PySem.Value.ref 228, PySem.Value.none, PySem.Value.none, PySem.Value.none, PySem.Value.ref 229, PySem.Value.int 497 0, PySem.Value.int 207 0,
              PySem.Value.str (PySem.Str.ofString "/claim/cut.py") 498] }) ::
    (nat_lit 231,
      { cls := PySem.Value.type "function",
        data :=
          PySem.Data.func
            { name := PySem.Str.ofString "_law_pieces", qualname := PySem.Str.ofString "_law_pieces", params := astA37, body := PySem.FuncBody.stmts astB37, scope := astC37, globals := 3,
              closure := [], defaults := PySem.Value.none, kwdefaults := PySem.Value.none, pyModule := PySem.Value.str (PySem.Str.ofString "law_or0051_01") 492, code := PySem.Value.ref 230 } }) ::
    (nat_lit 232, { cls := PySem.Value.type "tuple", data := PySem.Data.seq #[] }) ::
    (nat_lit 234, { cls := PySem.Value.type "tuple", data := PySem.Data.seq #[PySem.Value.str (PySem.Str.ofString "text") 503, PySem.Value.str (PySem.Str.ofString "parts") 504] }) ::
    (nat_lit 235, { cls := PySem.Value.type "tuple", data := PySem.Data.seq #[] }) ::
    (nat_lit 237,
      { cls := PySem.Value.type "code",
        data :=
          PySem.Data.fields
            #[PySem.Value.str (PySem.Str.ofString "_law_bare") 500, PySem.Value.str (PySem.Str.ofString "_law_bare") 501, PySem.Value.str (PySem.Str.ofString "/claim/cut.py") 502,
              PySem.Value.int 213 0, PySem.Value.int 1 0, PySem.Value.int 0 0, PySem.Value.int 0 0, PySem.Value.int 3 0, PySem.Value.ref 232, PySem.Value.bool Bool.true, PySem.Value.int 181 0,
              PySem.Value.ref 233, PySem.Value.none, PySem.Value.ref 234, PySem.Value.ref 235, PySem.Value.ref 236, PySem.Value.int 505 0, PySem.Value.int 213 0,
              PySem.Value.str (PySem.Str.ofString "/claim/cut.py") 506] }) ::
    (nat_lit 238,
      { cls := PySem.Value.type "function",
        data :=
          PySem.Data.func
            { name := PySem.Str.ofString "_law_bare", qualname := PySem.Str.ofString "_law_bare", params := astA38, body := PySem.FuncBody.stmts astB38, scope := astC38, globals := 3, closure := [],
              defaults := PySem.Value.none, kwdefaults := PySem.Value.none, pyModule := PySem.Value.str (PySem.Str.ofString "law_or0051_01") 492, code := PySem.Value.ref 237 } }) ::
    (nat_lit 239, { cls := PySem.Value.type "tuple", data := PySem.Data.seq #[] }) ::
    (nat_lit 241,
      { cls := PySem.Value.type "tuple",
        data :=
          PySem.Data.seq
            #[PySem.Value.str (PySem.Str.ofString "name") 511, PySem.Value.str (PySem.Str.ofString "faults") 512, PySem.Value.str (PySem.Str.ofString "at") 513,
              PySem.Value.str (PySem.Str.ofString "part") 514, PySem.Value.str (PySem.Str.ofString "place") 515, PySem.Value.str (PySem.Str.ofString "code") 516] }) ::
    (nat_lit 242, { cls := PySem.Value.type "tuple", data := PySem.Data.seq #[] }) ::
    (nat_lit 244,
      { cls := PySem.Value.type "code",
        data :=
          PySem.Data.fields
            #[PySem.Value.str (PySem.Str.ofString "_law_fault") 508, PySem.Value.str (PySem.Str.ofString "_law_fault") 509, PySem.Value.str (PySem.Str.ofString "/claim/cut.py") 510,
              PySem.Value.int 220 0, PySem.Value.int 1 0, PySem.Value.int 0 0, PySem.Value.int 0 0, PySem.Value.int 3 0, PySem.Value.ref 239, PySem.Value.bool Bool.true, PySem.Value.int 181 0,
              PySem.Value.ref 240, PySem.Value.none, PySem.Value.ref 241, PySem.Value.ref 242, PySem.Value.ref 243, PySem.Value.int 517 0, PySem.Value.int 220 0,
              PySem.Value.str (PySem.Str.ofString "/claim/cut.py") 518] }) ::
    (nat_lit 245,
      { cls := PySem.Value.type "function",
        data :=
          PySem.Data.func
            { name := PySem.Str.ofString "_law_fault", qualname := PySem.Str.ofString "_law_fault", params := astA39, body := PySem.FuncBody.stmts astB39, scope := astC39, globals := 3, closure := [],
              defaults := PySem.Value.none, kwdefaults := PySem.Value.none, pyModule := PySem.Value.str (PySem.Str.ofString "law_or0051_01") 492, code := PySem.Value.ref 244 } }) ::
    (nat_lit 246, { cls := PySem.Value.type "tuple", data := PySem.Data.seq #[] }) ::
    (nat_lit 248, { cls := PySem.Value.type "tuple", data := PySem.Data.seq #[PySem.Value.str (PySem.Str.ofString "text") 523, PySem.Value.str (PySem.Str.ofString "fault") 524] }) ::
    (nat_lit 249, { cls := PySem.Value.type "tuple", data := PySem.Data.seq #[] }) ::
    (nat_lit 251,
      { cls := PySem.Value.type "code",
        data :=
          PySem.Data.fields
            #[PySem.Value.str (PySem.Str.ofString "_law_made") 520, PySem.Value.str (PySem.Str.ofString "_law_made") 521, PySem.Value.str (PySem.Str.ofString "/claim/cut.py") 522,
              PySem.Value.int 232 0, PySem.Value.int 1 0, PySem.Value.int 0 0, PySem.Value.int 0 0, PySem.Value.int 3 0, PySem.Value.ref 246, PySem.Value.bool Bool.true, PySem.Value.int 181 0,
              PySem.Value.ref 247, PySem.Value.none, PySem.Value.ref 248, PySem.Value.ref 249, PySem.Value.ref 250, PySem.Value.int 525 0, PySem.Value.int 232 0,
              PySem.Value.str (PySem.Str.ofString "/claim/cut.py") 526] }) ::
    (nat_lit 252,
      { cls := PySem.Value.type "function",
        data :=
          PySem.Data.func
            { name := PySem.Str.ofString "_law_made", qualname := PySem.Str.ofString "_law_made", params := astA40, body := PySem.FuncBody.stmts astB40, scope := astC40, globals := 3, closure := [],
              defaults := PySem.Value.none, kwdefaults := PySem.Value.none, pyModule := PySem.Value.str (PySem.Str.ofString "law_or0051_01") 492, code := PySem.Value.ref 251 } }) ::
    (nat_lit 253, { cls := PySem.Value.type "tuple", data := PySem.Data.seq #[] }) ::
    (nat_lit 256,
      { cls := PySem.Value.type "code",
        data :=
          PySem.Data.fields
            #[PySem.Value.str (PySem.Str.ofString "law") 528, PySem.Value.str (PySem.Str.ofString "law") 529, PySem.Value.str (PySem.Str.ofString "/claim/cut.py") 530, PySem.Value.int 237 0,
              PySem.Value.int 1 0, PySem.Value.int 0 0, PySem.Value.int 0 0, PySem.Value.int 3 0, PySem.Value.ref 253, PySem.Value.bool Bool.true, PySem.Value.int 181 0, PySem.Value.ref 254,
              PySem.Value.none, PySem.Value.none, PySem.Value.none, PySem.Value.ref 255, PySem.Value.int 531 0, PySem.Value.int 237 0, PySem.Value.str (PySem.Str.ofString "/claim/cut.py") 532] }) ::
    (nat_lit 257,
      { cls := PySem.Value.type "function",
        data :=
          PySem.Data.func
            { name := PySem.Str.ofString "law", qualname := PySem.Str.ofString "law", params := astA41, body := PySem.FuncBody.stmts astB41, scope := astC41, globals := 3, closure := [],
              defaults := PySem.Value.none, kwdefaults := PySem.Value.none, pyModule := PySem.Value.str (PySem.Str.ofString "law_or0051_01") 492, code := PySem.Value.ref 256 } }) :: []) : PySem.Params → PySem.W.Frag) = K) → PySem.Params → PySem.W.Frag) _ ?e
  case f => exact fun K _ => K
  case e => (delta astA1x0 astB1x0 astC1x0 astA1x1 astB1x1 astC1x1 astA5 astB5 astC5 astA6 astB6 astC6 astA7 astB7 astC7 astA8 astB8 astC8 astA9 astB9 astC9 astA10 astB10 astC10 astA12 astB12 astC12 astA18 astB18 astC18 astA19 astB19 astA20 astB20 astC20 astA21 astB21 astC21 astA22 astB22 astC22 astA23 astB23 astC23 astA24 astB24 astC24 astA25 astB25 astC25 astA26 astB26 astC26 astA27 astB27 astC27 astA28 astB28 astC28 astA29 astB29 astC29 astA30 astB30 astC30 astA31 astB31 astC31 astA32 astB32 astC32 astA34 astB34 astC34 astA35 astB35 astC35 astA37 astB37 astC37 astA38 astB38 astC38 astA39 astB39 astC39 astA40 astB40 astC40 astA41 astB41 astC41); exact rfl
noncomputable def hd.view_39 : Program := { PySem.Challenge.pw_or0051_01 with main := { PySem.Challenge.pw_or0051_01.main with body := [stm 1, stm 2, stm 3, stm 5, stm 6, stm 7, stm 8, stm 9, stm 10, stm 12, stm 14, stm 15, stm 16, stm 17, stm 18, stm 19, stm 20, stm 21, stm 22, stm 23, stm 24, stm 25, stm 26, stm 27, stm 28, stm 29, stm 30, stm 31, stm 32, stm 34, stm 35, stm 37, stm 38, stm 39, stm 40, stm 41] } }
@[reducible] noncomputable def hd.adr : List Addr := [2, 3, 15, 22, 23, 25, 26, 28, 29, 30, 32, 33, 35, 36, 37, 38, 39, 40, 43, 50, 51, 52, 55, 62, 63, 64, 67, 70, 71, 72, 75, 76, 77, 80, 81, 82, 84, 85, 87, 88, 89, 91, 92, 94, 95, 96, 98, 99, 101, 102, 103, 106, 107, 108, 110, 111, 113, 114, 115, 117, 118, 120, 121, 122, 124, 125, 127, 128, 129, 131, 132, 134, 135, 136, 138, 139, 141, 142, 143, 145, 146, 148, 149, 150, 152, 153, 155, 156, 157, 159, 160, 162, 163, 164, 166, 167, 169, 170, 171, 173, 174, 176, 177, 178, 180, 181, 183, 184, 185, 187, 188, 190, 191, 192, 194, 195, 197, 198, 199, 201, 202, 204, 205, 206, 208, 209, 211, 212, 213, 215, 216, 218, 219, 220, 222, 223, 225, 226, 227, 230, 231, 232, 234, 235, 237, 238, 239, 241, 242, 244, 245, 246, 248, 249, 251, 252, 253, 256, 257]
noncomputable def hd.env_41 : Env := Env.mk PySem.Challenge.rw_or0051_01.row.toRowW.1.main.scope mainNs mainNs [] PySem.Str.empty Option.none (Value.ref 13) (Option.some 14) 0
noncomputable def hd.o_43 : Params → Obj := fun P => Obj.mk (Value.type "tuple") Option.none (Data.seq #[]) #[]
noncomputable def hd.o_44 : Params → Obj := fun P => Obj.mk Value.none Option.none (Data.fields #[]) #[]
noncomputable def hd.o_45 : Params → Obj := fun P => Obj.mk (Value.type "code") Option.none (Data.fields #[Value.str (PySem.Str.ofString "<module>") 182, Value.str (PySem.Str.ofString "<module>") 183, Value.str (PySem.Str.ofString "/claim/cut.py") 184, Value.int 1 0, Value.int 0 0, Value.int 0 0, Value.int 0 0, Value.int 0 0, Value.ref 11, Value.bool Bool.false, Value.int 181 0, Value.ref 12, Value.none, Value.none, Value.none, Value.none, Value.int 185 0, Value.int 1 0, Value.str (PySem.Str.ofString "/claim/cut.py") 186]) #[]
noncomputable def hd.o_46 : Params → Obj := fun P => Obj.mk (Value.type "frame") Option.none Data.plain #[Option.some (Value.ref 13), Option.some (Value.ref 3), Option.some (Value.ref 3), Option.none, Option.some (Value.str (PySem.Str.ofString "__main__") 164), Option.none, Option.some (Value.ref 0)]
noncomputable def hd.o_49 : Params → Obj := fun P => Obj.mk Value.none Option.none (Data.dict #[DictEntry.mk (PyData.keyHash P (PySem.Str.ofString "type.__subclasses__.Exception.0")) (Value.str (PySem.Str.ofString "type.__subclasses__.Exception.0") 225) (Value.int 39 0), DictEntry.mk (PyData.keyHash P (PySem.Str.ofString "type.__subclasses__.Exception.n")) (Value.str (PySem.Str.ofString "type.__subclasses__.Exception.n") 226) (Value.int 1 0)] 2) #[]
noncomputable def hd.o_50 : Params → Obj := fun P => Obj.mk (Value.type "dict") Option.none (Data.dict #[DictEntry.mk (PyData.keyHash P (PySem.Str.ofString "__name__")) (Value.str (PySem.Str.ofString "__name__") 165) (Value.str (PySem.Str.ofString "postkeep.errors") 187), DictEntry.mk (PyData.keyHash P (PySem.Str.ofString "__doc__")) (Value.str (PySem.Str.ofString "__doc__") 166) Value.none, DictEntry.mk (PyData.keyHash P (PySem.Str.ofString "__package__")) (Value.str (PySem.Str.ofString "__package__") 167) Value.none, DictEntry.mk (PyData.keyHash P (PySem.Str.ofString "__loader__")) (Value.str (PySem.Str.ofString "__loader__") 168) (Value.builtin "__main__.__loader__#opaque"), DictEntry.mk (PyData.keyHash P (PySem.Str.ofString "__spec__")) (Value.str (PySem.Str.ofString "__spec__") 169) Value.none, DictEntry.mk (PyData.keyHash P (PySem.Str.ofString "__annotations__")) (Value.str (PySem.Str.ofString "__annotations__") 170) (Value.ref 6), DictEntry.mk (PyData.keyHash P (PySem.Str.ofString "__builtins__")) (Value.str (PySem.Str.ofString "__builtins__") 171) (Value.ref 4), DictEntry.mk (PyData.keyHash P (PySem.Str.ofString "__file__")) (Value.str (PySem.Str.ofString "__file__") 173) (Value.str (PySem.Str.ofString "/claim/cut.py") 172), DictEntry.mk (PyData.keyHash P (PySem.Str.ofString "__cached__")) (Value.str (PySem.Str.ofString "__cached__") 174) Value.none, DictEntry.mk (PyData.keyHash P (PySem.Str.ofString "PostError")) (Value.str (PySem.Str.ofString "PostError") 228) (Value.ref 39)] 10) #[]
noncomputable def hd.o_51 : Params → Obj := fun P => Obj.mk Value.none Option.none (Data.fields #[Value.int 2 0, Value.int 0 0, Value.ref 20]) #[]
noncomputable def hd.o_52 : Params → Obj := fun P => Obj.mk (Value.type "tuple") Option.none (Data.seq #[Value.type "Exception"]) #[]
noncomputable def hd.o_53 : Params → Obj := fun P => Obj.mk (Value.type "builtin_function_or_method") Option.none (Data.fields #[Value.builtin "type.__prepare__", Value.type "type"]) #[]
noncomputable def hd.o_54 : Params → Obj := fun P => Obj.mk (Value.type "dict") Option.none (Data.dict #[DictEntry.mk (PyData.keyHash P (PySem.Str.ofString "__module__")) (Value.str (PySem.Str.ofString "__module__") 196) (Value.str (PySem.Str.ofString "postkeep.errors") 187), DictEntry.mk (PyData.keyHash P (PySem.Str.ofString "__qualname__")) (Value.str (PySem.Str.ofString "__qualname__") 198) (Value.str (PySem.Str.ofString "PostError") 197), DictEntry.mk (PyData.keyHash P (PySem.Str.ofString "__firstlineno__")) (Value.str (PySem.Str.ofString "__firstlineno__") 200) (Value.int 2 199), DictEntry.mk (PyData.keyHash P (PySem.Str.ofString "__init__")) (Value.str (PySem.Str.ofString "__init__") 211) (Value.ref 29), DictEntry.mk (PyData.keyHash P (PySem.Str.ofString "told")) (Value.str (PySem.Str.ofString "told") 218) (Value.ref 36), DictEntry.mk (PyData.keyHash P (PySem.Str.ofString "__static_attributes__")) (Value.str (PySem.Str.ofString "__static_attributes__") 221) (Value.ref 37)] 6) #[]
noncomputable def hd.o_55 : Params → Obj := fun P => Obj.mk (Value.type "tuple") Option.none (Data.seq #[]) #[]
noncomputable def hd.o_56 : Params → Obj := fun P => Obj.mk Value.none Option.none (Data.fields #[Value.int 4 0, Value.int 4 0, Value.ref 28, Value.int 9 0, Value.int 4 0, Value.ref 35]) #[]
noncomputable def hd.o_57 : Params → Obj := fun P => Obj.mk (Value.type "code") Option.none (Data.fields #[Value.str (PySem.Str.ofString "PostError") 191, Value.str (PySem.Str.ofString "PostError") 192, Value.str (PySem.Str.ofString "/claim/cut.py") 193, Value.int 2 0, Value.int 0 0, Value.int 0 0, Value.int 0 0, Value.int 0 0, Value.ref 18, Value.bool Bool.false, Value.int 181 0, Value.ref 19, Value.none, Value.none, Value.none, Value.none, Value.int 194 0, Value.int 2 0, Value.str (PySem.Str.ofString "/claim/cut.py") 195]) #[]
noncomputable def hd.o_58 : Params → Obj := fun P => Obj.mk (Value.type "frame") Option.none Data.plain #[Option.some (Value.ref 20), Option.some (Value.ref 3), Option.some (Value.ref 17), Option.none, Option.some (Value.str (PySem.Str.ofString "postkeep.errors") 187), Option.none, Option.some (Value.ref 0)]
noncomputable def hd.o_59 : Params → Obj := fun P => Obj.mk (Value.type "tuple") Option.none (Data.seq #[Value.int (-1) 202]) #[]
noncomputable def hd.o_60 : Params → Obj := fun P => Obj.mk (Value.type "tuple") Option.none (Data.seq #[]) #[]
noncomputable def hd.o_61 : Params → Obj := fun P => Obj.mk Value.none Option.none (Data.fields #[]) #[]
noncomputable def hd.o_62 : Params → Obj := fun P => Obj.mk (Value.type "tuple") Option.none (Data.seq #[Value.str (PySem.Str.ofString "self") 206, Value.str (PySem.Str.ofString "what") 207, Value.str (PySem.Str.ofString "at") 208]) #[]
noncomputable def hd.o_63 : Params → Obj := fun P => Obj.mk (Value.type "tuple") Option.none (Data.seq #[]) #[]
noncomputable def hd.o_64 : Params → Obj := fun P => Obj.mk Value.none Option.none (Data.func (FuncData.mk (PySem.Str.ofString "__init__") (PySem.Str.ofString "PostError.__init__") (fA (cstm 1 0)) (FuncBody.stmts (fB (cstm 1 0))) (fC (cstm 1 0)) 0 [] Value.none Value.none Value.none Value.none Option.none Value.none Value.none 0)) #[]
noncomputable def hd.o_65 : Params → Obj := fun P => Obj.mk (Value.type "code") Option.none (Data.fields #[Value.str (PySem.Str.ofString "__init__") 203, Value.str (PySem.Str.ofString "PostError.__init__") 204, Value.str (PySem.Str.ofString "/claim/cut.py") 205, Value.int 4 0, Value.int 3 0, Value.int 0 0, Value.int 0 0, Value.int 3 0, Value.ref 23, Value.bool Bool.true, Value.int 181 0, Value.ref 24, Value.none, Value.ref 25, Value.ref 26, Value.ref 27, Value.int 209 0, Value.int 4 0, Value.str (PySem.Str.ofString "/claim/cut.py") 210]) #[]
noncomputable def hd.o_66 : Params → Obj := fun P => Obj.mk (Value.type "function") Option.none (Data.func (FuncData.mk (PySem.Str.ofString "__init__") (PySem.Str.ofString "PostError.__init__") (fA (cstm 1 0)) (FuncBody.stmts (fB (cstm 1 0))) (fC (cstm 1 0)) 3 [] (Value.ref 22) Value.none Value.none (Value.str (PySem.Str.ofString "postkeep.errors") 187) Option.none (Value.ref 28) Value.none 0)) #[]
noncomputable def hd.o_67 : Params → Obj := fun P => Obj.mk (Value.type "tuple") Option.none (Data.seq #[]) #[]
noncomputable def hd.o_68 : Params → Obj := fun P => Obj.mk Value.none Option.none (Data.fields #[]) #[]
noncomputable def hd.o_69 : Params → Obj := fun P => Obj.mk (Value.type "tuple") Option.none (Data.seq #[Value.str (PySem.Str.ofString "self") 215]) #[]
noncomputable def hd.o_70 : Params → Obj := fun P => Obj.mk (Value.type "tuple") Option.none (Data.seq #[]) #[]
noncomputable def hd.o_71 : Params → Obj := fun P => Obj.mk Value.none Option.none (Data.func (FuncData.mk (PySem.Str.ofString "told") (PySem.Str.ofString "PostError.told") (fA (cstm 1 1)) (FuncBody.stmts (fB (cstm 1 1))) (fC (cstm 1 1)) 0 [] Value.none Value.none Value.none Value.none Option.none Value.none Value.none 0)) #[]
noncomputable def hd.o_72 : Params → Obj := fun P => Obj.mk (Value.type "code") Option.none (Data.fields #[Value.str (PySem.Str.ofString "told") 212, Value.str (PySem.Str.ofString "PostError.told") 213, Value.str (PySem.Str.ofString "/claim/cut.py") 214, Value.int 9 0, Value.int 1 0, Value.int 0 0, Value.int 0 0, Value.int 3 0, Value.ref 30, Value.bool Bool.true, Value.int 181 0, Value.ref 31, Value.none, Value.ref 32, Value.ref 33, Value.ref 34, Value.int 216 0, Value.int 9 0, Value.str (PySem.Str.ofString "/claim/cut.py") 217]) #[]
noncomputable def hd.o_73 : Params → Obj := fun P => Obj.mk (Value.type "function") Option.none (Data.func (FuncData.mk (PySem.Str.ofString "told") (PySem.Str.ofString "PostError.told") (fA (cstm 1 1)) (FuncBody.stmts (fB (cstm 1 1))) (fC (cstm 1 1)) 3 [] Value.none Value.none Value.none (Value.str (PySem.Str.ofString "postkeep.errors") 187) Option.none (Value.ref 35) Value.none 0)) #[]
noncomputable def hd.o_74 : Params → Obj := fun P => Obj.mk (Value.type "tuple") Option.none (Data.seq #[Value.str (PySem.Str.ofString "at") 219, Value.str (PySem.Str.ofString "what") 220]) #[]
noncomputable def hd.o_75 : Params → Obj := fun P => Obj.mk (Value.type "dict") Option.none (Data.dict #[DictEntry.mk (PyData.keyHash P (PySem.Str.ofString "__module__")) (Value.str (PySem.Str.ofString "__module__") 196) (Value.str (PySem.Str.ofString "postkeep.errors") 187), DictEntry.mk (PyData.keyHash P (PySem.Str.ofString "__firstlineno__")) (Value.str (PySem.Str.ofString "__firstlineno__") 200) (Value.int 2 199), DictEntry.mk (PyData.keyHash P (PySem.Str.ofString "__init__")) (Value.str (PySem.Str.ofString "__init__") 211) (Value.ref 29), DictEntry.mk (PyData.keyHash P (PySem.Str.ofString "told")) (Value.str (PySem.Str.ofString "told") 218) (Value.ref 36), DictEntry.mk (PyData.keyHash P (PySem.Str.ofString "__static_attributes__")) (Value.str (PySem.Str.ofString "__static_attributes__") 221) (Value.ref 37), DictEntry.mk (PyData.keyHash P (PySem.Str.ofString "__weakref__")) (Value.str (PySem.Str.ofString "__weakref__") 223) (Value.ref 40), DictEntry.mk (PyData.keyHash P (PySem.Str.ofString "__doc__")) (Value.str (PySem.Str.ofString "__doc__") 224) Value.none] 3) #[]
noncomputable def hd.o_76 : Params → Obj := fun P => Obj.mk (Value.type "type") Option.none (Data.cls (ClassData.mk (PySem.Str.ofString "PostError") [Value.type "Exception"] [Value.ref 39, Value.type "Exception", Value.type "BaseException", Value.type "object"] 38 (PySem.Str.ofString "PostError") Bool.true [] [] Bool.false Option.none Bool.false)) #[Option.some (Value.ref 15), Option.none, Option.some (Value.str (PySem.Str.ofString "PostError") 189), Option.some (Value.str (PySem.Str.ofString "PostError") 197), Option.some (Value.builtin "Exception.__new__"), Option.some (Value.bool Bool.true)]
noncomputable def hd.o_77 : Params → Obj := fun P => Obj.mk (Value.type "getset_descriptor") Option.none (Data.fields #[Value.str (PySem.Str.ofString "__weakref__") 222, Value.ref 39, Value.builtin "ExceptionGroup.__weakref__", Value.none]) #[]
noncomputable def hd.o_78 : Params → Obj := fun P => Obj.mk (Value.type "super") Option.none (Data.fields #[Value.ref 39, Value.ref 39, Value.ref 39]) #[]
noncomputable def hd.o_79 : Params → Obj := fun P => Obj.mk (Value.type "builtin_function_or_method") Option.none (Data.fields #[Value.builtin "object.__init_subclass__", Value.ref 39]) #[]
noncomputable def hd.o_80 : Params → Obj := fun P => Obj.mk (Value.type "dict") Option.none (Data.dict #[DictEntry.mk (PyData.keyHash P (PySem.Str.ofString "__name__")) (Value.str (PySem.Str.ofString "__name__") 165) (Value.str (PySem.Str.ofString "postkeep.errors") 187), DictEntry.mk (PyData.keyHash P (PySem.Str.ofString "__doc__")) (Value.str (PySem.Str.ofString "__doc__") 166) Value.none, DictEntry.mk (PyData.keyHash P (PySem.Str.ofString "__package__")) (Value.str (PySem.Str.ofString "__package__") 167) Value.none, DictEntry.mk (PyData.keyHash P (PySem.Str.ofString "__loader__")) (Value.str (PySem.Str.ofString "__loader__") 168) (Value.builtin "__main__.__loader__#opaque"), DictEntry.mk (PyData.keyHash P (PySem.Str.ofString "__spec__")) (Value.str (PySem.Str.ofString "__spec__") 169) Value.none, DictEntry.mk (PyData.keyHash P (PySem.Str.ofString "__annotations__")) (Value.str (PySem.Str.ofString "__annotations__") 170) (Value.ref 6), DictEntry.mk (PyData.keyHash P (PySem.Str.ofString "__builtins__")) (Value.str (PySem.Str.ofString "__builtins__") 171) (Value.ref 4), DictEntry.mk (PyData.keyHash P (PySem.Str.ofString "__file__")) (Value.str (PySem.Str.ofString "__file__") 173) (Value.str (PySem.Str.ofString "/claim/cut.py") 172), DictEntry.mk (PyData.keyHash P (PySem.Str.ofString "__cached__")) (Value.str (PySem.Str.ofString "__cached__") 174) Value.none, DictEntry.mk (PyData.keyHash P (PySem.Str.ofString "PostError")) (Value.str (PySem.Str.ofString "PostError") 228) (Value.ref 39), DictEntry.mk (PyData.keyHash P (PySem.Str.ofString "MimeFault")) (Value.str (PySem.Str.ofString "MimeFault") 244) (Value.ref 52)] 11) #[]
noncomputable def hd.o_81 : Params → Obj := fun P => Obj.mk Value.none Option.none (Data.fields #[Value.int 2 0, Value.int 0 0, Value.ref 20, Value.int 11 0, Value.int 0 0, Value.ref 48]) #[]
noncomputable def hd.o_82 : Params → Obj := fun P => Obj.mk (Value.type "type") Option.none (Data.cls (ClassData.mk (PySem.Str.ofString "PostError") [Value.type "Exception"] [Value.ref 39, Value.type "Exception", Value.type "BaseException", Value.type "object"] 38 (PySem.Str.ofString "PostError") Bool.true [] [Value.ref 52] Bool.false Option.none Bool.false)) #[Option.some (Value.ref 15), Option.none, Option.some (Value.str (PySem.Str.ofString "PostError") 189), Option.some (Value.str (PySem.Str.ofString "PostError") 197), Option.some (Value.builtin "Exception.__new__"), Option.some (Value.bool Bool.true)]
noncomputable def hd.o_83 : Params → Obj := fun P => Obj.mk (Value.type "tuple") Option.none (Data.seq #[Value.ref 39]) #[]
noncomputable def hd.o_84 : Params → Obj := fun P => Obj.mk (Value.type "builtin_function_or_method") Option.none (Data.fields #[Value.builtin "type.__prepare__", Value.type "type"]) #[]
noncomputable def hd.o_85 : Params → Obj := fun P => Obj.mk (Value.type "dict") Option.none (Data.dict #[DictEntry.mk (PyData.keyHash P (PySem.Str.ofString "__module__")) (Value.str (PySem.Str.ofString "__module__") 236) (Value.str (PySem.Str.ofString "postkeep.errors") 187), DictEntry.mk (PyData.keyHash P (PySem.Str.ofString "__qualname__")) (Value.str (PySem.Str.ofString "__qualname__") 238) (Value.str (PySem.Str.ofString "MimeFault") 237), DictEntry.mk (PyData.keyHash P (PySem.Str.ofString "__firstlineno__")) (Value.str (PySem.Str.ofString "__firstlineno__") 240) (Value.int 11 239), DictEntry.mk (PyData.keyHash P (PySem.Str.ofString "__static_attributes__")) (Value.str (PySem.Str.ofString "__static_attributes__") 241) (Value.ref 50)] 4) #[]
noncomputable def hd.o_86 : Params → Obj := fun P => Obj.mk (Value.type "tuple") Option.none (Data.seq #[]) #[]
noncomputable def hd.o_87 : Params → Obj := fun P => Obj.mk Value.none Option.none (Data.fields #[]) #[]
noncomputable def hd.o_88 : Params → Obj := fun P => Obj.mk (Value.type "code") Option.none (Data.fields #[Value.str (PySem.Str.ofString "MimeFault") 231, Value.str (PySem.Str.ofString "MimeFault") 232, Value.str (PySem.Str.ofString "/claim/cut.py") 233, Value.int 11 0, Value.int 0 0, Value.int 0 0, Value.int 0 0, Value.int 0 0, Value.ref 46, Value.bool Bool.false, Value.int 181 0, Value.ref 47, Value.none, Value.none, Value.none, Value.none, Value.int 234 0, Value.int 11 0, Value.str (PySem.Str.ofString "/claim/cut.py") 235]) #[]
noncomputable def hd.o_89 : Params → Obj := fun P => Obj.mk (Value.type "frame") Option.none Data.plain #[Option.some (Value.ref 48), Option.some (Value.ref 3), Option.some (Value.ref 45), Option.none, Option.some (Value.str (PySem.Str.ofString "postkeep.errors") 187), Option.none, Option.some (Value.ref 0)]
noncomputable def hd.o_90 : Params → Obj := fun P => Obj.mk (Value.type "tuple") Option.none (Data.seq #[]) #[]
noncomputable def hd.o_91 : Params → Obj := fun P => Obj.mk (Value.type "dict") Option.none (Data.dict #[DictEntry.mk (PyData.keyHash P (PySem.Str.ofString "__module__")) (Value.str (PySem.Str.ofString "__module__") 236) (Value.str (PySem.Str.ofString "postkeep.errors") 187), DictEntry.mk (PyData.keyHash P (PySem.Str.ofString "__firstlineno__")) (Value.str (PySem.Str.ofString "__firstlineno__") 240) (Value.int 11 239), DictEntry.mk (PyData.keyHash P (PySem.Str.ofString "__static_attributes__")) (Value.str (PySem.Str.ofString "__static_attributes__") 241) (Value.ref 50), DictEntry.mk (PyData.keyHash P (PySem.Str.ofString "__doc__")) (Value.str (PySem.Str.ofString "__doc__") 242) Value.none] 2) #[]
noncomputable def hd.o_92 : Params → Obj := fun P => Obj.mk (Value.type "type") Option.none (Data.cls (ClassData.mk (PySem.Str.ofString "MimeFault") [Value.ref 39] [Value.ref 52, Value.ref 39, Value.type "Exception", Value.type "BaseException", Value.type "object"] 51 (PySem.Str.ofString "MimeFault") Bool.true [] [] Bool.false Option.none Bool.false)) #[Option.some (Value.ref 43), Option.none, Option.some (Value.str (PySem.Str.ofString "MimeFault") 229), Option.some (Value.str (PySem.Str.ofString "MimeFault") 237), Option.some (Value.builtin "Exception.__new__"), Option.some (Value.bool Bool.true)]
noncomputable def hd.o_93 : Params → Obj := fun P => Obj.mk (Value.type "super") Option.none (Data.fields #[Value.ref 52, Value.ref 52, Value.ref 52]) #[]
noncomputable def hd.o_94 : Params → Obj := fun P => Obj.mk (Value.type "builtin_function_or_method") Option.none (Data.fields #[Value.builtin "object.__init_subclass__", Value.ref 52]) #[]
noncomputable def hd.o_95 : Params → Obj := fun P => Obj.mk (Value.type "dict") Option.none (Data.dict #[DictEntry.mk (PyData.keyHash P (PySem.Str.ofString "__name__")) (Value.str (PySem.Str.ofString "__name__") 165) (Value.str (PySem.Str.ofString "postkeep.base64") 261), DictEntry.mk (PyData.keyHash P (PySem.Str.ofString "__doc__")) (Value.str (PySem.Str.ofString "__doc__") 166) Value.none, DictEntry.mk (PyData.keyHash P (PySem.Str.ofString "__package__")) (Value.str (PySem.Str.ofString "__package__") 167) Value.none, DictEntry.mk (PyData.keyHash P (PySem.Str.ofString "__loader__")) (Value.str (PySem.Str.ofString "__loader__") 168) (Value.builtin "__main__.__loader__#opaque"), DictEntry.mk (PyData.keyHash P (PySem.Str.ofString "__spec__")) (Value.str (PySem.Str.ofString "__spec__") 169) Value.none, DictEntry.mk (PyData.keyHash P (PySem.Str.ofString "__annotations__")) (Value.str (PySem.Str.ofString "__annotations__") 170) (Value.ref 6), DictEntry.mk (PyData.keyHash P (PySem.Str.ofString "__builtins__")) (Value.str (PySem.Str.ofString "__builtins__") 171) (Value.ref 4), DictEntry.mk (PyData.keyHash P (PySem.Str.ofString "__file__")) (Value.str (PySem.Str.ofString "__file__") 173) (Value.str (PySem.Str.ofString "/claim/cut.py") 172), DictEntry.mk (PyData.keyHash P (PySem.Str.ofString "__cached__")) (Value.str (PySem.Str.ofString "__cached__") 174) Value.none, DictEntry.mk (PyData.keyHash P (PySem.Str.ofString "PostError")) (Value.str (PySem.Str.ofString "PostError") 228) (Value.ref 39), DictEntry.mk (PyData.keyHash P (PySem.Str.ofString "MimeFault")) (Value.str (PySem.Str.ofString "MimeFault") 244) (Value.ref 52), DictEntry.mk (PyData.keyHash P (PySem.Str.ofString "NameFault")) (Value.str (PySem.Str.ofString "NameFault") 260) (Value.ref 64), DictEntry.mk (PyData.keyHash P (PySem.Str.ofString "worth_table")) (Value.str (PySem.Str.ofString "worth_table") 268) (Value.ref 71), DictEntry.mk (PyData.keyHash P (PySem.Str.ofString "group_codes")) (Value.str (PySem.Str.ofString "group_codes") 274) (Value.ref 76), DictEntry.mk (PyData.keyHash P (PySem.Str.ofString "group_octets")) (Value.str (PySem.Str.ofString "group_octets") 280) (Value.ref 81), DictEntry.mk (PyData.keyHash P (PySem.Str.ofString "part_encoded")) (Value.str (PySem.Str.ofString "part_encoded") 290) (Value.ref 88), DictEntry.mk (PyData.keyHash P (PySem.Str.ofString "part_numbers")) (Value.str (PySem.Str.ofString "part_numbers") 300) (Value.ref 95), DictEntry.mk (PyData.keyHash P (PySem.Str.ofString "part_decoded")) (Value.str (PySem.Str.ofString "part_decoded") 314) (Value.ref 102)] 18) #[]
noncomputable def hd.o_96 : Params → Obj := fun P => Obj.mk Value.none Option.none (Data.fields #[Value.int 2 0, Value.int 0 0, Value.ref 20, Value.int 11 0, Value.int 0 0, Value.ref 48, Value.int 13 0, Value.int 0 0, Value.ref 60, Value.int 16 0, Value.int 0 0, Value.ref 70, Value.int 18 0, Value.int 0 0, Value.ref 75, Value.int 25 0, Value.int 0 0, Value.ref 80, Value.int 33 0, Value.int 0 0, Value.ref 87, Value.int 38 0, Value.int 0 0, Value.ref 94, Value.int 45 0, Value.int 0 0, Value.ref 101]) #[]
noncomputable def hd.o_97 : Params → Obj := fun P => Obj.mk (Value.type "type") Option.none (Data.cls (ClassData.mk (PySem.Str.ofString "PostError") [Value.type "Exception"] [Value.ref 39, Value.type "Exception", Value.type "BaseException", Value.type "object"] 38 (PySem.Str.ofString "PostError") Bool.true [] [Value.ref 52, Value.ref 64] Bool.false Option.none Bool.false)) #[Option.some (Value.ref 15), Option.none, Option.some (Value.str (PySem.Str.ofString "PostError") 189), Option.some (Value.str (PySem.Str.ofString "PostError") 197), Option.some (Value.builtin "Exception.__new__"), Option.some (Value.bool Bool.true)]
noncomputable def hd.o_98 : Params → Obj := fun P => Obj.mk (Value.type "tuple") Option.none (Data.seq #[Value.ref 39]) #[]
noncomputable def hd.o_99 : Params → Obj := fun P => Obj.mk (Value.type "builtin_function_or_method") Option.none (Data.fields #[Value.builtin "type.__prepare__", Value.type "type"]) #[]
noncomputable def hd.o_100 : Params → Obj := fun P => Obj.mk (Value.type "dict") Option.none (Data.dict #[DictEntry.mk (PyData.keyHash P (PySem.Str.ofString "__module__")) (Value.str (PySem.Str.ofString "__module__") 252) (Value.str (PySem.Str.ofString "postkeep.errors") 187), DictEntry.mk (PyData.keyHash P (PySem.Str.ofString "__qualname__")) (Value.str (PySem.Str.ofString "__qualname__") 254) (Value.str (PySem.Str.ofString "NameFault") 253), DictEntry.mk (PyData.keyHash P (PySem.Str.ofString "__firstlineno__")) (Value.str (PySem.Str.ofString "__firstlineno__") 256) (Value.int 13 255), DictEntry.mk (PyData.keyHash P (PySem.Str.ofString "__static_attributes__")) (Value.str (PySem.Str.ofString "__static_attributes__") 257) (Value.ref 62)] 4) #[]
noncomputable def hd.o_101 : Params → Obj := fun P => Obj.mk (Value.type "tuple") Option.none (Data.seq #[]) #[]
noncomputable def hd.o_102 : Params → Obj := fun P => Obj.mk Value.none Option.none (Data.fields #[]) #[]
noncomputable def hd.o_103 : Params → Obj := fun P => Obj.mk (Value.type "code") Option.none (Data.fields #[Value.str (PySem.Str.ofString "NameFault") 247, Value.str (PySem.Str.ofString "NameFault") 248, Value.str (PySem.Str.ofString "/claim/cut.py") 249, Value.int 13 0, Value.int 0 0, Value.int 0 0, Value.int 0 0, Value.int 0 0, Value.ref 58, Value.bool Bool.false, Value.int 181 0, Value.ref 59, Value.none, Value.none, Value.none, Value.none, Value.int 250 0, Value.int 13 0, Value.str (PySem.Str.ofString "/claim/cut.py") 251]) #[]
noncomputable def hd.o_104 : Params → Obj := fun P => Obj.mk (Value.type "frame") Option.none Data.plain #[Option.some (Value.ref 60), Option.some (Value.ref 3), Option.some (Value.ref 57), Option.none, Option.some (Value.str (PySem.Str.ofString "postkeep.errors") 187), Option.none, Option.some (Value.ref 0)]
noncomputable def hd.o_105 : Params → Obj := fun P => Obj.mk (Value.type "tuple") Option.none (Data.seq #[]) #[]
noncomputable def hd.o_106 : Params → Obj := fun P => Obj.mk (Value.type "dict") Option.none (Data.dict #[DictEntry.mk (PyData.keyHash P (PySem.Str.ofString "__module__")) (Value.str (PySem.Str.ofString "__module__") 252) (Value.str (PySem.Str.ofString "postkeep.errors") 187), DictEntry.mk (PyData.keyHash P (PySem.Str.ofString "__firstlineno__")) (Value.str (PySem.Str.ofString "__firstlineno__") 256) (Value.int 13 255), DictEntry.mk (PyData.keyHash P (PySem.Str.ofString "__static_attributes__")) (Value.str (PySem.Str.ofString "__static_attributes__") 257) (Value.ref 62), DictEntry.mk (PyData.keyHash P (PySem.Str.ofString "__doc__")) (Value.str (PySem.Str.ofString "__doc__") 258) Value.none] 2) #[]
noncomputable def hd.o_107 : Params → Obj := fun P => Obj.mk (Value.type "type") Option.none (Data.cls (ClassData.mk (PySem.Str.ofString "NameFault") [Value.ref 39] [Value.ref 64, Value.ref 39, Value.type "Exception", Value.type "BaseException", Value.type "object"] 63 (PySem.Str.ofString "NameFault") Bool.true [] [] Bool.false Option.none Bool.false)) #[Option.some (Value.ref 55), Option.none, Option.some (Value.str (PySem.Str.ofString "NameFault") 245), Option.some (Value.str (PySem.Str.ofString "NameFault") 253), Option.some (Value.builtin "Exception.__new__"), Option.some (Value.bool Bool.true)]
noncomputable def hd.o_108 : Params → Obj := fun P => Obj.mk (Value.type "super") Option.none (Data.fields #[Value.ref 64, Value.ref 64, Value.ref 64]) #[]
noncomputable def hd.o_109 : Params → Obj := fun P => Obj.mk (Value.type "builtin_function_or_method") Option.none (Data.fields #[Value.builtin "object.__init_subclass__", Value.ref 64]) #[]
noncomputable def hd.o_110 : Params → Obj := fun P => Obj.mk (Value.type "tuple") Option.none (Data.seq #[]) #[]
noncomputable def hd.o_111 : Params → Obj := fun P => Obj.mk Value.none Option.none (Data.fields #[]) #[]
noncomputable def hd.o_112 : Params → Obj := fun P => Obj.mk Value.none Option.none (Data.func (FuncData.mk (PySem.Str.ofString "worth_table") (PySem.Str.ofString "worth_table") (fA (stm 5)) (FuncBody.stmts (fB (stm 5))) (fC (stm 5)) 0 [] Value.none Value.none Value.none Value.none Option.none Value.none Value.none 0)) #[]
noncomputable def hd.o_113 : Params → Obj := fun P => Obj.mk (Value.type "code") Option.none (Data.fields #[Value.str (PySem.Str.ofString "worth_table") 263, Value.str (PySem.Str.ofString "worth_table") 264, Value.str (PySem.Str.ofString "/claim/cut.py") 265, Value.int 16 0, Value.int 1 0, Value.int 0 0, Value.int 0 0, Value.int 3 0, Value.ref 67, Value.bool Bool.true, Value.int 181 0, Value.ref 68, Value.none, Value.none, Value.none, Value.ref 69, Value.int 266 0, Value.int 16 0, Value.str (PySem.Str.ofString "/claim/cut.py") 267]) #[]
noncomputable def hd.o_114 : Params → Obj := fun P => Obj.mk (Value.type "function") Option.none (Data.func (FuncData.mk (PySem.Str.ofString "worth_table") (PySem.Str.ofString "worth_table") (fA (stm 5)) (FuncBody.stmts (fB (stm 5))) (fC (stm 5)) 3 [] Value.none Value.none Value.none (Value.str (PySem.Str.ofString "postkeep.base64") 261) Option.none (Value.ref 70) Value.none 0)) #[]
noncomputable def hd.o_115 : Params → Obj := fun P => Obj.mk (Value.type "tuple") Option.none (Data.seq #[]) #[]
noncomputable def hd.o_116 : Params → Obj := fun P => Obj.mk Value.none Option.none (Data.fields #[]) #[]
noncomputable def hd.o_117 : Params → Obj := fun P => Obj.mk Value.none Option.none (Data.func (FuncData.mk (PySem.Str.ofString "group_codes") (PySem.Str.ofString "group_codes") (fA (stm 6)) (FuncBody.stmts (fB (stm 6))) (fC (stm 6)) 0 [] Value.none Value.none Value.none Value.none Option.none Value.none Value.none 0)) #[]
noncomputable def hd.o_118 : Params → Obj := fun P => Obj.mk (Value.type "code") Option.none (Data.fields #[Value.str (PySem.Str.ofString "group_codes") 269, Value.str (PySem.Str.ofString "group_codes") 270, Value.str (PySem.Str.ofString "/claim/cut.py") 271, Value.int 18 0, Value.int 2 0, Value.int 0 0, Value.int 0 0, Value.int 3 0, Value.ref 72, Value.bool Bool.true, Value.int 181 0, Value.ref 73, Value.none, Value.none, Value.none, Value.ref 74, Value.int 272 0, Value.int 18 0, Value.str (PySem.Str.ofString "/claim/cut.py") 273]) #[]
noncomputable def hd.o_119 : Params → Obj := fun P => Obj.mk (Value.type "function") Option.none (Data.func (FuncData.mk (PySem.Str.ofString "group_codes") (PySem.Str.ofString "group_codes") (fA (stm 6)) (FuncBody.stmts (fB (stm 6))) (fC (stm 6)) 3 [] Value.none Value.none Value.none (Value.str (PySem.Str.ofString "postkeep.base64") 261) Option.none (Value.ref 75) Value.none 0)) #[]
noncomputable def hd.o_120 : Params → Obj := fun P => Obj.mk (Value.type "tuple") Option.none (Data.seq #[]) #[]
noncomputable def hd.o_121 : Params → Obj := fun P => Obj.mk Value.none Option.none (Data.fields #[]) #[]
noncomputable def hd.o_122 : Params → Obj := fun P => Obj.mk Value.none Option.none (Data.func (FuncData.mk (PySem.Str.ofString "group_octets") (PySem.Str.ofString "group_octets") (fA (stm 7)) (FuncBody.stmts (fB (stm 7))) (fC (stm 7)) 0 [] Value.none Value.none Value.none Value.none Option.none Value.none Value.none 0)) #[]
noncomputable def hd.o_123 : Params → Obj := fun P => Obj.mk (Value.type "code") Option.none (Data.fields #[Value.str (PySem.Str.ofString "group_octets") 275, Value.str (PySem.Str.ofString "group_octets") 276, Value.str (PySem.Str.ofString "/claim/cut.py") 277, Value.int 25 0, Value.int 1 0, Value.int 0 0, Value.int 0 0, Value.int 3 0, Value.ref 77, Value.bool Bool.true, Value.int 181 0, Value.ref 78, Value.none, Value.none, Value.none, Value.ref 79, Value.int 278 0, Value.int 25 0, Value.str (PySem.Str.ofString "/claim/cut.py") 279]) #[]
noncomputable def hd.o_124 : Params → Obj := fun P => Obj.mk (Value.type "function") Option.none (Data.func (FuncData.mk (PySem.Str.ofString "group_octets") (PySem.Str.ofString "group_octets") (fA (stm 7)) (FuncBody.stmts (fB (stm 7))) (fC (stm 7)) 3 [] Value.none Value.none Value.none (Value.str (PySem.Str.ofString "postkeep.base64") 261) Option.none (Value.ref 80) Value.none 0)) #[]
noncomputable def hd.o_125 : Params → Obj := fun P => Obj.mk (Value.type "tuple") Option.none (Data.seq #[]) #[]
noncomputable def hd.o_126 : Params → Obj := fun P => Obj.mk Value.none Option.none (Data.fields #[]) #[]
noncomputable def hd.o_127 : Params → Obj := fun P => Obj.mk (Value.type "tuple") Option.none (Data.seq #[Value.str (PySem.Str.ofString "octets") 284, Value.str (PySem.Str.ofString "alphabet") 285, Value.str (PySem.Str.ofString "codes") 286, Value.str (PySem.Str.ofString "begin") 287]) #[]
noncomputable def hd.o_128 : Params → Obj := fun P => Obj.mk (Value.type "tuple") Option.none (Data.seq #[]) #[]
noncomputable def hd.o_129 : Params → Obj := fun P => Obj.mk Value.none Option.none (Data.func (FuncData.mk (PySem.Str.ofString "part_encoded") (PySem.Str.ofString "part_encoded") (fA (stm 8)) (FuncBody.stmts (fB (stm 8))) (fC (stm 8)) 0 [] Value.none Value.none Value.none Value.none Option.none Value.none Value.none 0)) #[]
noncomputable def hd.o_130 : Params → Obj := fun P => Obj.mk (Value.type "code") Option.none (Data.fields #[Value.str (PySem.Str.ofString "part_encoded") 281, Value.str (PySem.Str.ofString "part_encoded") 282, Value.str (PySem.Str.ofString "/claim/cut.py") 283, Value.int 33 0, Value.int 2 0, Value.int 0 0, Value.int 0 0, Value.int 3 0, Value.ref 82, Value.bool Bool.true, Value.int 181 0, Value.ref 83, Value.none, Value.ref 84, Value.ref 85, Value.ref 86, Value.int 288 0, Value.int 33 0, Value.str (PySem.Str.ofString "/claim/cut.py") 289]) #[]
noncomputable def hd.o_131 : Params → Obj := fun P => Obj.mk (Value.type "function") Option.none (Data.func (FuncData.mk (PySem.Str.ofString "part_encoded") (PySem.Str.ofString "part_encoded") (fA (stm 8)) (FuncBody.stmts (fB (stm 8))) (fC (stm 8)) 3 [] Value.none Value.none Value.none (Value.str (PySem.Str.ofString "postkeep.base64") 261) Option.none (Value.ref 87) Value.none 0)) #[]
noncomputable def hd.o_132 : Params → Obj := fun P => Obj.mk (Value.type "tuple") Option.none (Data.seq #[]) #[]
noncomputable def hd.o_133 : Params → Obj := fun P => Obj.mk Value.none Option.none (Data.fields #[]) #[]
noncomputable def hd.o_134 : Params → Obj := fun P => Obj.mk (Value.type "tuple") Option.none (Data.seq #[Value.str (PySem.Str.ofString "signs") 294, Value.str (PySem.Str.ofString "worths") 295, Value.str (PySem.Str.ofString "worth_row") 296, Value.str (PySem.Str.ofString "at") 297]) #[]
noncomputable def hd.o_135 : Params → Obj := fun P => Obj.mk (Value.type "tuple") Option.none (Data.seq #[]) #[]
noncomputable def hd.o_136 : Params → Obj := fun P => Obj.mk Value.none Option.none (Data.func (FuncData.mk (PySem.Str.ofString "part_numbers") (PySem.Str.ofString "part_numbers") (fA (stm 9)) (FuncBody.stmts (fB (stm 9))) (fC (stm 9)) 0 [] Value.none Value.none Value.none Value.none Option.none Value.none Value.none 0)) #[]
noncomputable def hd.o_137 : Params → Obj := fun P => Obj.mk (Value.type "code") Option.none (Data.fields #[Value.str (PySem.Str.ofString "part_numbers") 291, Value.str (PySem.Str.ofString "part_numbers") 292, Value.str (PySem.Str.ofString "/claim/cut.py") 293, Value.int 38 0, Value.int 2 0, Value.int 0 0, Value.int 0 0, Value.int 3 0, Value.ref 89, Value.bool Bool.true, Value.int 181 0, Value.ref 90, Value.none, Value.ref 91, Value.ref 92, Value.ref 93, Value.int 298 0, Value.int 38 0, Value.str (PySem.Str.ofString "/claim/cut.py") 299]) #[]
noncomputable def hd.o_138 : Params → Obj := fun P => Obj.mk (Value.type "function") Option.none (Data.func (FuncData.mk (PySem.Str.ofString "part_numbers") (PySem.Str.ofString "part_numbers") (fA (stm 9)) (FuncBody.stmts (fB (stm 9))) (fC (stm 9)) 3 [] Value.none Value.none Value.none (Value.str (PySem.Str.ofString "postkeep.base64") 261) Option.none (Value.ref 94) Value.none 0)) #[]
noncomputable def hd.o_139 : Params → Obj := fun P => Obj.mk (Value.type "tuple") Option.none (Data.seq #[]) #[]
noncomputable def hd.o_140 : Params → Obj := fun P => Obj.mk Value.none Option.none (Data.fields #[]) #[]
noncomputable def hd.o_141 : Params → Obj := fun P => Obj.mk (Value.type "tuple") Option.none (Data.seq #[Value.str (PySem.Str.ofString "signs") 304, Value.str (PySem.Str.ofString "alphabet") 305, Value.str (PySem.Str.ofString "worth_row") 306, Value.str (PySem.Str.ofString "found") 307, Value.str (PySem.Str.ofString "begin") 308, Value.str (PySem.Str.ofString "group") 309, Value.str (PySem.Str.ofString "octets") 310, Value.str (PySem.Str.ofString "spare") 311]) #[]
noncomputable def hd.o_142 : Params → Obj := fun P => Obj.mk (Value.type "tuple") Option.none (Data.seq #[]) #[]
noncomputable def hd.o_143 : Params → Obj := fun P => Obj.mk Value.none Option.none (Data.func (FuncData.mk (PySem.Str.ofString "part_decoded") (PySem.Str.ofString "part_decoded") (fA (stm 10)) (FuncBody.stmts (fB (stm 10))) (fC (stm 10)) 0 [] Value.none Value.none Value.none Value.none Option.none Value.none Value.none 0)) #[]
noncomputable def hd.o_144 : Params → Obj := fun P => Obj.mk (Value.type "code") Option.none (Data.fields #[Value.str (PySem.Str.ofString "part_decoded") 301, Value.str (PySem.Str.ofString "part_decoded") 302, Value.str (PySem.Str.ofString "/claim/cut.py") 303, Value.int 45 0, Value.int 2 0, Value.int 0 0, Value.int 0 0, Value.int 3 0, Value.ref 96, Value.bool Bool.true, Value.int 181 0, Value.ref 97, Value.none, Value.ref 98, Value.ref 99, Value.ref 100, Value.int 312 0, Value.int 45 0, Value.str (PySem.Str.ofString "/claim/cut.py") 313]) #[]
noncomputable def hd.o_145 : Params → Obj := fun P => Obj.mk (Value.type "function") Option.none (Data.func (FuncData.mk (PySem.Str.ofString "part_decoded") (PySem.Str.ofString "part_decoded") (fA (stm 10)) (FuncBody.stmts (fB (stm 10))) (fC (stm 10)) 3 [] Value.none Value.none Value.none (Value.str (PySem.Str.ofString "postkeep.base64") 261) Option.none (Value.ref 101) Value.none 0)) #[]
noncomputable def hd.o_146 : Params → Obj := fun P => Obj.mk (Value.type "dict") Option.none (Data.dict #[DictEntry.mk (PyData.keyHash P (PySem.Str.ofString "__name__")) (Value.str (PySem.Str.ofString "__name__") 165) (Value.str (PySem.Str.ofString "postkeep.names") 323), DictEntry.mk (PyData.keyHash P (PySem.Str.ofString "__doc__")) (Value.str (PySem.Str.ofString "__doc__") 166) Value.none, DictEntry.mk (PyData.keyHash P (PySem.Str.ofString "__package__")) (Value.str (PySem.Str.ofString "__package__") 167) Value.none, DictEntry.mk (PyData.keyHash P (PySem.Str.ofString "__loader__")) (Value.str (PySem.Str.ofString "__loader__") 168) (Value.builtin "__main__.__loader__#opaque"), DictEntry.mk (PyData.keyHash P (PySem.Str.ofString "__spec__")) (Value.str (PySem.Str.ofString "__spec__") 169) Value.none, DictEntry.mk (PyData.keyHash P (PySem.Str.ofString "__annotations__")) (Value.str (PySem.Str.ofString "__annotations__") 170) (Value.ref 6), DictEntry.mk (PyData.keyHash P (PySem.Str.ofString "__builtins__")) (Value.str (PySem.Str.ofString "__builtins__") 171) (Value.ref 4), DictEntry.mk (PyData.keyHash P (PySem.Str.ofString "__file__")) (Value.str (PySem.Str.ofString "__file__") 173) (Value.str (PySem.Str.ofString "/claim/cut.py") 172), DictEntry.mk (PyData.keyHash P (PySem.Str.ofString "__cached__")) (Value.str (PySem.Str.ofString "__cached__") 174) Value.none, DictEntry.mk (PyData.keyHash P (PySem.Str.ofString "PostError")) (Value.str (PySem.Str.ofString "PostError") 228) (Value.ref 39), DictEntry.mk (PyData.keyHash P (PySem.Str.ofString "MimeFault")) (Value.str (PySem.Str.ofString "MimeFault") 244) (Value.ref 52), DictEntry.mk (PyData.keyHash P (PySem.Str.ofString "NameFault")) (Value.str (PySem.Str.ofString "NameFault") 260) (Value.ref 64), DictEntry.mk (PyData.keyHash P (PySem.Str.ofString "worth_table")) (Value.str (PySem.Str.ofString "worth_table") 268) (Value.ref 71), DictEntry.mk (PyData.keyHash P (PySem.Str.ofString "group_codes")) (Value.str (PySem.Str.ofString "group_codes") 274) (Value.ref 76), DictEntry.mk (PyData.keyHash P (PySem.Str.ofString "group_octets")) (Value.str (PySem.Str.ofString "group_octets") 280) (Value.ref 81), DictEntry.mk (PyData.keyHash P (PySem.Str.ofString "part_encoded")) (Value.str (PySem.Str.ofString "part_encoded") 290) (Value.ref 88), DictEntry.mk (PyData.keyHash P (PySem.Str.ofString "part_numbers")) (Value.str (PySem.Str.ofString "part_numbers") 300) (Value.ref 95), DictEntry.mk (PyData.keyHash P (PySem.Str.ofString "part_decoded")) (Value.str (PySem.Str.ofString "part_decoded") 314) (Value.ref 102), DictEntry.mk (PyData.keyHash P (PySem.Str.ofString "upper_text")) (Value.str (PySem.Str.ofString "upper_text") 322) (Value.ref 107), DictEntry.mk (PyData.keyHash P (PySem.Str.ofString "DELIMITER")) (Value.str (PySem.Str.ofString "DELIMITER") 326) (Value.str (PySem.Str.ofString "/") 325), DictEntry.mk (PyData.keyHash P (PySem.Str.ofString "INBOX")) (Value.str (PySem.Str.ofString "INBOX") 328) (Value.str (PySem.Str.ofString "INBOX") 327), DictEntry.mk (PyData.keyHash P (PySem.Str.ofString "WILD_SIGNS")) (Value.str (PySem.Str.ofString "WILD_SIGNS") 330) (Value.str (PySem.Str.ofString "%*") 329), DictEntry.mk (PyData.keyHash P (PySem.Str.ofString "SHIFT_SIGNS")) (Value.str (PySem.Str.ofString "SHIFT_SIGNS") 332) (Value.bytes #[65, 66, 67, 68, 69, 70, 71, 72, 73, 74, 75, 76, 77, 78, 79, 80, 81, 82, 83, 84, 85, 86, 87, 88, 89, 90, 97, 98, 99, 100, 101, 102, 103, 104, 105, 106, 107, 108, 109, 110, 111, 112, 113, 114, 115, 116, 117, 118, 119, 120, 121, 122, 48, 49, 50, 51, 52, 53, 54, 55, 56, 57, 43, 44] 331), DictEntry.mk (PyData.keyHash P (PySem.Str.ofString "is_plain_code")) (Value.str (PySem.Str.ofString "is_plain_code") 339) (Value.ref 114), DictEntry.mk (PyData.keyHash P (PySem.Str.ofString "is_half")) (Value.str (PySem.Str.ofString "is_half") 346) (Value.ref 121), DictEntry.mk (PyData.keyHash P (PySem.Str.ofString "utf16_octets")) (Value.str (PySem.Str.ofString "utf16_octets") 359) (Value.ref 128), DictEntry.mk (PyData.keyHash P (PySem.Str.ofString "run_behind")) (Value.str (PySem.Str.ofString "run_behind") 368) (Value.ref 135), DictEntry.mk (PyData.keyHash P (PySem.Str.ofString "utf7_octets")) (Value.str (PySem.Str.ofString "utf7_octets") 379) (Value.ref 142), DictEntry.mk (PyData.keyHash P (PySem.Str.ofString "shift_behind")) (Value.str (PySem.Str.ofString "shift_behind") 388) (Value.ref 149), DictEntry.mk (PyData.keyHash P (PySem.Str.ofString "units_text")) (Value.str (PySem.Str.ofString "units_text") 401) (Value.ref 156), DictEntry.mk (PyData.keyHash P (PySem.Str.ofString "shifted_text")) (Value.str (PySem.Str.ofString "shifted_text") 412) (Value.ref 163), DictEntry.mk (PyData.keyHash P (PySem.Str.ofString "utf7_text")) (Value.str (PySem.Str.ofString "utf7_text") 424) (Value.ref 170), DictEntry.mk (PyData.keyHash P (PySem.Str.ofString "first_part")) (Value.str (PySem.Str.ofString "first_part") 432) (Value.ref 177)] 33) #[]
noncomputable def hd.o_147 : Params → Obj := fun P => Obj.mk Value.none Option.none (Data.fields #[Value.int 2 0, Value.int 0 0, Value.ref 20, Value.int 11 0, Value.int 0 0, Value.ref 48, Value.int 13 0, Value.int 0 0, Value.ref 60, Value.int 16 0, Value.int 0 0, Value.ref 70, Value.int 18 0, Value.int 0 0, Value.ref 75, Value.int 25 0, Value.int 0 0, Value.ref 80, Value.int 33 0, Value.int 0 0, Value.ref 87, Value.int 38 0, Value.int 0 0, Value.ref 94, Value.int 45 0, Value.int 0 0, Value.ref 101, Value.int 58 0, Value.int 0 0, Value.ref 106, Value.int 65 0, Value.int 0 0, Value.ref 113, Value.int 67 0, Value.int 0 0, Value.ref 120, Value.int 69 0, Value.int 0 0, Value.ref 127, Value.int 83 0, Value.int 0 0, Value.ref 134, Value.int 88 0, Value.int 0 0, Value.ref 141, Value.int 105 0, Value.int 0 0, Value.ref 148, Value.int 112 0, Value.int 0 0, Value.ref 155, Value.int 134 0, Value.int 0 0, Value.ref 162, Value.int 142 0, Value.int 0 0, Value.ref 169, Value.int 164 0, Value.int 0 0, Value.ref 176]) #[]
noncomputable def hd.o_148 : Params → Obj := fun P => Obj.mk (Value.type "tuple") Option.none (Data.seq #[]) #[]
noncomputable def hd.o_149 : Params → Obj := fun P => Obj.mk Value.none Option.none (Data.fields #[]) #[]
noncomputable def hd.o_150 : Params → Obj := fun P => Obj.mk Value.none Option.none (Data.func (FuncData.mk (PySem.Str.ofString "upper_text") (PySem.Str.ofString "upper_text") (fA (stm 12)) (FuncBody.stmts (fB (stm 12))) (fC (stm 12)) 0 [] Value.none Value.none Value.none Value.none Option.none Value.none Value.none 0)) #[]
noncomputable def hd.o_151 : Params → Obj := fun P => Obj.mk (Value.type "code") Option.none (Data.fields #[Value.str (PySem.Str.ofString "upper_text") 317, Value.str (PySem.Str.ofString "upper_text") 318, Value.str (PySem.Str.ofString "/claim/cut.py") 319, Value.int 58 0, Value.int 1 0, Value.int 0 0, Value.int 0 0, Value.int 3 0, Value.ref 103, Value.bool Bool.true, Value.int 181 0, Value.ref 104, Value.none, Value.none, Value.none, Value.ref 105, Value.int 320 0, Value.int 58 0, Value.str (PySem.Str.ofString "/claim/cut.py") 321]) #[]
noncomputable def hd.o_152 : Params → Obj := fun P => Obj.mk (Value.type "function") Option.none (Data.func (FuncData.mk (PySem.Str.ofString "upper_text") (PySem.Str.ofString "upper_text") (fA (stm 12)) (FuncBody.stmts (fB (stm 12))) (fC (stm 12)) 3 [] Value.none Value.none Value.none (Value.str (PySem.Str.ofString "postkeep.octets") 315) Option.none (Value.ref 106) Value.none 0)) #[]
noncomputable def hd.o_153 : Params → Obj := fun P => Obj.mk (Value.type "tuple") Option.none (Data.seq #[]) #[]
noncomputable def hd.o_154 : Params → Obj := fun P => Obj.mk Value.none Option.none (Data.fields #[]) #[]
noncomputable def hd.o_155 : Params → Obj := fun P => Obj.mk (Value.type "tuple") Option.none (Data.seq #[Value.str (PySem.Str.ofString "code") 336]) #[]
noncomputable def hd.o_156 : Params → Obj := fun P => Obj.mk (Value.type "tuple") Option.none (Data.seq #[]) #[]
noncomputable def hd.o_157 : Params → Obj := fun P => Obj.mk Value.none Option.none (Data.func (FuncData.mk (PySem.Str.ofString "is_plain_code") (PySem.Str.ofString "is_plain_code") (fA (stm 18)) (FuncBody.stmts (fB (stm 18))) (fC (stm 18)) 0 [] Value.none Value.none Value.none Value.none Option.none Value.none Value.none 0)) #[]
noncomputable def hd.o_158 : Params → Obj := fun P => Obj.mk (Value.type "code") Option.none (Data.fields #[Value.str (PySem.Str.ofString "is_plain_code") 333, Value.str (PySem.Str.ofString "is_plain_code") 334, Value.str (PySem.Str.ofString "/claim/cut.py") 335, Value.int 65 0, Value.int 1 0, Value.int 0 0, Value.int 0 0, Value.int 3 0, Value.ref 108, Value.bool Bool.true, Value.int 181 0, Value.ref 109, Value.none, Value.ref 110, Value.ref 111, Value.ref 112, Value.int 337 0, Value.int 65 0, Value.str (PySem.Str.ofString "/claim/cut.py") 338]) #[]
noncomputable def hd.o_159 : Params → Obj := fun P => Obj.mk (Value.type "function") Option.none (Data.func (FuncData.mk (PySem.Str.ofString "is_plain_code") (PySem.Str.ofString "is_plain_code") (fA (stm 18)) (FuncBody.stmts (fB (stm 18))) (fC (stm 18)) 3 [] Value.none Value.none Value.none (Value.str (PySem.Str.ofString "postkeep.names") 323) Option.none (Value.ref 113) Value.none 0)) #[]
noncomputable def hd.o_160 : Params → Obj := fun P => Obj.mk (Value.type "tuple") Option.none (Data.seq #[]) #[]
noncomputable def hd.o_161 : Params → Obj := fun P => Obj.mk Value.none Option.none (Data.fields #[]) #[]
noncomputable def hd.o_162 : Params → Obj := fun P => Obj.mk (Value.type "tuple") Option.none (Data.seq #[Value.str (PySem.Str.ofString "code") 343]) #[]
noncomputable def hd.o_163 : Params → Obj := fun P => Obj.mk (Value.type "tuple") Option.none (Data.seq #[]) #[]
noncomputable def hd.o_164 : Params → Obj := fun P => Obj.mk Value.none Option.none (Data.func (FuncData.mk (PySem.Str.ofString "is_half") (PySem.Str.ofString "is_half") (fA (stm 19)) (FuncBody.stmts (fB (stm 19))) (fC (stm 18)) 0 [] Value.none Value.none Value.none Value.none Option.none Value.none Value.none 0)) #[]
noncomputable def hd.o_165 : Params → Obj := fun P => Obj.mk (Value.type "code") Option.none (Data.fields #[Value.str (PySem.Str.ofString "is_half") 340, Value.str (PySem.Str.ofString "is_half") 341, Value.str (PySem.Str.ofString "/claim/cut.py") 342, Value.int 67 0, Value.int 1 0, Value.int 0 0, Value.int 0 0, Value.int 3 0, Value.ref 115, Value.bool Bool.true, Value.int 181 0, Value.ref 116, Value.none, Value.ref 117, Value.ref 118, Value.ref 119, Value.int 344 0, Value.int 67 0, Value.str (PySem.Str.ofString "/claim/cut.py") 345]) #[]
noncomputable def hd.o_166 : Params → Obj := fun P => Obj.mk (Value.type "function") Option.none (Data.func (FuncData.mk (PySem.Str.ofString "is_half") (PySem.Str.ofString "is_half") (fA (stm 19)) (FuncBody.stmts (fB (stm 19))) (fC (stm 18)) 3 [] Value.none Value.none Value.none (Value.str (PySem.Str.ofString "postkeep.names") 323) Option.none (Value.ref 120) Value.none 0)) #[]
noncomputable def hd.o_167 : Params → Obj := fun P => Obj.mk (Value.type "tuple") Option.none (Data.seq #[]) #[]
noncomputable def hd.o_168 : Params → Obj := fun P => Obj.mk Value.none Option.none (Data.fields #[]) #[]
noncomputable def hd.o_169 : Params → Obj := fun P => Obj.mk (Value.type "tuple") Option.none (Data.seq #[Value.str (PySem.Str.ofString "text") 350, Value.str (PySem.Str.ofString "begin") 351, Value.str (PySem.Str.ofString "end") 352, Value.str (PySem.Str.ofString "out") 353, Value.str (PySem.Str.ofString "at") 354, Value.str (PySem.Str.ofString "code") 355, Value.str (PySem.Str.ofString "high") 356]) #[]
noncomputable def hd.o_170 : Params → Obj := fun P => Obj.mk (Value.type "tuple") Option.none (Data.seq #[]) #[]
noncomputable def hd.o_171 : Params → Obj := fun P => Obj.mk Value.none Option.none (Data.func (FuncData.mk (PySem.Str.ofString "utf16_octets") (PySem.Str.ofString "utf16_octets") (fA (stm 20)) (FuncBody.stmts (fB (stm 20))) (fC (stm 20)) 0 [] Value.none Value.none Value.none Value.none Option.none Value.none Value.none 0)) #[]
noncomputable def hd.o_172 : Params → Obj := fun P => Obj.mk (Value.type "code") Option.none (Data.fields #[Value.str (PySem.Str.ofString "utf16_octets") 347, Value.str (PySem.Str.ofString "utf16_octets") 348, Value.str (PySem.Str.ofString "/claim/cut.py") 349, Value.int 69 0, Value.int 3 0, Value.int 0 0, Value.int 0 0, Value.int 3 0, Value.ref 122, Value.bool Bool.true, Value.int 181 0, Value.ref 123, Value.none, Value.ref 124, Value.ref 125, Value.ref 126, Value.int 357 0, Value.int 69 0, Value.str (PySem.Str.ofString "/claim/cut.py") 358]) #[]
noncomputable def hd.o_173 : Params → Obj := fun P => Obj.mk (Value.type "function") Option.none (Data.func (FuncData.mk (PySem.Str.ofString "utf16_octets") (PySem.Str.ofString "utf16_octets") (fA (stm 20)) (FuncBody.stmts (fB (stm 20))) (fC (stm 20)) 3 [] Value.none Value.none Value.none (Value.str (PySem.Str.ofString "postkeep.names") 323) Option.none (Value.ref 127) Value.none 0)) #[]
noncomputable def hd.o_174 : Params → Obj := fun P => Obj.mk (Value.type "tuple") Option.none (Data.seq #[]) #[]
noncomputable def hd.o_175 : Params → Obj := fun P => Obj.mk Value.none Option.none (Data.fields #[]) #[]
noncomputable def hd.o_176 : Params → Obj := fun P => Obj.mk (Value.type "tuple") Option.none (Data.seq #[Value.str (PySem.Str.ofString "text") 363, Value.str (PySem.Str.ofString "begin") 364, Value.str (PySem.Str.ofString "end") 365]) #[]
noncomputable def hd.o_177 : Params → Obj := fun P => Obj.mk (Value.type "tuple") Option.none (Data.seq #[]) #[]
noncomputable def hd.o_178 : Params → Obj := fun P => Obj.mk Value.none Option.none (Data.func (FuncData.mk (PySem.Str.ofString "run_behind") (PySem.Str.ofString "run_behind") (fA (stm 21)) (FuncBody.stmts (fB (stm 21))) (fC (stm 21)) 0 [] Value.none Value.none Value.none Value.none Option.none Value.none Value.none 0)) #[]
noncomputable def hd.o_179 : Params → Obj := fun P => Obj.mk (Value.type "code") Option.none (Data.fields #[Value.str (PySem.Str.ofString "run_behind") 360, Value.str (PySem.Str.ofString "run_behind") 361, Value.str (PySem.Str.ofString "/claim/cut.py") 362, Value.int 83 0, Value.int 2 0, Value.int 0 0, Value.int 0 0, Value.int 3 0, Value.ref 129, Value.bool Bool.true, Value.int 181 0, Value.ref 130, Value.none, Value.ref 131, Value.ref 132, Value.ref 133, Value.int 366 0, Value.int 83 0, Value.str (PySem.Str.ofString "/claim/cut.py") 367]) #[]
noncomputable def hd.o_180 : Params → Obj := fun P => Obj.mk (Value.type "function") Option.none (Data.func (FuncData.mk (PySem.Str.ofString "run_behind") (PySem.Str.ofString "run_behind") (fA (stm 21)) (FuncBody.stmts (fB (stm 21))) (fC (stm 21)) 3 [] Value.none Value.none Value.none (Value.str (PySem.Str.ofString "postkeep.names") 323) Option.none (Value.ref 134) Value.none 0)) #[]
noncomputable def hd.o_181 : Params → Obj := fun P => Obj.mk (Value.type "tuple") Option.none (Data.seq #[]) #[]
noncomputable def hd.o_182 : Params → Obj := fun P => Obj.mk Value.none Option.none (Data.fields #[]) #[]
noncomputable def hd.o_183 : Params → Obj := fun P => Obj.mk (Value.type "tuple") Option.none (Data.seq #[Value.str (PySem.Str.ofString "text") 372, Value.str (PySem.Str.ofString "out") 373, Value.str (PySem.Str.ofString "at") 374, Value.str (PySem.Str.ofString "code") 375, Value.str (PySem.Str.ofString "end") 376]) #[]
noncomputable def hd.o_184 : Params → Obj := fun P => Obj.mk (Value.type "tuple") Option.none (Data.seq #[]) #[]
noncomputable def hd.o_185 : Params → Obj := fun P => Obj.mk Value.none Option.none (Data.func (FuncData.mk (PySem.Str.ofString "utf7_octets") (PySem.Str.ofString "utf7_octets") (fA (stm 22)) (FuncBody.stmts (fB (stm 22))) (fC (stm 22)) 0 [] Value.none Value.none Value.none Value.none Option.none Value.none Value.none 0)) #[]
noncomputable def hd.o_186 : Params → Obj := fun P => Obj.mk (Value.type "code") Option.none (Data.fields #[Value.str (PySem.Str.ofString "utf7_octets") 369, Value.str (PySem.Str.ofString "utf7_octets") 370, Value.str (PySem.Str.ofString "/claim/cut.py") 371, Value.int 88 0, Value.int 1 0, Value.int 0 0, Value.int 0 0, Value.int 3 0, Value.ref 136, Value.bool Bool.true, Value.int 181 0, Value.ref 137, Value.none, Value.ref 138, Value.ref 139, Value.ref 140, Value.int 377 0, Value.int 88 0, Value.str (PySem.Str.ofString "/claim/cut.py") 378]) #[]
noncomputable def hd.o_187 : Params → Obj := fun P => Obj.mk (Value.type "function") Option.none (Data.func (FuncData.mk (PySem.Str.ofString "utf7_octets") (PySem.Str.ofString "utf7_octets") (fA (stm 22)) (FuncBody.stmts (fB (stm 22))) (fC (stm 22)) 3 [] Value.none Value.none Value.none (Value.str (PySem.Str.ofString "postkeep.names") 323) Option.none (Value.ref 141) Value.none 0)) #[]
noncomputable def hd.o_188 : Params → Obj := fun P => Obj.mk (Value.type "tuple") Option.none (Data.seq #[]) #[]
noncomputable def hd.o_189 : Params → Obj := fun P => Obj.mk Value.none Option.none (Data.fields #[]) #[]
noncomputable def hd.o_190 : Params → Obj := fun P => Obj.mk (Value.type "tuple") Option.none (Data.seq #[Value.str (PySem.Str.ofString "octets") 383, Value.str (PySem.Str.ofString "begin") 384, Value.str (PySem.Str.ofString "end") 385]) #[]
noncomputable def hd.o_191 : Params → Obj := fun P => Obj.mk (Value.type "tuple") Option.none (Data.seq #[]) #[]
noncomputable def hd.o_192 : Params → Obj := fun P => Obj.mk Value.none Option.none (Data.func (FuncData.mk (PySem.Str.ofString "shift_behind") (PySem.Str.ofString "shift_behind") (fA (stm 23)) (FuncBody.stmts (fB (stm 23))) (fC (stm 23)) 0 [] Value.none Value.none Value.none Value.none Option.none Value.none Value.none 0)) #[]
noncomputable def hd.o_193 : Params → Obj := fun P => Obj.mk (Value.type "code") Option.none (Data.fields #[Value.str (PySem.Str.ofString "shift_behind") 380, Value.str (PySem.Str.ofString "shift_behind") 381, Value.str (PySem.Str.ofString "/claim/cut.py") 382, Value.int 105 0, Value.int 2 0, Value.int 0 0, Value.int 0 0, Value.int 3 0, Value.ref 143, Value.bool Bool.true, Value.int 181 0, Value.ref 144, Value.none, Value.ref 145, Value.ref 146, Value.ref 147, Value.int 386 0, Value.int 105 0, Value.str (PySem.Str.ofString "/claim/cut.py") 387]) #[]
noncomputable def hd.o_194 : Params → Obj := fun P => Obj.mk (Value.type "function") Option.none (Data.func (FuncData.mk (PySem.Str.ofString "shift_behind") (PySem.Str.ofString "shift_behind") (fA (stm 23)) (FuncBody.stmts (fB (stm 23))) (fC (stm 23)) 3 [] Value.none Value.none Value.none (Value.str (PySem.Str.ofString "postkeep.names") 323) Option.none (Value.ref 148) Value.none 0)) #[]
noncomputable def hd.o_195 : Params → Obj := fun P => Obj.mk (Value.type "tuple") Option.none (Data.seq #[]) #[]
noncomputable def hd.o_196 : Params → Obj := fun P => Obj.mk Value.none Option.none (Data.fields #[]) #[]
noncomputable def hd.o_197 : Params → Obj := fun P => Obj.mk (Value.type "tuple") Option.none (Data.seq #[Value.str (PySem.Str.ofString "raw") 392, Value.str (PySem.Str.ofString "begin") 393, Value.str (PySem.Str.ofString "signs") 394, Value.str (PySem.Str.ofString "high") 395, Value.str (PySem.Str.ofString "place") 396, Value.str (PySem.Str.ofString "at") 397, Value.str (PySem.Str.ofString "code") 398]) #[]
noncomputable def hd.o_198 : Params → Obj := fun P => Obj.mk (Value.type "tuple") Option.none (Data.seq #[]) #[]
noncomputable def hd.o_199 : Params → Obj := fun P => Obj.mk Value.none Option.none (Data.func (FuncData.mk (PySem.Str.ofString "units_text") (PySem.Str.ofString "units_text") (fA (stm 24)) (FuncBody.stmts (fB (stm 24))) (fC (stm 24)) 0 [] Value.none Value.none Value.none Value.none Option.none Value.none Value.none 0)) #[]
noncomputable def hd.o_200 : Params → Obj := fun P => Obj.mk (Value.type "code") Option.none (Data.fields #[Value.str (PySem.Str.ofString "units_text") 389, Value.str (PySem.Str.ofString "units_text") 390, Value.str (PySem.Str.ofString "/claim/cut.py") 391, Value.int 112 0, Value.int 2 0, Value.int 0 0, Value.int 0 0, Value.int 3 0, Value.ref 150, Value.bool Bool.true, Value.int 181 0, Value.ref 151, Value.none, Value.ref 152, Value.ref 153, Value.ref 154, Value.int 399 0, Value.int 112 0, Value.str (PySem.Str.ofString "/claim/cut.py") 400]) #[]
noncomputable def hd.o_201 : Params → Obj := fun P => Obj.mk (Value.type "function") Option.none (Data.func (FuncData.mk (PySem.Str.ofString "units_text") (PySem.Str.ofString "units_text") (fA (stm 24)) (FuncBody.stmts (fB (stm 24))) (fC (stm 24)) 3 [] Value.none Value.none Value.none (Value.str (PySem.Str.ofString "postkeep.names") 323) Option.none (Value.ref 155) Value.none 0)) #[]
noncomputable def hd.o_202 : Params → Obj := fun P => Obj.mk (Value.type "tuple") Option.none (Data.seq #[]) #[]
noncomputable def hd.o_203 : Params → Obj := fun P => Obj.mk Value.none Option.none (Data.fields #[]) #[]
noncomputable def hd.o_204 : Params → Obj := fun P => Obj.mk (Value.type "tuple") Option.none (Data.seq #[Value.str (PySem.Str.ofString "octets") 405, Value.str (PySem.Str.ofString "begin") 406, Value.str (PySem.Str.ofString "end") 407, Value.str (PySem.Str.ofString "raw") 408, Value.str (PySem.Str.ofString "fault") 409]) #[]
noncomputable def hd.o_205 : Params → Obj := fun P => Obj.mk (Value.type "tuple") Option.none (Data.seq #[]) #[]
noncomputable def hd.o_206 : Params → Obj := fun P => Obj.mk Value.none Option.none (Data.func (FuncData.mk (PySem.Str.ofString "shifted_text") (PySem.Str.ofString "shifted_text") (fA (stm 25)) (FuncBody.stmts (fB (stm 25))) (fC (stm 25)) 0 [] Value.none Value.none Value.none Value.none Option.none Value.none Value.none 0)) #[]
noncomputable def hd.o_207 : Params → Obj := fun P => Obj.mk (Value.type "code") Option.none (Data.fields #[Value.str (PySem.Str.ofString "shifted_text") 402, Value.str (PySem.Str.ofString "shifted_text") 403, Value.str (PySem.Str.ofString "/claim/cut.py") 404, Value.int 134 0, Value.int 3 0, Value.int 0 0, Value.int 0 0, Value.int 3 0, Value.ref 157, Value.bool Bool.true, Value.int 181 0, Value.ref 158, Value.none, Value.ref 159, Value.ref 160, Value.ref 161, Value.int 410 0, Value.int 134 0, Value.str (PySem.Str.ofString "/claim/cut.py") 411]) #[]
noncomputable def hd.o_208 : Params → Obj := fun P => Obj.mk (Value.type "function") Option.none (Data.func (FuncData.mk (PySem.Str.ofString "shifted_text") (PySem.Str.ofString "shifted_text") (fA (stm 25)) (FuncBody.stmts (fB (stm 25))) (fC (stm 25)) 3 [] Value.none Value.none Value.none (Value.str (PySem.Str.ofString "postkeep.names") 323) Option.none (Value.ref 162) Value.none 0)) #[]
noncomputable def hd.o_209 : Params → Obj := fun P => Obj.mk (Value.type "tuple") Option.none (Data.seq #[]) #[]
noncomputable def hd.o_210 : Params → Obj := fun P => Obj.mk Value.none Option.none (Data.fields #[]) #[]
noncomputable def hd.o_211 : Params → Obj := fun P => Obj.mk (Value.type "tuple") Option.none (Data.seq #[Value.str (PySem.Str.ofString "octets") 416, Value.str (PySem.Str.ofString "pieces") 417, Value.str (PySem.Str.ofString "at") 418, Value.str (PySem.Str.ofString "shift_end") 419, Value.str (PySem.Str.ofString "code") 420, Value.str (PySem.Str.ofString "end") 421]) #[]
noncomputable def hd.o_212 : Params → Obj := fun P => Obj.mk (Value.type "tuple") Option.none (Data.seq #[]) #[]
noncomputable def hd.o_213 : Params → Obj := fun P => Obj.mk Value.none Option.none (Data.func (FuncData.mk (PySem.Str.ofString "utf7_text") (PySem.Str.ofString "utf7_text") (fA (stm 26)) (FuncBody.stmts (fB (stm 26))) (fC (stm 26)) 0 [] Value.none Value.none Value.none Value.none Option.none Value.none Value.none 0)) #[]
noncomputable def hd.o_214 : Params → Obj := fun P => Obj.mk (Value.type "code") Option.none (Data.fields #[Value.str (PySem.Str.ofString "utf7_text") 413, Value.str (PySem.Str.ofString "utf7_text") 414, Value.str (PySem.Str.ofString "/claim/cut.py") 415, Value.int 142 0, Value.int 1 0, Value.int 0 0, Value.int 0 0, Value.int 3 0, Value.ref 164, Value.bool Bool.true, Value.int 181 0, Value.ref 165, Value.none, Value.ref 166, Value.ref 167, Value.ref 168, Value.int 422 0, Value.int 142 0, Value.str (PySem.Str.ofString "/claim/cut.py") 423]) #[]
noncomputable def hd.o_215 : Params → Obj := fun P => Obj.mk (Value.type "function") Option.none (Data.func (FuncData.mk (PySem.Str.ofString "utf7_text") (PySem.Str.ofString "utf7_text") (fA (stm 26)) (FuncBody.stmts (fB (stm 26))) (fC (stm 26)) 3 [] Value.none Value.none Value.none (Value.str (PySem.Str.ofString "postkeep.names") 323) Option.none (Value.ref 169) Value.none 0)) #[]
noncomputable def hd.o_216 : Params → Obj := fun P => Obj.mk (Value.type "tuple") Option.none (Data.seq #[]) #[]
noncomputable def hd.o_217 : Params → Obj := fun P => Obj.mk Value.none Option.none (Data.fields #[]) #[]
noncomputable def hd.o_218 : Params → Obj := fun P => Obj.mk (Value.type "tuple") Option.none (Data.seq #[Value.str (PySem.Str.ofString "text") 428, Value.str (PySem.Str.ofString "end") 429]) #[]
noncomputable def hd.o_219 : Params → Obj := fun P => Obj.mk (Value.type "tuple") Option.none (Data.seq #[]) #[]
noncomputable def hd.o_220 : Params → Obj := fun P => Obj.mk Value.none Option.none (Data.func (FuncData.mk (PySem.Str.ofString "first_part") (PySem.Str.ofString "first_part") (fA (stm 27)) (FuncBody.stmts (fB (stm 27))) (fC (stm 27)) 0 [] Value.none Value.none Value.none Value.none Option.none Value.none Value.none 0)) #[]
noncomputable def hd.o_221 : Params → Obj := fun P => Obj.mk (Value.type "code") Option.none (Data.fields #[Value.str (PySem.Str.ofString "first_part") 425, Value.str (PySem.Str.ofString "first_part") 426, Value.str (PySem.Str.ofString "/claim/cut.py") 427, Value.int 164 0, Value.int 1 0, Value.int 0 0, Value.int 0 0, Value.int 3 0, Value.ref 171, Value.bool Bool.true, Value.int 181 0, Value.ref 172, Value.none, Value.ref 173, Value.ref 174, Value.ref 175, Value.int 430 0, Value.int 164 0, Value.str (PySem.Str.ofString "/claim/cut.py") 431]) #[]
noncomputable def hd.o_222 : Params → Obj := fun P => Obj.mk (Value.type "function") Option.none (Data.func (FuncData.mk (PySem.Str.ofString "first_part") (PySem.Str.ofString "first_part") (fA (stm 27)) (FuncBody.stmts (fB (stm 27))) (fC (stm 27)) 3 [] Value.none Value.none Value.none (Value.str (PySem.Str.ofString "postkeep.names") 323) Option.none (Value.ref 176) Value.none 0)) #[]
noncomputable def hd.o_223 : Params → Obj := fun P => Obj.mk (Value.type "dict") Option.none (Data.dict #[DictEntry.mk (PyData.keyHash P (PySem.Str.ofString "__name__")) (Value.str (PySem.Str.ofString "__name__") 165) (Value.str (PySem.Str.ofString "law_or0051_01") 492), DictEntry.mk (PyData.keyHash P (PySem.Str.ofString "__doc__")) (Value.str (PySem.Str.ofString "__doc__") 166) Value.none, DictEntry.mk (PyData.keyHash P (PySem.Str.ofString "__package__")) (Value.str (PySem.Str.ofString "__package__") 167) Value.none, DictEntry.mk (PyData.keyHash P (PySem.Str.ofString "__loader__")) (Value.str (PySem.Str.ofString "__loader__") 168) (Value.builtin "__main__.__loader__#opaque"), DictEntry.mk (PyData.keyHash P (PySem.Str.ofString "__spec__")) (Value.str (PySem.Str.ofString "__spec__") 169) Value.none, DictEntry.mk (PyData.keyHash P (PySem.Str.ofString "__annotations__")) (Value.str (PySem.Str.ofString "__annotations__") 170) (Value.ref 6), DictEntry.mk (PyData.keyHash P (PySem.Str.ofString "__builtins__")) (Value.str (PySem.Str.ofString "__builtins__") 171) (Value.ref 4), DictEntry.mk (PyData.keyHash P (PySem.Str.ofString "__file__")) (Value.str (PySem.Str.ofString "__file__") 173) (Value.str (PySem.Str.ofString "/claim/cut.py") 172), DictEntry.mk (PyData.keyHash P (PySem.Str.ofString "__cached__")) (Value.str (PySem.Str.ofString "__cached__") 174) Value.none, DictEntry.mk (PyData.keyHash P (PySem.Str.ofString "PostError")) (Value.str (PySem.Str.ofString "PostError") 228) (Value.ref 39), DictEntry.mk (PyData.keyHash P (PySem.Str.ofString "MimeFault")) (Value.str (PySem.Str.ofString "MimeFault") 244) (Value.ref 52), DictEntry.mk (PyData.keyHash P (PySem.Str.ofString "NameFault")) (Value.str (PySem.Str.ofString "NameFault") 260) (Value.ref 64), DictEntry.mk (PyData.keyHash P (PySem.Str.ofString "worth_table")) (Value.str (PySem.Str.ofString "worth_table") 268) (Value.ref 71), DictEntry.mk (PyData.keyHash P (PySem.Str.ofString "group_codes")) (Value.str (PySem.Str.ofString "group_codes") 274) (Value.ref 76), DictEntry.mk (PyData.keyHash P (PySem.Str.ofString "group_octets")) (Value.str (PySem.Str.ofString "group_octets") 280) (Value.ref 81), DictEntry.mk (PyData.keyHash P (PySem.Str.ofString "part_encoded")) (Value.str (PySem.Str.ofString "part_encoded") 290) (Value.ref 88), DictEntry.mk (PyData.keyHash P (PySem.Str.ofString "part_numbers")) (Value.str (PySem.Str.ofString "part_numbers") 300) (Value.ref 95), DictEntry.mk (PyData.keyHash P (PySem.Str.ofString "part_decoded")) (Value.str (PySem.Str.ofString "part_decoded") 314) (Value.ref 102), DictEntry.mk (PyData.keyHash P (PySem.Str.ofString "upper_text")) (Value.str (PySem.Str.ofString "upper_text") 322) (Value.ref 107), DictEntry.mk (PyData.keyHash P (PySem.Str.ofString "DELIMITER")) (Value.str (PySem.Str.ofString "DELIMITER") 326) (Value.str (PySem.Str.ofString "/") 325), DictEntry.mk (PyData.keyHash P (PySem.Str.ofString "INBOX")) (Value.str (PySem.Str.ofString "INBOX") 328) (Value.str (PySem.Str.ofString "INBOX") 327), DictEntry.mk (PyData.keyHash P (PySem.Str.ofString "WILD_SIGNS")) (Value.str (PySem.Str.ofString "WILD_SIGNS") 330) (Value.str (PySem.Str.ofString "%*") 329), DictEntry.mk (PyData.keyHash P (PySem.Str.ofString "SHIFT_SIGNS")) (Value.str (PySem.Str.ofString "SHIFT_SIGNS") 332) (Value.bytes #[65, 66, 67, 68, 69, 70, 71, 72, 73, 74, 75, 76, 77, 78, 79, 80, 81, 82, 83, 84, 85, 86, 87, 88, 89, 90, 97, 98, 99, 100, 101, 102, 103, 104, 105, 106, 107, 108, 109, 110, 111, 112, 113, 114, 115, 116, 117, 118, 119, 120, 121, 122, 48, 49, 50, 51, 52, 53, 54, 55, 56, 57, 43, 44] 331), DictEntry.mk (PyData.keyHash P (PySem.Str.ofString "is_plain_code")) (Value.str (PySem.Str.ofString "is_plain_code") 339) (Value.ref 114), DictEntry.mk (PyData.keyHash P (PySem.Str.ofString "is_half")) (Value.str (PySem.Str.ofString "is_half") 346) (Value.ref 121), DictEntry.mk (PyData.keyHash P (PySem.Str.ofString "utf16_octets")) (Value.str (PySem.Str.ofString "utf16_octets") 359) (Value.ref 128), DictEntry.mk (PyData.keyHash P (PySem.Str.ofString "run_behind")) (Value.str (PySem.Str.ofString "run_behind") 368) (Value.ref 135), DictEntry.mk (PyData.keyHash P (PySem.Str.ofString "utf7_octets")) (Value.str (PySem.Str.ofString "utf7_octets") 379) (Value.ref 142), DictEntry.mk (PyData.keyHash P (PySem.Str.ofString "shift_behind")) (Value.str (PySem.Str.ofString "shift_behind") 388) (Value.ref 149), DictEntry.mk (PyData.keyHash P (PySem.Str.ofString "units_text")) (Value.str (PySem.Str.ofString "units_text") 401) (Value.ref 156), DictEntry.mk (PyData.keyHash P (PySem.Str.ofString "shifted_text")) (Value.str (PySem.Str.ofString "shifted_text") 412) (Value.ref 163), DictEntry.mk (PyData.keyHash P (PySem.Str.ofString "utf7_text")) (Value.str (PySem.Str.ofString "utf7_text") 424) (Value.ref 170), DictEntry.mk (PyData.keyHash P (PySem.Str.ofString "first_part")) (Value.str (PySem.Str.ofString "first_part") 432) (Value.ref 177), DictEntry.mk (PyData.keyHash P (PySem.Str.ofString "normal_name")) (Value.str (PySem.Str.ofString "normal_name") 441) (Value.ref 184), DictEntry.mk (PyData.keyHash P (PySem.Str.ofString "is_barred_code")) (Value.str (PySem.Str.ofString "is_barred_code") 448) (Value.ref 191), DictEntry.mk (PyData.keyHash P (PySem.Str.ofString "check_name")) (Value.str (PySem.Str.ofString "check_name") 458) (Value.ref 198), DictEntry.mk (PyData.keyHash P (PySem.Str.ofString "name_of_wire")) (Value.str (PySem.Str.ofString "name_of_wire") 465) (Value.ref 205), DictEntry.mk (PyData.keyHash P (PySem.Str.ofString "parents")) (Value.str (PySem.Str.ofString "parents") 474) (Value.ref 212), DictEntry.mk (PyData.keyHash P (PySem.Str.ofString "bare_name")) (Value.str (PySem.Str.ofString "bare_name") 484) (Value.ref 219), DictEntry.mk (PyData.keyHash P (PySem.Str.ofString "new_name")) (Value.str (PySem.Str.ofString "new_name") 491) (Value.ref 226), DictEntry.mk (PyData.keyHash P (PySem.Str.ofString "_law_pieces")) (Value.str (PySem.Str.ofString "_law_pieces") 499) (Value.ref 231), DictEntry.mk (PyData.keyHash P (PySem.Str.ofString "_law_bare")) (Value.str (PySem.Str.ofString "_law_bare") 507) (Value.ref 238), DictEntry.mk (PyData.keyHash P (PySem.Str.ofString "_law_fault")) (Value.str (PySem.Str.ofString "_law_fault") 519) (Value.ref 245), DictEntry.mk (PyData.keyHash P (PySem.Str.ofString "_law_made")) (Value.str (PySem.Str.ofString "_law_made") 527) (Value.ref 252), DictEntry.mk (PyData.keyHash P (PySem.Str.ofString "law")) (Value.str (PySem.Str.ofString "law") 533) (Value.ref 257)] 45) #[]
noncomputable def hd.o_224 : Params → Obj := fun P => Obj.mk Value.none Option.none (Data.fields #[Value.int 2 0, Value.int 0 0, Value.ref 20, Value.int 11 0, Value.int 0 0, Value.ref 48, Value.int 13 0, Value.int 0 0, Value.ref 60, Value.int 16 0, Value.int 0 0, Value.ref 70, Value.int 18 0, Value.int 0 0, Value.ref 75, Value.int 25 0, Value.int 0 0, Value.ref 80, Value.int 33 0, Value.int 0 0, Value.ref 87, Value.int 38 0, Value.int 0 0, Value.ref 94, Value.int 45 0, Value.int 0 0, Value.ref 101, Value.int 58 0, Value.int 0 0, Value.ref 106, Value.int 65 0, Value.int 0 0, Value.ref 113, Value.int 67 0, Value.int 0 0, Value.ref 120, Value.int 69 0, Value.int 0 0, Value.ref 127, Value.int 83 0, Value.int 0 0, Value.ref 134, Value.int 88 0, Value.int 0 0, Value.ref 141, Value.int 105 0, Value.int 0 0, Value.ref 148, Value.int 112 0, Value.int 0 0, Value.ref 155, Value.int 134 0, Value.int 0 0, Value.ref 162, Value.int 142 0, Value.int 0 0, Value.ref 169, Value.int 164 0, Value.int 0 0, Value.ref 176, Value.int 169 0, Value.int 0 0, Value.ref 183, Value.int 174 0, Value.int 0 0, Value.ref 190, Value.int 176 0, Value.int 0 0, Value.ref 197, Value.int 191 0, Value.int 0 0, Value.ref 204, Value.int 193 0, Value.int 0 0, Value.ref 211, Value.int 201 0, Value.int 0 0, Value.ref 218, Value.int 204 0, Value.int 0 0, Value.ref 225, Value.int 207 0, Value.int 0 0, Value.ref 230, Value.int 213 0, Value.int 0 0, Value.ref 237, Value.int 220 0, Value.int 0 0, Value.ref 244, Value.int 232 0, Value.int 0 0, Value.ref 251, Value.int 237 0, Value.int 0 0, Value.ref 256]) #[]
noncomputable def hd.o_225 : Params → Obj := fun P => Obj.mk (Value.type "tuple") Option.none (Data.seq #[]) #[]
noncomputable def hd.o_226 : Params → Obj := fun P => Obj.mk Value.none Option.none (Data.fields #[]) #[]
noncomputable def hd.o_227 : Params → Obj := fun P => Obj.mk (Value.type "tuple") Option.none (Data.seq #[Value.str (PySem.Str.ofString "text") 436, Value.str (PySem.Str.ofString "head") 437, Value.str (PySem.Str.ofString "rest") 438]) #[]
noncomputable def hd.o_228 : Params → Obj := fun P => Obj.mk (Value.type "tuple") Option.none (Data.seq #[]) #[]
noncomputable def hd.o_229 : Params → Obj := fun P => Obj.mk Value.none Option.none (Data.func (FuncData.mk (PySem.Str.ofString "normal_name") (PySem.Str.ofString "normal_name") (fA (stm 28)) (FuncBody.stmts (fB (stm 28))) (fC (stm 28)) 0 [] Value.none Value.none Value.none Value.none Option.none Value.none Value.none 0)) #[]
noncomputable def hd.o_230 : Params → Obj := fun P => Obj.mk (Value.type "code") Option.none (Data.fields #[Value.str (PySem.Str.ofString "normal_name") 433, Value.str (PySem.Str.ofString "normal_name") 434, Value.str (PySem.Str.ofString "/claim/cut.py") 435, Value.int 169 0, Value.int 1 0, Value.int 0 0, Value.int 0 0, Value.int 3 0, Value.ref 178, Value.bool Bool.true, Value.int 181 0, Value.ref 179, Value.none, Value.ref 180, Value.ref 181, Value.ref 182, Value.int 439 0, Value.int 169 0, Value.str (PySem.Str.ofString "/claim/cut.py") 440]) #[]
noncomputable def hd.o_231 : Params → Obj := fun P => Obj.mk (Value.type "function") Option.none (Data.func (FuncData.mk (PySem.Str.ofString "normal_name") (PySem.Str.ofString "normal_name") (fA (stm 28)) (FuncBody.stmts (fB (stm 28))) (fC (stm 28)) 3 [] Value.none Value.none Value.none (Value.str (PySem.Str.ofString "postkeep.names") 323) Option.none (Value.ref 183) Value.none 0)) #[]
noncomputable def hd.o_232 : Params → Obj := fun P => Obj.mk (Value.type "tuple") Option.none (Data.seq #[]) #[]
noncomputable def hd.o_233 : Params → Obj := fun P => Obj.mk Value.none Option.none (Data.fields #[]) #[]
noncomputable def hd.o_234 : Params → Obj := fun P => Obj.mk (Value.type "tuple") Option.none (Data.seq #[Value.str (PySem.Str.ofString "code") 445]) #[]
noncomputable def hd.o_235 : Params → Obj := fun P => Obj.mk (Value.type "tuple") Option.none (Data.seq #[]) #[]
noncomputable def hd.o_236 : Params → Obj := fun P => Obj.mk Value.none Option.none (Data.func (FuncData.mk (PySem.Str.ofString "is_barred_code") (PySem.Str.ofString "is_barred_code") (fA (stm 29)) (FuncBody.stmts (fB (stm 29))) (fC (stm 29)) 0 [] Value.none Value.none Value.none Value.none Option.none Value.none Value.none 0)) #[]
noncomputable def hd.o_237 : Params → Obj := fun P => Obj.mk (Value.type "code") Option.none (Data.fields #[Value.str (PySem.Str.ofString "is_barred_code") 442, Value.str (PySem.Str.ofString "is_barred_code") 443, Value.str (PySem.Str.ofString "/claim/cut.py") 444, Value.int 174 0, Value.int 1 0, Value.int 0 0, Value.int 0 0, Value.int 3 0, Value.ref 185, Value.bool Bool.true, Value.int 181 0, Value.ref 186, Value.none, Value.ref 187, Value.ref 188, Value.ref 189, Value.int 446 0, Value.int 174 0, Value.str (PySem.Str.ofString "/claim/cut.py") 447]) #[]
noncomputable def hd.o_238 : Params → Obj := fun P => Obj.mk (Value.type "function") Option.none (Data.func (FuncData.mk (PySem.Str.ofString "is_barred_code") (PySem.Str.ofString "is_barred_code") (fA (stm 29)) (FuncBody.stmts (fB (stm 29))) (fC (stm 29)) 3 [] Value.none Value.none Value.none (Value.str (PySem.Str.ofString "postkeep.names") 323) Option.none (Value.ref 190) Value.none 0)) #[]
noncomputable def hd.o_239 : Params → Obj := fun P => Obj.mk (Value.type "tuple") Option.none (Data.seq #[]) #[]
noncomputable def hd.o_240 : Params → Obj := fun P => Obj.mk Value.none Option.none (Data.fields #[]) #[]
noncomputable def hd.o_241 : Params → Obj := fun P => Obj.mk (Value.type "tuple") Option.none (Data.seq #[Value.str (PySem.Str.ofString "text") 452, Value.str (PySem.Str.ofString "begin") 453, Value.str (PySem.Str.ofString "at") 454, Value.str (PySem.Str.ofString "sign") 455]) #[]
noncomputable def hd.o_242 : Params → Obj := fun P => Obj.mk (Value.type "tuple") Option.none (Data.seq #[]) #[]
noncomputable def hd.o_243 : Params → Obj := fun P => Obj.mk Value.none Option.none (Data.func (FuncData.mk (PySem.Str.ofString "check_name") (PySem.Str.ofString "check_name") (fA (stm 30)) (FuncBody.stmts (fB (stm 30))) (fC (stm 30)) 0 [] Value.none Value.none Value.none Value.none Option.none Value.none Value.none 0)) #[]
noncomputable def hd.o_244 : Params → Obj := fun P => Obj.mk (Value.type "code") Option.none (Data.fields #[Value.str (PySem.Str.ofString "check_name") 449, Value.str (PySem.Str.ofString "check_name") 450, Value.str (PySem.Str.ofString "/claim/cut.py") 451, Value.int 176 0, Value.int 1 0, Value.int 0 0, Value.int 0 0, Value.int 3 0, Value.ref 192, Value.bool Bool.true, Value.int 181 0, Value.ref 193, Value.none, Value.ref 194, Value.ref 195, Value.ref 196, Value.int 456 0, Value.int 176 0, Value.str (PySem.Str.ofString "/claim/cut.py") 457]) #[]
noncomputable def hd.o_245 : Params → Obj := fun P => Obj.mk (Value.type "function") Option.none (Data.func (FuncData.mk (PySem.Str.ofString "check_name") (PySem.Str.ofString "check_name") (fA (stm 30)) (FuncBody.stmts (fB (stm 30))) (fC (stm 30)) 3 [] Value.none Value.none Value.none (Value.str (PySem.Str.ofString "postkeep.names") 323) Option.none (Value.ref 197) Value.none 0)) #[]
noncomputable def hd.o_246 : Params → Obj := fun P => Obj.mk (Value.type "tuple") Option.none (Data.seq #[]) #[]
noncomputable def hd.o_247 : Params → Obj := fun P => Obj.mk Value.none Option.none (Data.fields #[]) #[]
noncomputable def hd.o_248 : Params → Obj := fun P => Obj.mk (Value.type "tuple") Option.none (Data.seq #[Value.str (PySem.Str.ofString "octets") 462]) #[]
noncomputable def hd.o_249 : Params → Obj := fun P => Obj.mk (Value.type "tuple") Option.none (Data.seq #[]) #[]
noncomputable def hd.o_250 : Params → Obj := fun P => Obj.mk Value.none Option.none (Data.func (FuncData.mk (PySem.Str.ofString "name_of_wire") (PySem.Str.ofString "name_of_wire") (fA (stm 31)) (FuncBody.stmts (fB (stm 31))) (fC (stm 31)) 0 [] Value.none Value.none Value.none Value.none Option.none Value.none Value.none 0)) #[]
noncomputable def hd.o_251 : Params → Obj := fun P => Obj.mk (Value.type "code") Option.none (Data.fields #[Value.str (PySem.Str.ofString "name_of_wire") 459, Value.str (PySem.Str.ofString "name_of_wire") 460, Value.str (PySem.Str.ofString "/claim/cut.py") 461, Value.int 191 0, Value.int 1 0, Value.int 0 0, Value.int 0 0, Value.int 3 0, Value.ref 199, Value.bool Bool.true, Value.int 181 0, Value.ref 200, Value.none, Value.ref 201, Value.ref 202, Value.ref 203, Value.int 463 0, Value.int 191 0, Value.str (PySem.Str.ofString "/claim/cut.py") 464]) #[]
noncomputable def hd.o_252 : Params → Obj := fun P => Obj.mk (Value.type "function") Option.none (Data.func (FuncData.mk (PySem.Str.ofString "name_of_wire") (PySem.Str.ofString "name_of_wire") (fA (stm 31)) (FuncBody.stmts (fB (stm 31))) (fC (stm 31)) 3 [] Value.none Value.none Value.none (Value.str (PySem.Str.ofString "postkeep.names") 323) Option.none (Value.ref 204) Value.none 0)) #[]
noncomputable def hd.o_253 : Params → Obj := fun P => Obj.mk (Value.type "tuple") Option.none (Data.seq #[]) #[]
noncomputable def hd.o_254 : Params → Obj := fun P => Obj.mk Value.none Option.none (Data.fields #[]) #[]
noncomputable def hd.o_255 : Params → Obj := fun P => Obj.mk (Value.type "tuple") Option.none (Data.seq #[Value.str (PySem.Str.ofString "name") 469, Value.str (PySem.Str.ofString "some") 470, Value.str (PySem.Str.ofString "at") 471]) #[]
noncomputable def hd.o_256 : Params → Obj := fun P => Obj.mk (Value.type "tuple") Option.none (Data.seq #[]) #[]
noncomputable def hd.o_257 : Params → Obj := fun P => Obj.mk Value.none Option.none (Data.func (FuncData.mk (PySem.Str.ofString "parents") (PySem.Str.ofString "parents") (fA (stm 32)) (FuncBody.stmts (fB (stm 32))) (fC (stm 32)) 0 [] Value.none Value.none Value.none Value.none Option.none Value.none Value.none 0)) #[]
noncomputable def hd.o_258 : Params → Obj := fun P => Obj.mk (Value.type "code") Option.none (Data.fields #[Value.str (PySem.Str.ofString "parents") 466, Value.str (PySem.Str.ofString "parents") 467, Value.str (PySem.Str.ofString "/claim/cut.py") 468, Value.int 193 0, Value.int 1 0, Value.int 0 0, Value.int 0 0, Value.int 3 0, Value.ref 206, Value.bool Bool.true, Value.int 181 0, Value.ref 207, Value.none, Value.ref 208, Value.ref 209, Value.ref 210, Value.int 472 0, Value.int 193 0, Value.str (PySem.Str.ofString "/claim/cut.py") 473]) #[]
noncomputable def hd.o_259 : Params → Obj := fun P => Obj.mk (Value.type "function") Option.none (Data.func (FuncData.mk (PySem.Str.ofString "parents") (PySem.Str.ofString "parents") (fA (stm 32)) (FuncBody.stmts (fB (stm 32))) (fC (stm 32)) 3 [] Value.none Value.none Value.none (Value.str (PySem.Str.ofString "postkeep.names") 323) Option.none (Value.ref 211) Value.none 0)) #[]
noncomputable def hd.o_260 : Params → Obj := fun P => Obj.mk (Value.type "tuple") Option.none (Data.seq #[]) #[]
noncomputable def hd.o_261 : Params → Obj := fun P => Obj.mk Value.none Option.none (Data.fields #[]) #[]
noncomputable def hd.o_262 : Params → Obj := fun P => Obj.mk (Value.type "tuple") Option.none (Data.seq #[Value.str (PySem.Str.ofString "text") 480, Value.str (PySem.Str.ofString "name") 481]) #[]
noncomputable def hd.o_263 : Params → Obj := fun P => Obj.mk (Value.type "tuple") Option.none (Data.seq #[]) #[]
noncomputable def hd.o_264 : Params → Obj := fun P => Obj.mk Value.none Option.none (Data.func (FuncData.mk (PySem.Str.ofString "bare_name") (PySem.Str.ofString "bare_name") (fA (stm 34)) (FuncBody.stmts (fB (stm 34))) (fC (stm 34)) 0 [] Value.none Value.none Value.none Value.none Option.none Value.none Value.none 0)) #[]
noncomputable def hd.o_265 : Params → Obj := fun P => Obj.mk (Value.type "code") Option.none (Data.fields #[Value.str (PySem.Str.ofString "bare_name") 477, Value.str (PySem.Str.ofString "bare_name") 478, Value.str (PySem.Str.ofString "/claim/cut.py") 479, Value.int 201 0, Value.int 1 0, Value.int 0 0, Value.int 0 0, Value.int 3 0, Value.ref 213, Value.bool Bool.true, Value.int 181 0, Value.ref 214, Value.none, Value.ref 215, Value.ref 216, Value.ref 217, Value.int 482 0, Value.int 201 0, Value.str (PySem.Str.ofString "/claim/cut.py") 483]) #[]
noncomputable def hd.o_266 : Params → Obj := fun P => Obj.mk (Value.type "function") Option.none (Data.func (FuncData.mk (PySem.Str.ofString "bare_name") (PySem.Str.ofString "bare_name") (fA (stm 34)) (FuncBody.stmts (fB (stm 34))) (fC (stm 34)) 3 [] Value.none Value.none Value.none (Value.str (PySem.Str.ofString "postkeep.session") 475) Option.none (Value.ref 218) Value.none 0)) #[]
noncomputable def hd.o_267 : Params → Obj := fun P => Obj.mk (Value.type "tuple") Option.none (Data.seq #[]) #[]
noncomputable def hd.o_268 : Params → Obj := fun P => Obj.mk Value.none Option.none (Data.fields #[]) #[]
noncomputable def hd.o_269 : Params → Obj := fun P => Obj.mk (Value.type "tuple") Option.none (Data.seq #[Value.str (PySem.Str.ofString "text") 488]) #[]
noncomputable def hd.o_270 : Params → Obj := fun P => Obj.mk (Value.type "tuple") Option.none (Data.seq #[]) #[]
noncomputable def hd.o_271 : Params → Obj := fun P => Obj.mk Value.none Option.none (Data.func (FuncData.mk (PySem.Str.ofString "new_name") (PySem.Str.ofString "new_name") (fA (stm 35)) (FuncBody.stmts (fB (stm 35))) (fC (stm 35)) 0 [] Value.none Value.none Value.none Value.none Option.none Value.none Value.none 0)) #[]
noncomputable def hd.o_272 : Params → Obj := fun P => Obj.mk (Value.type "code") Option.none (Data.fields #[Value.str (PySem.Str.ofString "new_name") 485, Value.str (PySem.Str.ofString "new_name") 486, Value.str (PySem.Str.ofString "/claim/cut.py") 487, Value.int 204 0, Value.int 1 0, Value.int 0 0, Value.int 0 0, Value.int 3 0, Value.ref 220, Value.bool Bool.true, Value.int 181 0, Value.ref 221, Value.none, Value.ref 222, Value.ref 223, Value.ref 224, Value.int 489 0, Value.int 204 0, Value.str (PySem.Str.ofString "/claim/cut.py") 490]) #[]
noncomputable def hd.o_273 : Params → Obj := fun P => Obj.mk (Value.type "function") Option.none (Data.func (FuncData.mk (PySem.Str.ofString "new_name") (PySem.Str.ofString "new_name") (fA (stm 35)) (FuncBody.stmts (fB (stm 35))) (fC (stm 35)) 3 [] Value.none Value.none Value.none (Value.str (PySem.Str.ofString "postkeep.session") 475) Option.none (Value.ref 225) Value.none 0)) #[]
noncomputable def hd.o_274 : Params → Obj := fun P => Obj.mk (Value.type "tuple") Option.none (Data.seq #[]) #[]
noncomputable def hd.o_275 : Params → Obj := fun P => Obj.mk Value.none Option.none (Data.fields #[]) #[]
noncomputable def hd.o_276 : Params → Obj := fun P => Obj.mk Value.none Option.none (Data.func (FuncData.mk (PySem.Str.ofString "_law_pieces") (PySem.Str.ofString "_law_pieces") (fA (stm 37)) (FuncBody.stmts (fB (stm 37))) (fC (stm 37)) 0 [] Value.none Value.none Value.none Value.none Option.none Value.none Value.none 0)) #[]
noncomputable def hd.o_277 : Params → Obj := fun P => Obj.mk (Value.type "code") Option.none (Data.fields #[Value.str (PySem.Str.ofString "_law_pieces") 494, Value.str (PySem.Str.ofString "_law_pieces") 495, Value.str (PySem.Str.ofString "/claim/cut.py") 496, Value.int 207 0, Value.int 1 0, Value.int 0 0, Value.int 0 0, Value.int 3 0, Value.ref 227, Value.bool Bool.true, Value.int 181 0, Value.ref 228, Value.none, Value.none, Value.none, Value.ref 229, Value.int 497 0, Value.int 207 0, Value.str (PySem.Str.ofString "/claim/cut.py") 498]) #[]
noncomputable def hd.o_278 : Params → Obj := fun P => Obj.mk (Value.type "function") Option.none (Data.func (FuncData.mk (PySem.Str.ofString "_law_pieces") (PySem.Str.ofString "_law_pieces") (fA (stm 37)) (FuncBody.stmts (fB (stm 37))) (fC (stm 37)) 3 [] Value.none Value.none Value.none (Value.str (PySem.Str.ofString "law_or0051_01") 492) Option.none (Value.ref 230) Value.none 0)) #[]
noncomputable def hd.o_279 : Params → Obj := fun P => Obj.mk (Value.type "tuple") Option.none (Data.seq #[]) #[]
noncomputable def hd.o_280 : Params → Obj := fun P => Obj.mk Value.none Option.none (Data.fields #[]) #[]
noncomputable def hd.o_281 : Params → Obj := fun P => Obj.mk (Value.type "tuple") Option.none (Data.seq #[Value.str (PySem.Str.ofString "text") 503, Value.str (PySem.Str.ofString "parts") 504]) #[]
noncomputable def hd.o_282 : Params → Obj := fun P => Obj.mk (Value.type "tuple") Option.none (Data.seq #[]) #[]
noncomputable def hd.o_283 : Params → Obj := fun P => Obj.mk Value.none Option.none (Data.func (FuncData.mk (PySem.Str.ofString "_law_bare") (PySem.Str.ofString "_law_bare") (fA (stm 38)) (FuncBody.stmts (fB (stm 38))) (fC (stm 38)) 0 [] Value.none Value.none Value.none Value.none Option.none Value.none Value.none 0)) #[]
noncomputable def hd.o_284 : Params → Obj := fun P => Obj.mk (Value.type "code") Option.none (Data.fields #[Value.str (PySem.Str.ofString "_law_bare") 500, Value.str (PySem.Str.ofString "_law_bare") 501, Value.str (PySem.Str.ofString "/claim/cut.py") 502, Value.int 213 0, Value.int 1 0, Value.int 0 0, Value.int 0 0, Value.int 3 0, Value.ref 232, Value.bool Bool.true, Value.int 181 0, Value.ref 233, Value.none, Value.ref 234, Value.ref 235, Value.ref 236, Value.int 505 0, Value.int 213 0, Value.str (PySem.Str.ofString "/claim/cut.py") 506]) #[]
noncomputable def hd.o_285 : Params → Obj := fun P => Obj.mk (Value.type "function") Option.none (Data.func (FuncData.mk (PySem.Str.ofString "_law_bare") (PySem.Str.ofString "_law_bare") (fA (stm 38)) (FuncBody.stmts (fB (stm 38))) (fC (stm 38)) 3 [] Value.none Value.none Value.none (Value.str (PySem.Str.ofString "law_or0051_01") 492) Option.none (Value.ref 237) Value.none 0)) #[]
noncomputable def hd.o_286 : Params → Obj := fun P => Obj.mk (Value.type "tuple") Option.none (Data.seq #[]) #[]
noncomputable def hd.o_287 : Params → Obj := fun P => Obj.mk Value.none Option.none (Data.fields #[]) #[]
noncomputable def hd.o_288 : Params → Obj := fun P => Obj.mk (Value.type "tuple") Option.none (Data.seq #[Value.str (PySem.Str.ofString "name") 511, Value.str (PySem.Str.ofString "faults") 512, Value.str (PySem.Str.ofString "at") 513, Value.str (PySem.Str.ofString "part") 514, Value.str (PySem.Str.ofString "place") 515, Value.str (PySem.Str.ofString "code") 516]) #[]
noncomputable def hd.o_289 : Params → Obj := fun P => Obj.mk (Value.type "tuple") Option.none (Data.seq #[]) #[]
noncomputable def hd.o_290 : Params → Obj := fun P => Obj.mk Value.none Option.none (Data.func (FuncData.mk (PySem.Str.ofString "_law_fault") (PySem.Str.ofString "_law_fault") (fA (stm 39)) (FuncBody.stmts (fB (stm 39))) (fC (stm 39)) 0 [] Value.none Value.none Value.none Value.none Option.none Value.none Value.none 0)) #[]
noncomputable def hd.o_291 : Params → Obj := fun P => Obj.mk (Value.type "code") Option.none (Data.fields #[Value.str (PySem.Str.ofString "_law_fault") 508, Value.str (PySem.Str.ofString "_law_fault") 509, Value.str (PySem.Str.ofString "/claim/cut.py") 510, Value.int 220 0, Value.int 1 0, Value.int 0 0, Value.int 0 0, Value.int 3 0, Value.ref 239, Value.bool Bool.true, Value.int 181 0, Value.ref 240, Value.none, Value.ref 241, Value.ref 242, Value.ref 243, Value.int 517 0, Value.int 220 0, Value.str (PySem.Str.ofString "/claim/cut.py") 518]) #[]
noncomputable def hd.o_292 : Params → Obj := fun P => Obj.mk (Value.type "function") Option.none (Data.func (FuncData.mk (PySem.Str.ofString "_law_fault") (PySem.Str.ofString "_law_fault") (fA (stm 39)) (FuncBody.stmts (fB (stm 39))) (fC (stm 39)) 3 [] Value.none Value.none Value.none (Value.str (PySem.Str.ofString "law_or0051_01") 492) Option.none (Value.ref 244) Value.none 0)) #[]
noncomputable def hd.o_293 : Params → Obj := fun P => Obj.mk (Value.type "tuple") Option.none (Data.seq #[]) #[]
noncomputable def hd.o_294 : Params → Obj := fun P => Obj.mk Value.none Option.none (Data.fields #[]) #[]
noncomputable def hd.o_295 : Params → Obj := fun P => Obj.mk (Value.type "tuple") Option.none (Data.seq #[Value.str (PySem.Str.ofString "text") 523, Value.str (PySem.Str.ofString "fault") 524]) #[]
noncomputable def hd.o_296 : Params → Obj := fun P => Obj.mk (Value.type "tuple") Option.none (Data.seq #[]) #[]
noncomputable def hd.o_297 : Params → Obj := fun P => Obj.mk Value.none Option.none (Data.func (FuncData.mk (PySem.Str.ofString "_law_made") (PySem.Str.ofString "_law_made") (fA (stm 40)) (FuncBody.stmts (fB (stm 40))) (fC (stm 40)) 0 [] Value.none Value.none Value.none Value.none Option.none Value.none Value.none 0)) #[]
noncomputable def hd.o_298 : Params → Obj := fun P => Obj.mk (Value.type "code") Option.none (Data.fields #[Value.str (PySem.Str.ofString "_law_made") 520, Value.str (PySem.Str.ofString "_law_made") 521, Value.str (PySem.Str.ofString "/claim/cut.py") 522, Value.int 232 0, Value.int 1 0, Value.int 0 0, Value.int 0 0, Value.int 3 0, Value.ref 246, Value.bool Bool.true, Value.int 181 0, Value.ref 247, Value.none, Value.ref 248, Value.ref 249, Value.ref 250, Value.int 525 0, Value.int 232 0, Value.str (PySem.Str.ofString "/claim/cut.py") 526]) #[]
noncomputable def hd.o_299 : Params → Obj := fun P => Obj.mk (Value.type "function") Option.none (Data.func (FuncData.mk (PySem.Str.ofString "_law_made") (PySem.Str.ofString "_law_made") (fA (stm 40)) (FuncBody.stmts (fB (stm 40))) (fC (stm 40)) 3 [] Value.none Value.none Value.none (Value.str (PySem.Str.ofString "law_or0051_01") 492) Option.none (Value.ref 251) Value.none 0)) #[]
noncomputable def hd.o_300 : Params → Obj := fun P => Obj.mk (Value.type "tuple") Option.none (Data.seq #[]) #[]
noncomputable def hd.o_301 : Params → Obj := fun P => Obj.mk Value.none Option.none (Data.fields #[]) #[]
noncomputable def hd.o_302 : Params → Obj := fun P => Obj.mk Value.none Option.none (Data.func (FuncData.mk (PySem.Str.ofString "law") (PySem.Str.ofString "law") (fA (stm 41)) (FuncBody.stmts (fB (stm 41))) (fC (stm 41)) 0 [] Value.none Value.none Value.none Value.none Option.none Value.none Value.none 0)) #[]
noncomputable def hd.o_303 : Params → Obj := fun P => Obj.mk (Value.type "code") Option.none (Data.fields #[Value.str (PySem.Str.ofString "law") 528, Value.str (PySem.Str.ofString "law") 529, Value.str (PySem.Str.ofString "/claim/cut.py") 530, Value.int 237 0, Value.int 1 0, Value.int 0 0, Value.int 0 0, Value.int 3 0, Value.ref 253, Value.bool Bool.true, Value.int 181 0, Value.ref 254, Value.none, Value.none, Value.none, Value.ref 255, Value.int 531 0, Value.int 237 0, Value.str (PySem.Str.ofString "/claim/cut.py") 532]) #[]
noncomputable def hd.o_304 : Params → Obj := fun P => Obj.mk (Value.type "function") Option.none (Data.func (FuncData.mk (PySem.Str.ofString "law") (PySem.Str.ofString "law") (fA (stm 41)) (FuncBody.stmts (fB (stm 41))) (fC (stm 41)) 3 [] Value.none Value.none Value.none (Value.str (PySem.Str.ofString "law_or0051_01") 492) Option.none (Value.ref 256) Value.none 0)) #[]
noncomputable def hd.heap_46 : Params → Heap := fun P => Heap.mk (Array.mk (boot_o_0 P :: boot_o_1 P :: boot_o_2 P :: boot_o_3 P :: boot_o_4 P :: boot_o_5 P :: boot_o_6 P :: boot_o_7 P :: boot_o_8 P :: boot_o_9 P :: boot_o_10 P :: hd.o_43 P :: hd.o_44 P :: hd.o_45 P :: hd.o_46 P :: [])) (Life.mk [] [] [] 0 [] [] Bool.false #[] [] 0 Bool.false Bool.false Bool.false 0 [2000, 10, 10] Bool.false 0 Bool.true [] [] 0 Bool.false)
noncomputable def hd.tree_47 : Params → BT := fun P => BT.node (boot_o_0 P) (BT.node (boot_o_1 P) (BT.node (boot_o_3 P) (BT.node (boot_o_7 P) BT.nil BT.nil) (BT.node (hd.o_43 P) BT.nil BT.nil)) (BT.node (boot_o_5 P) (BT.node (boot_o_9 P) BT.nil BT.nil) (BT.node (hd.o_45 P) BT.nil BT.nil))) (BT.node (boot_o_2 P) (BT.node (boot_o_4 P) (BT.node (boot_o_8 P) BT.nil BT.nil) (BT.node (hd.o_44 P) BT.nil BT.nil)) (BT.node (boot_o_6 P) (BT.node (boot_o_10 P) BT.nil BT.nil) (BT.node (hd.o_46 P) BT.nil BT.nil)))
noncomputable def hd.tree_79 : Params → BT := fun P => BT.node (boot_o_0 P) (BT.node (boot_o_1 P) (BT.node (hd.o_50 P) (BT.node (boot_o_7 P) (BT.node (hd.o_52 P) (BT.node (hd.o_68 P) BT.nil BT.nil) BT.nil) (BT.node (hd.o_60 P) (BT.node (hd.o_76 P) BT.nil BT.nil) BT.nil)) (BT.node (hd.o_43 P) (BT.node (hd.o_56 P) (BT.node (hd.o_72 P) BT.nil BT.nil) BT.nil) (BT.node (hd.o_64 P) BT.nil BT.nil))) (BT.node (boot_o_5 P) (BT.node (boot_o_9 P) (BT.node (hd.o_54 P) (BT.node (hd.o_70 P) BT.nil BT.nil) BT.nil) (BT.node (hd.o_62 P) (BT.node (hd.o_78 P) BT.nil BT.nil) BT.nil)) (BT.node (hd.o_45 P) (BT.node (hd.o_58 P) (BT.node (hd.o_74 P) BT.nil BT.nil) BT.nil) (BT.node (hd.o_66 P) BT.nil BT.nil)))) (BT.node (hd.o_49 P) (BT.node (boot_o_4 P) (BT.node (boot_o_8 P) (BT.node (hd.o_53 P) (BT.node (hd.o_69 P) BT.nil BT.nil) BT.nil) (BT.node (hd.o_61 P) (BT.node (hd.o_77 P) BT.nil BT.nil) BT.nil)) (BT.node (hd.o_51 P) (BT.node (hd.o_57 P) (BT.node (hd.o_73 P) BT.nil BT.nil) BT.nil) (BT.node (hd.o_65 P) BT.nil BT.nil))) (BT.node (boot_o_6 P) (BT.node (boot_o_10 P) (BT.node (hd.o_55 P) (BT.node (hd.o_71 P) BT.nil BT.nil) BT.nil) (BT.node (hd.o_63 P) (BT.node (hd.o_79 P) BT.nil BT.nil) BT.nil)) (BT.node (hd.o_46 P) (BT.node (hd.o_59 P) (BT.node (hd.o_75 P) BT.nil BT.nil) BT.nil) (BT.node (hd.o_67 P) BT.nil BT.nil))))
noncomputable def hd.tree_94 : Params → BT := fun P => BT.node (boot_o_0 P) (BT.node (boot_o_1 P) (BT.node (hd.o_80 P) (BT.node (boot_o_7 P) (BT.node (hd.o_52 P) (BT.node (hd.o_68 P) BT.nil BT.nil) (BT.node (hd.o_87 P) BT.nil BT.nil)) (BT.node (hd.o_60 P) (BT.node (hd.o_82 P) BT.nil BT.nil) BT.nil)) (BT.node (hd.o_43 P) (BT.node (hd.o_56 P) (BT.node (hd.o_72 P) BT.nil BT.nil) (BT.node (hd.o_91 P) BT.nil BT.nil)) (BT.node (hd.o_64 P) (BT.node (hd.o_83 P) BT.nil BT.nil) BT.nil))) (BT.node (boot_o_5 P) (BT.node (boot_o_9 P) (BT.node (hd.o_54 P) (BT.node (hd.o_70 P) BT.nil BT.nil) (BT.node (hd.o_89 P) BT.nil BT.nil)) (BT.node (hd.o_62 P) (BT.node (hd.o_78 P) BT.nil BT.nil) BT.nil)) (BT.node (hd.o_45 P) (BT.node (hd.o_58 P) (BT.node (hd.o_74 P) BT.nil BT.nil) (BT.node (hd.o_93 P) BT.nil BT.nil)) (BT.node (hd.o_66 P) (BT.node (hd.o_85 P) BT.nil BT.nil) BT.nil)))) (BT.node (hd.o_49 P) (BT.node (boot_o_4 P) (BT.node (boot_o_8 P) (BT.node (hd.o_53 P) (BT.node (hd.o_69 P) BT.nil BT.nil) (BT.node (hd.o_88 P) BT.nil BT.nil)) (BT.node (hd.o_61 P) (BT.node (hd.o_77 P) BT.nil BT.nil) BT.nil)) (BT.node (hd.o_81 P) (BT.node (hd.o_57 P) (BT.node (hd.o_73 P) BT.nil BT.nil) (BT.node (hd.o_92 P) BT.nil BT.nil)) (BT.node (hd.o_65 P) (BT.node (hd.o_84 P) BT.nil BT.nil) BT.nil))) (BT.node (boot_o_6 P) (BT.node (boot_o_10 P) (BT.node (hd.o_55 P) (BT.node (hd.o_71 P) BT.nil BT.nil) (BT.node (hd.o_90 P) BT.nil BT.nil)) (BT.node (hd.o_63 P) (BT.node (hd.o_79 P) BT.nil BT.nil) BT.nil)) (BT.node (hd.o_46 P) (BT.node (hd.o_59 P) (BT.node (hd.o_75 P) BT.nil BT.nil) (BT.node (hd.o_94 P) BT.nil BT.nil)) (BT.node (hd.o_67 P) (BT.node (hd.o_86 P) BT.nil BT.nil) BT.nil))))
noncomputable def hd.tree_145 : Params → BT := fun P => BT.node (boot_o_0 P) (BT.node (boot_o_1 P) (BT.node (hd.o_95 P) (BT.node (boot_o_7 P) (BT.node (hd.o_52 P) (BT.node (hd.o_68 P) (BT.node (hd.o_106 P) BT.nil BT.nil) (BT.node (hd.o_138 P) BT.nil BT.nil)) (BT.node (hd.o_87 P) (BT.node (hd.o_122 P) BT.nil BT.nil) BT.nil)) (BT.node (hd.o_60 P) (BT.node (hd.o_97 P) (BT.node (hd.o_114 P) BT.nil BT.nil) BT.nil) (BT.node (hd.o_98 P) (BT.node (hd.o_130 P) BT.nil BT.nil) BT.nil))) (BT.node (hd.o_43 P) (BT.node (hd.o_56 P) (BT.node (hd.o_72 P) (BT.node (hd.o_110 P) BT.nil BT.nil) (BT.node (hd.o_142 P) BT.nil BT.nil)) (BT.node (hd.o_91 P) (BT.node (hd.o_126 P) BT.nil BT.nil) BT.nil)) (BT.node (hd.o_64 P) (BT.node (hd.o_83 P) (BT.node (hd.o_118 P) BT.nil BT.nil) BT.nil) (BT.node (hd.o_102 P) (BT.node (hd.o_134 P) BT.nil BT.nil) BT.nil)))) (BT.node (boot_o_5 P) (BT.node (boot_o_9 P) (BT.node (hd.o_54 P) (BT.node (hd.o_70 P) (BT.node (hd.o_108 P) BT.nil BT.nil) (BT.node (hd.o_140 P) BT.nil BT.nil)) (BT.node (hd.o_89 P) (BT.node (hd.o_124 P) BT.nil BT.nil) BT.nil)) (BT.node (hd.o_62 P) (BT.node (hd.o_78 P) (BT.node (hd.o_116 P) BT.nil BT.nil) BT.nil) (BT.node (hd.o_100 P) (BT.node (hd.o_132 P) BT.nil BT.nil) BT.nil))) (BT.node (hd.o_45 P) (BT.node (hd.o_58 P) (BT.node (hd.o_74 P) (BT.node (hd.o_112 P) BT.nil BT.nil) (BT.node (hd.o_144 P) BT.nil BT.nil)) (BT.node (hd.o_93 P) (BT.node (hd.o_128 P) BT.nil BT.nil) BT.nil)) (BT.node (hd.o_66 P) (BT.node (hd.o_85 P) (BT.node (hd.o_120 P) BT.nil BT.nil) BT.nil) (BT.node (hd.o_104 P) (BT.node (hd.o_136 P) BT.nil BT.nil) BT.nil))))) (BT.node (hd.o_49 P) (BT.node (boot_o_4 P) (BT.node (boot_o_8 P) (BT.node (hd.o_53 P) (BT.node (hd.o_69 P) (BT.node (hd.o_107 P) BT.nil BT.nil) (BT.node (hd.o_139 P) BT.nil BT.nil)) (BT.node (hd.o_88 P) (BT.node (hd.o_123 P) BT.nil BT.nil) BT.nil)) (BT.node (hd.o_61 P) (BT.node (hd.o_77 P) (BT.node (hd.o_115 P) BT.nil BT.nil) BT.nil) (BT.node (hd.o_99 P) (BT.node (hd.o_131 P) BT.nil BT.nil) BT.nil))) (BT.node (hd.o_96 P) (BT.node (hd.o_57 P) (BT.node (hd.o_73 P) (BT.node (hd.o_111 P) BT.nil BT.nil) (BT.node (hd.o_143 P) BT.nil BT.nil)) (BT.node (hd.o_92 P) (BT.node (hd.o_127 P) BT.nil BT.nil) BT.nil)) (BT.node (hd.o_65 P) (BT.node (hd.o_84 P) (BT.node (hd.o_119 P) BT.nil BT.nil) BT.nil) (BT.node (hd.o_103 P) (BT.node (hd.o_135 P) BT.nil BT.nil) BT.nil)))) (BT.node (boot_o_6 P) (BT.node (boot_o_10 P) (BT.node (hd.o_55 P) (BT.node (hd.o_71 P) (BT.node (hd.o_109 P) BT.nil BT.nil) (BT.node (hd.o_141 P) BT.nil BT.nil)) (BT.node (hd.o_90 P) (BT.node (hd.o_125 P) BT.nil BT.nil) BT.nil)) (BT.node (hd.o_63 P) (BT.node (hd.o_79 P) (BT.node (hd.o_117 P) BT.nil BT.nil) BT.nil) (BT.node (hd.o_101 P) (BT.node (hd.o_133 P) BT.nil BT.nil) BT.nil))) (BT.node (hd.o_46 P) (BT.node (hd.o_59 P) (BT.node (hd.o_75 P) (BT.node (hd.o_113 P) BT.nil BT.nil) (BT.node (hd.o_145 P) BT.nil BT.nil)) (BT.node (hd.o_94 P) (BT.node (hd.o_129 P) BT.nil BT.nil) BT.nil)) (BT.node (hd.o_67 P) (BT.node (hd.o_86 P) (BT.node (hd.o_121 P) BT.nil BT.nil) BT.nil) (BT.node (hd.o_105 P) (BT.node (hd.o_137 P) BT.nil BT.nil) BT.nil)))))
noncomputable def hd.tree_222 : Params → BT := fun P => BT.node (boot_o_0 P) (BT.node (boot_o_1 P) (BT.node (hd.o_146 P) (BT.node (boot_o_7 P) (BT.node (hd.o_52 P) (BT.node (hd.o_68 P) (BT.node (hd.o_106 P) (BT.node (hd.o_172 P) BT.nil BT.nil) BT.nil) (BT.node (hd.o_138 P) (BT.node (hd.o_204 P) BT.nil BT.nil) BT.nil)) (BT.node (hd.o_87 P) (BT.node (hd.o_122 P) (BT.node (hd.o_188 P) BT.nil BT.nil) BT.nil) (BT.node (hd.o_156 P) (BT.node (hd.o_220 P) BT.nil BT.nil) BT.nil))) (BT.node (hd.o_60 P) (BT.node (hd.o_97 P) (BT.node (hd.o_114 P) (BT.node (hd.o_180 P) BT.nil BT.nil) BT.nil) (BT.node (hd.o_148 P) (BT.node (hd.o_212 P) BT.nil BT.nil) BT.nil)) (BT.node (hd.o_98 P) (BT.node (hd.o_130 P) (BT.node (hd.o_196 P) BT.nil BT.nil) BT.nil) (BT.node (hd.o_164 P) BT.nil BT.nil)))) (BT.node (hd.o_43 P) (BT.node (hd.o_56 P) (BT.node (hd.o_72 P) (BT.node (hd.o_110 P) (BT.node (hd.o_176 P) BT.nil BT.nil) BT.nil) (BT.node (hd.o_142 P) (BT.node (hd.o_208 P) BT.nil BT.nil) BT.nil)) (BT.node (hd.o_91 P) (BT.node (hd.o_126 P) (BT.node (hd.o_192 P) BT.nil BT.nil) BT.nil) (BT.node (hd.o_160 P) BT.nil BT.nil))) (BT.node (hd.o_64 P) (BT.node (hd.o_83 P) (BT.node (hd.o_118 P) (BT.node (hd.o_184 P) BT.nil BT.nil) BT.nil) (BT.node (hd.o_152 P) (BT.node (hd.o_216 P) BT.nil BT.nil) BT.nil)) (BT.node (hd.o_102 P) (BT.node (hd.o_134 P) (BT.node (hd.o_200 P) BT.nil BT.nil) BT.nil) (BT.node (hd.o_168 P) BT.nil BT.nil))))) (BT.node (boot_o_5 P) (BT.node (boot_o_9 P) (BT.node (hd.o_54 P) (BT.node (hd.o_70 P) (BT.node (hd.o_108 P) (BT.node (hd.o_174 P) BT.nil BT.nil) BT.nil) (BT.node (hd.o_140 P) (BT.node (hd.o_206 P) BT.nil BT.nil) BT.nil)) (BT.node (hd.o_89 P) (BT.node (hd.o_124 P) (BT.node (hd.o_190 P) BT.nil BT.nil) BT.nil) (BT.node (hd.o_158 P) (BT.node (hd.o_222 P) BT.nil BT.nil) BT.nil))) (BT.node (hd.o_62 P) (BT.node (hd.o_78 P) (BT.node (hd.o_116 P) (BT.node (hd.o_182 P) BT.nil BT.nil) BT.nil) (BT.node (hd.o_150 P) (BT.node (hd.o_214 P) BT.nil BT.nil) BT.nil)) (BT.node (hd.o_100 P) (BT.node (hd.o_132 P) (BT.node (hd.o_198 P) BT.nil BT.nil) BT.nil) (BT.node (hd.o_166 P) BT.nil BT.nil)))) (BT.node (hd.o_45 P) (BT.node (hd.o_58 P) (BT.node (hd.o_74 P) (BT.node (hd.o_112 P) (BT.node (hd.o_178 P) BT.nil BT.nil) BT.nil) (BT.node (hd.o_144 P) (BT.node (hd.o_210 P) BT.nil BT.nil) BT.nil)) (BT.node (hd.o_93 P) (BT.node (hd.o_128 P) (BT.node (hd.o_194 P) BT.nil BT.nil) BT.nil) (BT.node (hd.o_162 P) BT.nil BT.nil))) (BT.node (hd.o_66 P) (BT.node (hd.o_85 P) (BT.node (hd.o_120 P) (BT.node (hd.o_186 P) BT.nil BT.nil) BT.nil) (BT.node (hd.o_154 P) (BT.node (hd.o_218 P) BT.nil BT.nil) BT.nil)) (BT.node (hd.o_104 P) (BT.node (hd.o_136 P) (BT.node (hd.o_202 P) BT.nil BT.nil) BT.nil) (BT.node (hd.o_170 P) BT.nil BT.nil)))))) (BT.node (hd.o_49 P) (BT.node (boot_o_4 P) (BT.node (boot_o_8 P) (BT.node (hd.o_53 P) (BT.node (hd.o_69 P) (BT.node (hd.o_107 P) (BT.node (hd.o_173 P) BT.nil BT.nil) BT.nil) (BT.node (hd.o_139 P) (BT.node (hd.o_205 P) BT.nil BT.nil) BT.nil)) (BT.node (hd.o_88 P) (BT.node (hd.o_123 P) (BT.node (hd.o_189 P) BT.nil BT.nil) BT.nil) (BT.node (hd.o_157 P) (BT.node (hd.o_221 P) BT.nil BT.nil) BT.nil))) (BT.node (hd.o_61 P) (BT.node (hd.o_77 P) (BT.node (hd.o_115 P) (BT.node (hd.o_181 P) BT.nil BT.nil) BT.nil) (BT.node (hd.o_149 P) (BT.node (hd.o_213 P) BT.nil BT.nil) BT.nil)) (BT.node (hd.o_99 P) (BT.node (hd.o_131 P) (BT.node (hd.o_197 P) BT.nil BT.nil) BT.nil) (BT.node (hd.o_165 P) BT.nil BT.nil)))) (BT.node (hd.o_147 P) (BT.node (hd.o_57 P) (BT.node (hd.o_73 P) (BT.node (hd.o_111 P) (BT.node (hd.o_177 P) BT.nil BT.nil) BT.nil) (BT.node (hd.o_143 P) (BT.node (hd.o_209 P) BT.nil BT.nil) BT.nil)) (BT.node (hd.o_92 P) (BT.node (hd.o_127 P) (BT.node (hd.o_193 P) BT.nil BT.nil) BT.nil) (BT.node (hd.o_161 P) BT.nil BT.nil))) (BT.node (hd.o_65 P) (BT.node (hd.o_84 P) (BT.node (hd.o_119 P) (BT.node (hd.o_185 P) BT.nil BT.nil) BT.nil) (BT.node (hd.o_153 P) (BT.node (hd.o_217 P) BT.nil BT.nil) BT.nil)) (BT.node (hd.o_103 P) (BT.node (hd.o_135 P) (BT.node (hd.o_201 P) BT.nil BT.nil) BT.nil) (BT.node (hd.o_169 P) BT.nil BT.nil))))) (BT.node (boot_o_6 P) (BT.node (boot_o_10 P) (BT.node (hd.o_55 P) (BT.node (hd.o_71 P) (BT.node (hd.o_109 P) (BT.node (hd.o_175 P) BT.nil BT.nil) BT.nil) (BT.node (hd.o_141 P) (BT.node (hd.o_207 P) BT.nil BT.nil) BT.nil)) (BT.node (hd.o_90 P) (BT.node (hd.o_125 P) (BT.node (hd.o_191 P) BT.nil BT.nil) BT.nil) (BT.node (hd.o_159 P) BT.nil BT.nil))) (BT.node (hd.o_63 P) (BT.node (hd.o_79 P) (BT.node (hd.o_117 P) (BT.node (hd.o_183 P) BT.nil BT.nil) BT.nil) (BT.node (hd.o_151 P) (BT.node (hd.o_215 P) BT.nil BT.nil) BT.nil)) (BT.node (hd.o_101 P) (BT.node (hd.o_133 P) (BT.node (hd.o_199 P) BT.nil BT.nil) BT.nil) (BT.node (hd.o_167 P) BT.nil BT.nil)))) (BT.node (hd.o_46 P) (BT.node (hd.o_59 P) (BT.node (hd.o_75 P) (BT.node (hd.o_113 P) (BT.node (hd.o_179 P) BT.nil BT.nil) BT.nil) (BT.node (hd.o_145 P) (BT.node (hd.o_211 P) BT.nil BT.nil) BT.nil)) (BT.node (hd.o_94 P) (BT.node (hd.o_129 P) (BT.node (hd.o_195 P) BT.nil BT.nil) BT.nil) (BT.node (hd.o_163 P) BT.nil BT.nil))) (BT.node (hd.o_67 P) (BT.node (hd.o_86 P) (BT.node (hd.o_121 P) (BT.node (hd.o_187 P) BT.nil BT.nil) BT.nil) (BT.node (hd.o_155 P) (BT.node (hd.o_219 P) BT.nil BT.nil) BT.nil)) (BT.node (hd.o_105 P) (BT.node (hd.o_137 P) (BT.node (hd.o_203 P) BT.nil BT.nil) BT.nil) (BT.node (hd.o_171 P) BT.nil BT.nil))))))
noncomputable def hd.tree_304 : Params → BT := fun P => BT.node (boot_o_0 P) (BT.node (boot_o_1 P) (BT.node (hd.o_223 P) (BT.node (boot_o_7 P) (BT.node (hd.o_52 P) (BT.node (hd.o_68 P) (BT.node (hd.o_106 P) (BT.node (hd.o_172 P) (BT.node (hd.o_302 P) BT.nil BT.nil) BT.nil) (BT.node (hd.o_238 P) BT.nil BT.nil)) (BT.node (hd.o_138 P) (BT.node (hd.o_204 P) BT.nil BT.nil) (BT.node (hd.o_270 P) BT.nil BT.nil))) (BT.node (hd.o_87 P) (BT.node (hd.o_122 P) (BT.node (hd.o_188 P) BT.nil BT.nil) (BT.node (hd.o_254 P) BT.nil BT.nil)) (BT.node (hd.o_156 P) (BT.node (hd.o_220 P) BT.nil BT.nil) (BT.node (hd.o_286 P) BT.nil BT.nil)))) (BT.node (hd.o_60 P) (BT.node (hd.o_97 P) (BT.node (hd.o_114 P) (BT.node (hd.o_180 P) BT.nil BT.nil) (BT.node (hd.o_246 P) BT.nil BT.nil)) (BT.node (hd.o_148 P) (BT.node (hd.o_212 P) BT.nil BT.nil) (BT.node (hd.o_278 P) BT.nil BT.nil))) (BT.node (hd.o_98 P) (BT.node (hd.o_130 P) (BT.node (hd.o_196 P) BT.nil BT.nil) (BT.node (hd.o_262 P) BT.nil BT.nil)) (BT.node (hd.o_164 P) (BT.node (hd.o_230 P) BT.nil BT.nil) (BT.node (hd.o_294 P) BT.nil BT.nil))))) (BT.node (hd.o_43 P) (BT.node (hd.o_56 P) (BT.node (hd.o_72 P) (BT.node (hd.o_110 P) (BT.node (hd.o_176 P) BT.nil BT.nil) (BT.node (hd.o_242 P) BT.nil BT.nil)) (BT.node (hd.o_142 P) (BT.node (hd.o_208 P) BT.nil BT.nil) (BT.node (hd.o_274 P) BT.nil BT.nil))) (BT.node (hd.o_91 P) (BT.node (hd.o_126 P) (BT.node (hd.o_192 P) BT.nil BT.nil) (BT.node (hd.o_258 P) BT.nil BT.nil)) (BT.node (hd.o_160 P) (BT.node (hd.o_226 P) BT.nil BT.nil) (BT.node (hd.o_290 P) BT.nil BT.nil)))) (BT.node (hd.o_64 P) (BT.node (hd.o_83 P) (BT.node (hd.o_118 P) (BT.node (hd.o_184 P) BT.nil BT.nil) (BT.node (hd.o_250 P) BT.nil BT.nil)) (BT.node (hd.o_152 P) (BT.node (hd.o_216 P) BT.nil BT.nil) (BT.node (hd.o_282 P) BT.nil BT.nil))) (BT.node (hd.o_102 P) (BT.node (hd.o_134 P) (BT.node (hd.o_200 P) BT.nil BT.nil) (BT.node (hd.o_266 P) BT.nil BT.nil)) (BT.node (hd.o_168 P) (BT.node (hd.o_234 P) BT.nil BT.nil) (BT.node (hd.o_298 P) BT.nil BT.nil)))))) (BT.node (boot_o_5 P) (BT.node (boot_o_9 P) (BT.node (hd.o_54 P) (BT.node (hd.o_70 P) (BT.node (hd.o_108 P) (BT.node (hd.o_174 P) (BT.node (hd.o_304 P) BT.nil BT.nil) BT.nil) (BT.node (hd.o_240 P) BT.nil BT.nil)) (BT.node (hd.o_140 P) (BT.node (hd.o_206 P) BT.nil BT.nil) (BT.node (hd.o_272 P) BT.nil BT.nil))) (BT.node (hd.o_89 P) (BT.node (hd.o_124 P) (BT.node (hd.o_190 P) BT.nil BT.nil) (BT.node (hd.o_256 P) BT.nil BT.nil)) (BT.node (hd.o_158 P) (BT.node (hd.o_222 P) BT.nil BT.nil) (BT.node (hd.o_288 P) BT.nil BT.nil)))) (BT.node (hd.o_62 P) (BT.node (hd.o_78 P) (BT.node (hd.o_116 P) (BT.node (hd.o_182 P) BT.nil BT.nil) (BT.node (hd.o_248 P) BT.nil BT.nil)) (BT.node (hd.o_150 P) (BT.node (hd.o_214 P) BT.nil BT.nil) (BT.node (hd.o_280 P) BT.nil BT.nil))) (BT.node (hd.o_100 P) (BT.node (hd.o_132 P) (BT.node (hd.o_198 P) BT.nil BT.nil) (BT.node (hd.o_264 P) BT.nil BT.nil)) (BT.node (hd.o_166 P) (BT.node (hd.o_232 P) BT.nil BT.nil) (BT.node (hd.o_296 P) BT.nil BT.nil))))) (BT.node (hd.o_45 P) (BT.node (hd.o_58 P) (BT.node (hd.o_74 P) (BT.node (hd.o_112 P) (BT.node (hd.o_178 P) BT.nil BT.nil) (BT.node (hd.o_244 P) BT.nil BT.nil)) (BT.node (hd.o_144 P) (BT.node (hd.o_210 P) BT.nil BT.nil) (BT.node (hd.o_276 P) BT.nil BT.nil))) (BT.node (hd.o_93 P) (BT.node (hd.o_128 P) (BT.node (hd.o_194 P) BT.nil BT.nil) (BT.node (hd.o_260 P) BT.nil BT.nil)) (BT.node (hd.o_162 P) (BT.node (hd.o_228 P) BT.nil BT.nil) (BT.node (hd.o_292 P) BT.nil BT.nil)))) (BT.node (hd.o_66 P) (BT.node (hd.o_85 P) (BT.node (hd.o_120 P) (BT.node (hd.o_186 P) BT.nil BT.nil) (BT.node (hd.o_252 P) BT.nil BT.nil)) (BT.node (hd.o_154 P) (BT.node (hd.o_218 P) BT.nil BT.nil) (BT.node (hd.o_284 P) BT.nil BT.nil))) (BT.node (hd.o_104 P) (BT.node (hd.o_136 P) (BT.node (hd.o_202 P) BT.nil BT.nil) (BT.node (hd.o_268 P) BT.nil BT.nil)) (BT.node (hd.o_170 P) (BT.node (hd.o_236 P) BT.nil BT.nil) (BT.node (hd.o_300 P) BT.nil BT.nil))))))) (BT.node (hd.o_49 P) (BT.node (boot_o_4 P) (BT.node (boot_o_8 P) (BT.node (hd.o_53 P) (BT.node (hd.o_69 P) (BT.node (hd.o_107 P) (BT.node (hd.o_173 P) (BT.node (hd.o_303 P) BT.nil BT.nil) BT.nil) (BT.node (hd.o_239 P) BT.nil BT.nil)) (BT.node (hd.o_139 P) (BT.node (hd.o_205 P) BT.nil BT.nil) (BT.node (hd.o_271 P) BT.nil BT.nil))) (BT.node (hd.o_88 P) (BT.node (hd.o_123 P) (BT.node (hd.o_189 P) BT.nil BT.nil) (BT.node (hd.o_255 P) BT.nil BT.nil)) (BT.node (hd.o_157 P) (BT.node (hd.o_221 P) BT.nil BT.nil) (BT.node (hd.o_287 P) BT.nil BT.nil)))) (BT.node (hd.o_61 P) (BT.node (hd.o_77 P) (BT.node (hd.o_115 P) (BT.node (hd.o_181 P) BT.nil BT.nil) (BT.node (hd.o_247 P) BT.nil BT.nil)) (BT.node (hd.o_149 P) (BT.node (hd.o_213 P) BT.nil BT.nil) (BT.node (hd.o_279 P) BT.nil BT.nil))) (BT.node (hd.o_99 P) (BT.node (hd.o_131 P) (BT.node (hd.o_197 P) BT.nil BT.nil) (BT.node (hd.o_263 P) BT.nil BT.nil)) (BT.node (hd.o_165 P) (BT.node (hd.o_231 P) BT.nil BT.nil) (BT.node (hd.o_295 P) BT.nil BT.nil))))) (BT.node (hd.o_224 P) (BT.node (hd.o_57 P) (BT.node (hd.o_73 P) (BT.node (hd.o_111 P) (BT.node (hd.o_177 P) BT.nil BT.nil) (BT.node (hd.o_243 P) BT.nil BT.nil)) (BT.node (hd.o_143 P) (BT.node (hd.o_209 P) BT.nil BT.nil) (BT.node (hd.o_275 P) BT.nil BT.nil))) (BT.node (hd.o_92 P) (BT.node (hd.o_127 P) (BT.node (hd.o_193 P) BT.nil BT.nil) (BT.node (hd.o_259 P) BT.nil BT.nil)) (BT.node (hd.o_161 P) (BT.node (hd.o_227 P) BT.nil BT.nil) (BT.node (hd.o_291 P) BT.nil BT.nil)))) (BT.node (hd.o_65 P) (BT.node (hd.o_84 P) (BT.node (hd.o_119 P) (BT.node (hd.o_185 P) BT.nil BT.nil) (BT.node (hd.o_251 P) BT.nil BT.nil)) (BT.node (hd.o_153 P) (BT.node (hd.o_217 P) BT.nil BT.nil) (BT.node (hd.o_283 P) BT.nil BT.nil))) (BT.node (hd.o_103 P) (BT.node (hd.o_135 P) (BT.node (hd.o_201 P) BT.nil BT.nil) (BT.node (hd.o_267 P) BT.nil BT.nil)) (BT.node (hd.o_169 P) (BT.node (hd.o_235 P) BT.nil BT.nil) (BT.node (hd.o_299 P) BT.nil BT.nil)))))) (BT.node (boot_o_6 P) (BT.node (boot_o_10 P) (BT.node (hd.o_55 P) (BT.node (hd.o_71 P) (BT.node (hd.o_109 P) (BT.node (hd.o_175 P) BT.nil BT.nil) (BT.node (hd.o_241 P) BT.nil BT.nil)) (BT.node (hd.o_141 P) (BT.node (hd.o_207 P) BT.nil BT.nil) (BT.node (hd.o_273 P) BT.nil BT.nil))) (BT.node (hd.o_90 P) (BT.node (hd.o_125 P) (BT.node (hd.o_191 P) BT.nil BT.nil) (BT.node (hd.o_257 P) BT.nil BT.nil)) (BT.node (hd.o_159 P) (BT.node (hd.o_225 P) BT.nil BT.nil) (BT.node (hd.o_289 P) BT.nil BT.nil)))) (BT.node (hd.o_63 P) (BT.node (hd.o_79 P) (BT.node (hd.o_117 P) (BT.node (hd.o_183 P) BT.nil BT.nil) (BT.node (hd.o_249 P) BT.nil BT.nil)) (BT.node (hd.o_151 P) (BT.node (hd.o_215 P) BT.nil BT.nil) (BT.node (hd.o_281 P) BT.nil BT.nil))) (BT.node (hd.o_101 P) (BT.node (hd.o_133 P) (BT.node (hd.o_199 P) BT.nil BT.nil) (BT.node (hd.o_265 P) BT.nil BT.nil)) (BT.node (hd.o_167 P) (BT.node (hd.o_233 P) BT.nil BT.nil) (BT.node (hd.o_297 P) BT.nil BT.nil))))) (BT.node (hd.o_46 P) (BT.node (hd.o_59 P) (BT.node (hd.o_75 P) (BT.node (hd.o_113 P) (BT.node (hd.o_179 P) BT.nil BT.nil) (BT.node (hd.o_245 P) BT.nil BT.nil)) (BT.node (hd.o_145 P) (BT.node (hd.o_211 P) BT.nil BT.nil) (BT.node (hd.o_277 P) BT.nil BT.nil))) (BT.node (hd.o_94 P) (BT.node (hd.o_129 P) (BT.node (hd.o_195 P) BT.nil BT.nil) (BT.node (hd.o_261 P) BT.nil BT.nil)) (BT.node (hd.o_163 P) (BT.node (hd.o_229 P) BT.nil BT.nil) (BT.node (hd.o_293 P) BT.nil BT.nil)))) (BT.node (hd.o_67 P) (BT.node (hd.o_86 P) (BT.node (hd.o_121 P) (BT.node (hd.o_187 P) BT.nil BT.nil) (BT.node (hd.o_253 P) BT.nil BT.nil)) (BT.node (hd.o_155 P) (BT.node (hd.o_219 P) BT.nil BT.nil) (BT.node (hd.o_285 P) BT.nil BT.nil))) (BT.node (hd.o_105 P) (BT.node (hd.o_137 P) (BT.node (hd.o_203 P) BT.nil BT.nil) (BT.node (hd.o_269 P) BT.nil BT.nil)) (BT.node (hd.o_171 P) (BT.node (hd.o_237 P) BT.nil BT.nil) (BT.node (hd.o_301 P) BT.nil BT.nil)))))))
noncomputable def hd.heap_305 : Params → Heap := fun P => Heap.mk (Array.mk (boot_o_0 P :: boot_o_1 P :: hd.o_49 P :: hd.o_223 P :: boot_o_4 P :: boot_o_5 P :: boot_o_6 P :: boot_o_7 P :: boot_o_8 P :: boot_o_9 P :: boot_o_10 P :: hd.o_43 P :: hd.o_224 P :: hd.o_45 P :: hd.o_46 P :: hd.o_52 P :: hd.o_53 P :: hd.o_54 P :: hd.o_55 P :: hd.o_56 P :: hd.o_57 P :: hd.o_58 P :: hd.o_59 P :: hd.o_60 P :: hd.o_61 P :: hd.o_62 P :: hd.o_63 P :: hd.o_64 P :: hd.o_65 P :: hd.o_66 P :: hd.o_67 P :: hd.o_68 P :: hd.o_69 P :: hd.o_70 P :: hd.o_71 P :: hd.o_72 P :: hd.o_73 P :: hd.o_74 P :: hd.o_75 P :: hd.o_97 P :: hd.o_77 P :: hd.o_78 P :: hd.o_79 P :: hd.o_83 P :: hd.o_84 P :: hd.o_85 P :: hd.o_86 P :: hd.o_87 P :: hd.o_88 P :: hd.o_89 P :: hd.o_90 P :: hd.o_91 P :: hd.o_92 P :: hd.o_93 P :: hd.o_94 P :: hd.o_98 P :: hd.o_99 P :: hd.o_100 P :: hd.o_101 P :: hd.o_102 P :: hd.o_103 P :: hd.o_104 P :: hd.o_105 P :: hd.o_106 P :: hd.o_107 P :: hd.o_108 P :: hd.o_109 P :: hd.o_110 P :: hd.o_111 P :: hd.o_112 P :: hd.o_113 P :: hd.o_114 P :: hd.o_115 P :: hd.o_116 P :: hd.o_117 P :: hd.o_118 P :: hd.o_119 P :: hd.o_120 P :: hd.o_121 P :: hd.o_122 P :: hd.o_123 P :: hd.o_124 P :: hd.o_125 P :: hd.o_126 P :: hd.o_127 P :: hd.o_128 P :: hd.o_129 P :: hd.o_130 P :: hd.o_131 P :: hd.o_132 P :: hd.o_133 P :: hd.o_134 P :: hd.o_135 P :: hd.o_136 P :: hd.o_137 P :: hd.o_138 P :: hd.o_139 P :: hd.o_140 P :: hd.o_141 P :: hd.o_142 P :: hd.o_143 P :: hd.o_144 P :: hd.o_145 P :: hd.o_148 P :: hd.o_149 P :: hd.o_150 P :: hd.o_151 P :: hd.o_152 P :: hd.o_153 P :: hd.o_154 P :: hd.o_155 P :: hd.o_156 P :: hd.o_157 P :: hd.o_158 P :: hd.o_159 P :: hd.o_160 P :: hd.o_161 P :: hd.o_162 P :: hd.o_163 P :: hd.o_164 P :: hd.o_165 P :: hd.o_166 P :: hd.o_167 P :: hd.o_168 P :: hd.o_169 P :: hd.o_170 P :: hd.o_171 P :: hd.o_172 P :: hd.o_173 P :: hd.o_174 P :: hd.o_175 P :: hd.o_176 P :: hd.o_177 P :: hd.o_178 P :: hd.o_179 P :: hd.o_180 P :: hd.o_181 P :: hd.o_182 P :: hd.o_183 P :: hd.o_184 P :: hd.o_185 P :: hd.o_186 P :: hd.o_187 P :: hd.o_188 P :: hd.o_189 P :: hd.o_190 P :: hd.o_191 P :: hd.o_192 P :: hd.o_193 P :: hd.o_194 P :: hd.o_195 P :: hd.o_196 P :: hd.o_197 P :: hd.o_198 P :: hd.o_199 P :: hd.o_200 P :: hd.o_201 P :: hd.o_202 P :: hd.o_203 P :: hd.o_204 P :: hd.o_205 P :: hd.o_206 P :: hd.o_207 P :: hd.o_208 P :: hd.o_209 P :: hd.o_210 P :: hd.o_211 P :: hd.o_212 P :: hd.o_213 P :: hd.o_214 P :: hd.o_215 P :: hd.o_216 P :: hd.o_217 P :: hd.o_218 P :: hd.o_219 P :: hd.o_220 P :: hd.o_221 P :: hd.o_222 P :: hd.o_225 P :: hd.o_226 P :: hd.o_227 P :: hd.o_228 P :: hd.o_229 P :: hd.o_230 P :: hd.o_231 P :: hd.o_232 P :: hd.o_233 P :: hd.o_234 P :: hd.o_235 P :: hd.o_236 P :: hd.o_237 P :: hd.o_238 P :: hd.o_239 P :: hd.o_240 P :: hd.o_241 P :: hd.o_242 P :: hd.o_243 P :: hd.o_244 P :: hd.o_245 P :: hd.o_246 P :: hd.o_247 P :: hd.o_248 P :: hd.o_249 P :: hd.o_250 P :: hd.o_251 P :: hd.o_252 P :: hd.o_253 P :: hd.o_254 P :: hd.o_255 P :: hd.o_256 P :: hd.o_257 P :: hd.o_258 P :: hd.o_259 P :: hd.o_260 P :: hd.o_261 P :: hd.o_262 P :: hd.o_263 P :: hd.o_264 P :: hd.o_265 P :: hd.o_266 P :: hd.o_267 P :: hd.o_268 P :: hd.o_269 P :: hd.o_270 P :: hd.o_271 P :: hd.o_272 P :: hd.o_273 P :: hd.o_274 P :: hd.o_275 P :: hd.o_276 P :: hd.o_277 P :: hd.o_278 P :: hd.o_279 P :: hd.o_280 P :: hd.o_281 P :: hd.o_282 P :: hd.o_283 P :: hd.o_284 P :: hd.o_285 P :: hd.o_286 P :: hd.o_287 P :: hd.o_288 P :: hd.o_289 P :: hd.o_290 P :: hd.o_291 P :: hd.o_292 P :: hd.o_293 P :: hd.o_294 P :: hd.o_295 P :: hd.o_296 P :: hd.o_297 P :: hd.o_298 P :: hd.o_299 P :: hd.o_300 P :: hd.o_301 P :: hd.o_302 P :: hd.o_303 P :: hd.o_304 P :: [])) (Life.mk [] [] [] 0 [] [] Bool.false #[] [] 0 Bool.false Bool.false Bool.false 0 [2000, 10, 10] Bool.false 0 Bool.true [] [] 0 Bool.false)
noncomputable def hd.sts_49 : List Stmt := [stm 0, stm 1]
noncomputable def hd.sts_80 : List Stmt := [stm 2]
noncomputable def hd.sts_95 : List Stmt := [stm 3, stm 4, stm 5, stm 6, stm 7, stm 8, stm 9, stm 10]
noncomputable def hd.sts_146 : List Stmt := [stm 11, stm 12, stm 13, stm 14, stm 15, stm 16, stm 17, stm 18, stm 19, stm 20, stm 21, stm 22, stm 23, stm 24, stm 25, stm 26, stm 27]
noncomputable def hd.sts_223 : List Stmt := [stm 28, stm 29, stm 30, stm 31, stm 32, stm 33, stm 34, stm 35, stm 36, stm 37, stm 38, stm 39, stm 40, stm 41]
abbrev hd.pr : Program := PySem.Challenge.rw_or0051_01.row.toRowW.prog
noncomputable abbrev hd.cB : Code := Code.body (behindTheImports hd.pr) hd.env_41
abbrev hd.lo : List PySem.Str := [PySem.Str.ofString "PostError"]
noncomputable abbrev hd.xt : Shared → Bool := fun s => xlAt hd.view_39 [] s && recOk (RowW.records (OpenRow.toRowW PySem.Challenge.rw_or0051_01.row)) s
noncomputable abbrev hd.at_ (T : Params → BT) (n k : Nat) (w : World) (os : OsState) : SharedT := { tree := T w.params, n := n, life := {}, gens := #[], drawn := {}, toks := k, os := os }
noncomputable abbrev hd.fin (w : World) (os : OsState) : Shared := { heap := hd.heap_305 w.params, gens := #[], drawn := {}, toks := 534, os := os }
theorem hd.q0 : opening hd.pr = plainProg hd.pr.main.scope.names := by kernel_rfl
theorem hd.q1 (w : World) (os : OsState) : topGo treeTable hd.pr w 11 (some (Value.ref 6)) 12 { heap := boot_heap w.params, gens := Array.mk [], drawn := boot_drawn, toks := boot_toks, os := os } (topStub hd.pr) =
    some ({ heap := hd.heap_46 w.params, gens := #[], drawn := {}, toks := 187, os := os }, ⟨denote treeTable hd.cB, hd.cB, ⟨0, 0, 0, 0⟩, [topFrame ⟨0, 0, 0, 0⟩]⟩) := by kernel_rfl
theorem hd.q2 (w : World) (os : OsState) : segRun treeTable hd.pr w 11 (some (Value.ref 6)) 1 1 { heap := hd.heap_46 w.params, gens := #[], drawn := {}, toks := 187, os := os } (blockOf (behindTheImports hd.pr) hd.env_41 hd.cB ⟨0, 0, 0, 0⟩ [topFrame ⟨0, 0, 0, 0⟩]) =
    some (Flow.next, (hd.at_ hd.tree_47 15 187 w os).abs, hd.cB, ⟨0, 0, 0, 0⟩) := by kernel_rfl
theorem hd.p0 (w : World) (os : OsState) : segRunT treeTable hd.pr w 11 (some (Value.ref 6)) 1 278 (hd.at_ hd.tree_47 15 187 w os) (piecesOf hd.sts_49 hd.env_41 hd.cB ⟨0, 0, 0, 0⟩ [topFrame ⟨0, 0, 0, 0⟩]) =
    some (Flow.next, hd.at_ hd.tree_79 43 229 w os, hd.cB, ⟨2, 0, 10, 35⟩) := by rw [PySem.W.Fast.te10110043849684766642, PySem.W.Fast.te14364793385576792824]; kernel_rfl
theorem hd.p1 (w : World) (os : OsState) : segRunT treeTable hd.pr w 11 (some (Value.ref 6)) 1 214 (hd.at_ hd.tree_79 43 229 w os) (piecesOf hd.sts_80 hd.env_41 hd.cB ⟨2, 0, 10, 35⟩ [topFrame ⟨0, 0, 0, 0⟩]) =
    some (Flow.next, hd.at_ hd.tree_94 55 245 w os, hd.cB, ⟨11, 0, 12, 8⟩) := by rw [PySem.W.Fast.te10110043849684766642, PySem.W.Fast.te14364793385576792824]; kernel_rfl
theorem hd.p2 (w : World) (os : OsState) : segRunT treeTable hd.pr w 11 (some (Value.ref 6)) 1 401 (hd.at_ hd.tree_94 55 245 w os) (piecesOf hd.sts_95 hd.env_41 hd.cB ⟨11, 0, 12, 8⟩ [topFrame ⟨0, 0, 0, 0⟩]) =
    some (Flow.next, hd.at_ hd.tree_145 103 315 w os, hd.cB, ⟨45, 0, 56, 26⟩) := by rw [PySem.W.Fast.te10110043849684766642, PySem.W.Fast.te14364793385576792824]; kernel_rfl
theorem hd.p3 (w : World) (os : OsState) : segRunT treeTable hd.pr w 11 (some (Value.ref 6)) 1 401 (hd.at_ hd.tree_145 103 315 w os) (piecesOf hd.sts_146 hd.env_41 hd.cB ⟨45, 0, 56, 26⟩ [topFrame ⟨0, 0, 0, 0⟩]) =
    some (Flow.next, hd.at_ hd.tree_222 178 433 w os, hd.cB, ⟨164, 0, 168, 35⟩) := by rw [PySem.W.Fast.te10110043849684766642, PySem.W.Fast.te14364793385576792824]; kernel_rfl
theorem hd.p4 (w : World) (os : OsState) : segRunT treeTable hd.pr w 11 (some (Value.ref 6)) 1 376 (hd.at_ hd.tree_222 178 433 w os) (piecesOf hd.sts_223 hd.env_41 hd.cB ⟨164, 0, 168, 35⟩ [topFrame ⟨0, 0, 0, 0⟩]) =
    some (Flow.next, hd.at_ hd.tree_304 258 534 w os, hd.cB, ⟨237, 0, 251, 151⟩) := by rw [PySem.W.Fast.te10110043849684766642, PySem.W.Fast.te14364793385576792824]; kernel_rfl
theorem hd.q3 (w : World) (os : OsState) : topRun treeTable hd.pr w 11 (some (Value.ref 6)) 2 (hd.at_ hd.tree_304 258 534 w os).abs ⟨doneF Flow.next, hd.cB, ⟨237, 0, 251, 151⟩, [topFrame ⟨0, 0, 0, 0⟩]⟩ = some (hd.fin w os) := by kernel_rfl
theorem hd.q4 : behindTheImports hd.pr = hd.sts_49 ++ (hd.sts_80 ++ (hd.sts_95 ++ (hd.sts_146 ++ (hd.sts_223 ++ [])))) := by kernel_rfl
theorem rest_eq {b b' : List Stmt} {tb : String → Option Builtin} {p : Program} {w : World} {n₀ N : Nat} {ann : Option Value} {env : Env} {c : Code} {q : Pos} {B : List Frame} {s r : Shared} (e : b = b')
    (h : topRun tb p w n₀ ann N s (restOf b' env c q B) = some r) : topRun tb p w n₀ ann N s (restOf b env c q B) = some r := by rw [e]; exact h
theorem hd.run (w : World) (os : OsState) : topRun treeTable hd.pr w 11 (some (Value.ref 6)) (12 + (1 + (278 + (214 + (401 + (401 + (376 + 2))))))) { heap := boot_heap w.params, gens := Array.mk [], drawn := boot_drawn, toks := boot_toks, os := os } (topStub hd.pr) = some (hd.fin w os) :=
  go_top (hd.q1 w os) (piece_block (hd.q2 w os) (rest_eq hd.q4 (piece_app (segRun_of (hd.p0 w os)) (piece_app (segRun_of (hd.p1 w os)) (piece_app (segRun_of (hd.p2 w os)) (piece_app (segRun_of (hd.p3 w os)) (piece_app (segRun_of (hd.p4 w os)) (hd.q3 w os))))))))
theorem hd.q5 (w : World) : ((boot_heap w.params).isNs mainGlobals && (Array.mk [] : Array GenState).size == 0, (boot_heap w.params).objs.size, (boot_heap w.params).nsMap mainGlobals "__annotations__") = (true, 11, some (Value.ref 6)) := by kernel_rfl
theorem hd.l0 (w : World) (os : OsState) : (staticsOk (importedModules hd.pr.main.body) (boot_heap w.params) (hd.heap_305 w.params) && namesBound hd.pr (hd.heap_305 w.params) && gensDone (hd.fin w os) && laidKept (boot_heap w.params) (hd.heap_305 w.params)) = true := by kernel_rfl
theorem hd.l1 (w : World) (os : OsState) : seen ((recsOf hd.view_39).map (·.name)) (ownsOf hd.view_39) [] { hd.fin w os with gens := #[] } = expectedOf hd.view_39 := by kernel_rfl
theorem hd.l2 (w : World) (os : OsState) : (hd.fin w os).heap.bltView = bltViewBooted := by kernel_rfl
theorem hd.l3 (w : World) (os : OsState) : ((hd.fin w os).heap.keysOk (looseW hd.view_39 hd.lo) ((recsOf hd.view_39).map (·.name)) ((litsOf hd.view_39).map (·.1)) ((clssOf hd.view_39 (looseW hd.view_39 hd.lo)).map (·.name)) && (hd.fin w os).heap.accountedOkI (importedModules hd.pr.main.body) && (hd.fin w os).heap.isNs mainGlobals && (hd.fin w os).heap.isNs builtinsNs && tablesOk hd.view_39 (hd.fin w os).heap && hd.xt (hd.fin w os) && (if true = true then (hd.fin w os).gens.size == 0 else !leftWithCleanup (hd.fin w os).gens)) = true := by kernel_rfl
theorem hd.l4 (w : World) (os : OsState) : tabsOk hd.view_39 (hd.fin w os) = true := by kernel_rfl
theorem hd.l5 (w : World) (os : OsState) : pinSeenD hd.view_39 (drecsOf hd.view_39) (hd.fin w os) = pinGoodD (drecsOf hd.view_39) := by kernel_rfl
theorem hd.l6 (w : World) (os : OsState) : plainSeenE hd.view_39 (looseW hd.view_39 hd.lo) (hd.fin w os) = plainGoodE hd.view_39 (looseW hd.view_39 hd.lo) := by kernel_rfl
theorem hd.l7 (w : World) (os : OsState) : plainSeenD hd.view_39 hd.lo (hd.fin w os) = plainGoodD hd.view_39 hd.lo := by kernel_rfl
theorem hd.l8 (w : World) (os : OsState) : wideSeen hd.view_39 (hd.fin w os) = wideGood hd.view_39 := by kernel_rfl
theorem hd.l9 (w : World) (os : OsState) : clsSeenW hd.view_39 hd.lo (hd.fin w os) = clsGoodW hd.view_39 hd.lo := by kernel_rfl
noncomputable abbrev hd.hk := kHook hd.heap_39 hd.adr (fun _ => by kernel_rfl)
theorem hd.l10 (w : World) (os : OsState) : Hook.obs hd.hk (hd.fin w os) = Hook.val hd.hk w := by kernel_rfl
theorem left_once : PySem.W.LeftO hd.pr hd.view_39 hd.lo hd.xt (Hook.obs hd.hk) (Hook.val hd.hk) 3456 :=
  LeftO.of_pieces (H₀ := boot_heap) (H₁ := hd.heap_305) (gs₀ := Array.mk []) (gs₁ := #[]) (d₀ := boot_drawn) (d₁ := {}) (k₀ := boot_toks) (k₁ := 534) (m₀ := 11) (ann := some (Value.ref 6)) (M := 12 + (1 + (278 + (214 + (401 + (401 + (376 + 2)))))))
    (boot_open hd.q0 (by decide +kernel) (fun _ => rfl)) hd.q5 hd.run (by decide +kernel)
    (fun w => funext fun os => looks_pair (hd.l0 w os) (looks_pair (looks_pair (hd.l1 w os) (looks_pair (hd.l2 w os) (looks_pair (hd.l3 w os) (looks_pair (hd.l4 w os) (looks_pair (hd.l5 w os) (looks_pair (hd.l6 w os) (looks_pair (hd.l7 w os) (looks_pair (hd.l8 w os) (hd.l9 w os))))))))) (hd.l10 w os)))
theorem said : PySem.Challenge.rw_or0051_01.wellSaid = true := by
  delta OpenLaw.wellSaid OpenRow.wellSaid OpenRow.partSaid looksOpen
  repeat' (with_reducible refine look_both ?_ ?_)
  all_goals (first | (rw [PySem.W.Fast.te8326940854005059898]; decide +kernel) | (rw [PySem.W.Fast.te17119622794617984870]; decide +kernel) | (rw [PySem.W.Fast.te8377067652309620493]; decide +kernel) | decide +kernel)
/-- the old heap stays -/
noncomputable def Keeps (h h' : Heap) : Prop := ∀ b o, h.get? b = some o → h'.get? b = some o
theorem Keeps.refl (h : Heap) : Keeps h h := fun _ _ e => e
theorem Keeps.trans {a b c : Heap} (x : Keeps a b) (y : Keeps b c) : Keeps a c := fun _ _ e => y _ _ (x _ _ e)
/-- what stands in every heap the law's call meets -/
structure Cx (w : World) (mean : ExcName → Option Value) (mg mb : PySem.Str → Option Value) (h : Heap) : Prop where
  X : (hd.heap_39 w.params).In h
  T : Top hd.view_39 (looseW hd.view_39 [PySem.Str.ofString "PostError"]) mean mg mb h
theorem Cx.keeps {w : World} {mean mg mb} {h h' : Heap} (C : Cx w mean mg mb h) (k : Keeps h h') : Cx w mean mg mb h' :=
  ⟨C.X.keeps k, C.T.keeps k⟩
/-- the places from which a def is called: one written room for each height of the call tree -/
@[reducible] noncomputable def lev (n : Nat) : Around := { handled := none, depth := 900 - 10 * n, frames := none, guards := none, units := 9000 - 100 * n }
theorem lev_in {n : Nat} {A : Around} {Γ : Ctx} (h1 : A.handled = none) (h2 : A.depth ≤ 900 - 10 * n) (h3 : A.units ≤ 9000 - 100 * n) (hΓ : Γ.In A) : Γ.In (lev n) :=
  ⟨hΓ.1.trans h1, Nat.le_trans hΓ.2.1 h2, (fun _ e => by cases e), (fun _ e => by cases e), Nat.le_trans hΓ.2.2.2.2 h3⟩
theorem to_lev {n : Nat} {α : Type} {M : Model} {A : Around} {t : Sem α} {Q : α → Shared → Prop} {E : Value → Shared → Prop} {s : Shared}
    (h : wpAny M (lev n) t Q E s) (h1 : A.handled = none) (h2 : A.depth ≤ 900 - 10 * n) (h3 : A.units ≤ 9000 - 100 * n) : wpAny M A t Q E s :=
  fun Γ p hΓ => h Γ p (lev_in h1 h2 h3 hΓ)
/-- what a call does: it comes back with a value that R tells, or raises what X tells; the old heap stays -/
noncomputable def Does (prog : Program) (w : World) (n : Nat) (f : Addr) (args : List Value) (s : Shared) (R X : Value → Heap → Prop) : Prop :=
  ∀ Q E : Value → Shared → Prop, (∀ v h' tk', Keeps s.heap h' → R v h' → Q v { s with heap := h', toks := tk' }) →
    (∀ e h' tk', Keeps s.heap h' → X e h' → E e { s with heap := h', toks := tk' }) → wpAny (model prog w) (lev n) (call (.ref f) args) Q E s
section
variable {prog : Program} {w : World} {A : Around} {s : Shared} {Q E : Value → Shared → Prop} {mean : ExcName → Option Value} {mg mb : PySem.Str → Option Value}
  {name qual : PySem.Str} {params : Arguments} {body : List Stmt} {scope : Scope} {dV kV doc pm cdv ct oc : Value} {an od : Option Addr} {osl : Array (Option Value)} {f : Addr} {args : List Value} {binds : List (PySem.Str × Value)}
/-- a def without cells is entered: the caller's whole heap is the base -/
theorem enter (C : Cx w mean mg mb s.heap) (ho : (hd.heap_39 w.params).lookup f = some ⟨oc, od, .func (fnOf name qual params body scope dV kV doc pm an cdv ct), osl⟩) (hcd : codeIn (hd.heap_39 w.params) cdv qual = true)
    (hroom : A.depth < recursionLimit) (hbind : BindsTo s (fnOf name qual params body scope dV kV doc pm an cdv ct) ⟨args, []⟩ binds) (hloc : ∀ y ∈ binds, scope.names.lookup y.1 = some .local)
    (hco : scope.isCoroutine = false) (hgen : scope.isGenerator = false) (hk : scope.kind = .function) (hcell : ∀ x ∈ scope.names, x.2 ≠ .cell)
    (h : ∀ L h₁, Fr s.heap L h₁ (fun y => binds.reverse.lookup y) → News s.heap L h₁ [] → (hd.heap_39 w.params).In s.heap → Top hd.view_39 (looseW hd.view_39 [PySem.Str.ofString "PostError"]) mean mg mb s.heap →
      wpAny (model prog w) (A.deeper (envOf qual scope L f cdv)) (execs body (envOf qual scope L f cdv))
        (fun fl s' => Q (match fl with | .ret v => v | _ => .none) s')
        (fun e s' => wpAny (model prog w) (A.deeper (envOf qual scope L f cdv)) (leaving (envOf qual scope L f cdv) e) (fun _ s'' => E e s'') (fun e' s'' => E e' s'') s')
        { s with heap := h₁, toks := s.toks + binds.length }) :
    wpAny (model prog w) A (call (.ref f) args) Q E s := by
  refine wpAny_call (codeAny_call_def (fd := fnOf name qual params body scope dV kV doc pm an cdv ct) hroom (C.X _ _ ho) rfl C.T.nolimit (codeRec_of C.X hcd) rfl hbind hcell hloc (fun h₁ hns hk₁ => ?_) hco hgen hk)
  exact h _ h₁ ⟨hns, hk₁, Nat.le_refl _⟩ .nil C.X C.T
theorem Fr.grow {h₀ h h' : Heap} {L : Addr} {m : PySem.Str → Option Value} (F : Fr h₀ L h m) (k : Keeps h h') : Fr h₀ L h' m :=
  ⟨F.ns.keeps k, fun b o e => k b o (F.keep b o e), F.above⟩
theorem News.grow {h₀ h h' : Heap} {L : Addr} {news : List (Addr × Obj)} (N : News h₀ L h news) (k : Keeps h h') : News h₀ L h' news :=
  fun p hp => ⟨k _ _ (N p hp).1, (N p hp).2⟩
/-- a call whose doing is known is one step -/
theorem use {n : Nat} {R X : Value → Heap → Prop} {h₀ : Heap} {L : Addr} {m : PySem.Str → Option Value} {news : List (Addr × Obj)}
    (D : Cx w mean mg mb s.heap → Does prog w n f args s R X) (F : Fr h₀ L s.heap m) (N : News h₀ L s.heap news) (X₀ : (hd.heap_39 w.params).In h₀)
    (T : Top hd.view_39 (looseW hd.view_39 [PySem.Str.ofString "PostError"]) mean mg mb h₀) (h1 : A.handled = none) (h2 : A.depth ≤ 900 - 10 * n) (h3 : A.units ≤ 9000 - 100 * n)
    (hR : ∀ v h' tk', Fr h₀ L h' m → News h₀ L h' news → Keeps s.heap h' → R v h' → Q v { s with heap := h', toks := tk' })
    (hX : ∀ e h' tk', Fr h₀ L h' m → News h₀ L h' news → Keeps s.heap h' → X e h' → E e { s with heap := h', toks := tk' }) :
    wpAny (model prog w) A (call (.ref f) args) Q E s :=
  to_lev (D ⟨X₀.keeps F.keep, T.keeps F.keep⟩ Q E (fun v h' tk' k r => hR v h' tk' (Mine.Fr.grow F k) (Mine.News.grow N k) k r) fun e h' tk' k x => hX e h' tk' (Mine.Fr.grow F k) (Mine.News.grow N k) k x) h1 h2 h3
end
section
variable {prog : Program} {w : World} {A : Around} {E : Value → Shared → Prop} {s : Shared} {h₀ : Heap} {L : Addr} {m : PySem.Str → Option Value} {env : Env}
  {elt : PySem.Expr} {x : PySem.Str} {scope : Scope} {cl : List (PySem.Str × Addr)} {Q : Value → Shared → Prop}
/-- an element's end: what stood among the made objects stands, and the value is as G says -/
noncomputable def CTurn (h₀ : Heap) (L : Addr) (m : PySem.Str → Option Value) (s₂ : Shared) (led : List (Addr × Obj)) (G : Value → Prop) (y : Value) (s' : Shared) : Prop :=
  ∃ h' tk' nw, s' = { s₂ with heap := h', toks := tk' } ∧ Fr h₀ L h' m ∧ News h₀ L h' nw ∧ (∀ p ∈ led, p ∈ nw) ∧ G y
theorem CTurn.intro {s₂ : Shared} {led nw : List (Addr × Obj)} {G : Value → Prop} {y : Value} {h' : Heap} {tk' : Nat} (F : Fr h₀ L h' m) (N : News h₀ L h' nw) (hs : ∀ p ∈ led, p ∈ nw) (g : G y) :
    CTurn h₀ L m s₂ led G y { s₂ with heap := h', toks := tk' } := ⟨h', tk', nw, rfl, F, N, hs, g⟩
/-- a list comprehension over any iterator: each element's evaluation leaves what stood as it stood -/
noncomputable def CompIter (prog : Program) (w : World) (A : Around) (h₀ : Heap) (L : Addr) (m : PySem.Str → Option Value) (env : Env) (elt : PySem.Expr) (x : PySem.Str) (scope : Scope) (cl : List (PySem.Str × Addr)) (Q : Value → Shared → Prop) (it : Value) (s₂ : Shared) : Prop :=
  ∃ (I : Addr) (fp : List Addr) (n : Nat) (P : Nat → Value → Prop) (St : Nat → Heap → Prop) (news : List (Addr × Obj)) (G : Nat → Value → Prop),
    it = .ref I ∧ Walks prog w A I fp [I] n P St ∧ n ≤ sizeLine ∧ (∀ i h, St i h → ∃ o, h.get? I = some o) ∧
    (∀ i h h' o nw, St i h → h.get? I = some o → h'.get? I = some o → (∀ b o, h₀.get? b = some o → h'.get? b = some o) → News h₀ L h' nw → (∀ p ∈ news, p ∈ nw) → St i h') ∧
    St 0 s₂.heap ∧ (∀ b ∈ fp, b < s₂.heap.objs.size) ∧ Fr h₀ L s₂.heap m ∧ News h₀ L s₂.heap news ∧ L ≠ I ∧ h₀.get? I = none ∧ (∀ p ∈ news, p.1 ≠ I) ∧
    (∀ i v I oI C oC D m₂ ys h tk (E' : Value → Shared → Prop), i < n → P i v → LCg.NsObj oC m₂ → m₂ x = some v → Fr h₀ L h m → News h₀ L h ((I, oI) :: (C, oC) :: (D, LCg.lst ys) :: news) → LCg.Off3 I C D news →
      ((@Ne Nat I C) ∧ (@Ne Nat I D) ∧ (@Ne Nat C D)) →
      wpAny (model prog w) A (eval elt (compEnvC scope cl C env)) (CTurn h₀ L m s₂ ((I, oI) :: (C, oC) :: (D, LCg.lst ys) :: news) (G i)) E' { s₂ with heap := h, toks := tk }) ∧
    (∀ D ys h tk, Fr h₀ L h m → News h₀ L h ((D, LCg.lst ys) :: news) → LCg.Off1 D news → ys.length = n → (∀ i, i < n → ∃ y, ys[i]? = some y ∧ G i y) → Q (.ref D) { s₂ with heap := h, toks := tk })
theorem compRest_of {s₂ : Shared} {n : Nat} {P : Nat → Value → Prop} {news : List (Addr × Obj)} {G : Nat → Value → Prop} {Fin : List Value → List (Addr × Obj) → Prop}
    (turn : ∀ i v I oI C oC D m₂ ys h tk (E' : Value → Shared → Prop), i < n → P i v → LCg.NsObj oC m₂ → m₂ x = some v → Fr h₀ L h m → News h₀ L h ((I, oI) :: (C, oC) :: (D, LCg.lst ys) :: news) → LCg.Off3 I C D news →
      ((@Ne Nat I C) ∧ (@Ne Nat I D) ∧ (@Ne Nat C D)) →
      wpAny (model prog w) A (eval elt (compEnvC scope cl C env)) (CTurn h₀ L m s₂ ((I, oI) :: (C, oC) :: (D, LCg.lst ys) :: news) (G i)) E' { s₂ with heap := h, toks := tk })
    (fin : ∀ ys, ys.length = n → (∀ i, i < n → ∃ y, ys[i]? = some y ∧ G i y) → Fin ys news) :
    ∀ (k i : Nat) (ys : List Value), i + k = n → ys.length = i → (∀ j, j < i → ∃ y, ys[j]? = some y ∧ G j y) →
      LCg.CompRest prog w A h₀ L m env elt x scope cl s₂ (fun nw => ∀ p ∈ news, p ∈ nw) P Fin k i ys news := by
  intro k
  induction k with
  | zero =>
    intro i ys hi hl hy
    have : i = n := by omega
    subst this
    exact LCg.CompRest.zero (fin ys hl hy)
  | succ k ih =>
    intro i ys hi hl hy
    refine LCg.CompRest.succ ?_
    intro v I oI C oC D m₂ h tk E' hv hC hx F N off ne
    refine wpAny_mono (turn i v I oI C oC D m₂ ys h tk E' (by omega) hv hC hx F N off ne) (fun y s₂ hq => ?_) fun _ _ e => e
    obtain ⟨h', tk', nw, rfl, F', N', hs, g⟩ := hq
    refine ⟨h', tk', news, rfl, F', fun p hp => N' p (hs p hp), off, fun _ hp => hp, ?_⟩
    refine ih (i + 1) _ (by omega) (by simp [hl]) fun j hj => ?_
    by_cases e : j < i
    · obtain ⟨z, hz, gz⟩ := hy j e
      refine ⟨z, ?_, gz⟩
      rw [List.getElem?_append_left (by omega)]
      exact hz
    · have : j = i := by omega
      subst this
      exact ⟨y, by rw [List.getElem?_append_right (by omega)]; simp [hl], g⟩
theorem listComp_any {iter : PySem.Expr} {px : Pos} {pos : Pos} (_F₀ : Fr h₀ L s.heap m)
    (hclos : closureFor scope env = pure cl) (hcell : ∀ y ∈ scope.names, y.2 ≠ .cell) (hkind : scope.kind = .function)
    (hnames : ∀ y ∈ scope.names, y.2 = .local → scope.names.lookup y.1 = some .local) (hx : scope.names.lookup x = some .local)
    (h : wpAny (model prog w) A (eval iter env) (fun xv s₁ => wpAny (model prog w) A (pyIter xv) (CompIter prog w A h₀ L m env elt x scope cl Q) E s₁) E s)
    (hs : ∀ x, foldedSetIterable iter env x = pure x) :
    wpAny (model prog w) A (eval (.ListComp elt [⟨.Name x px, iter, [], 0⟩] scope pos) env) Q E s := by
  rw [eval_ListComp]
  refine wpAny_comprehension_free (use := none) rfl hs hclos hkind hnames (wpAny_mono h (fun xv s₁ h₁ => wpAny_mono h₁ (fun it s₂ h₂ => ?_) fun _ _ e => e) fun _ _ e => e)
  obtain ⟨I, fp, n, P, St, news, G, rfl, W, hsz, hIo, hSt, hst, hfp, F, N, hLI, hI0, off, turn, fin⟩ := h₂
  refine LCg.block_U (S := fun nw => ∀ p ∈ news, p ∈ nw) (Fin := fun ys nw => nw = news ∧ ys.length = n ∧ ∀ i, i < n → ∃ y, ys[i]? = some y ∧ G i y) W hsz hIo (fun i h h' o nw a b c d e f => hSt i h h' o nw a b c d e f) hcell hkind hx hst hfp F N hLI hI0 off (fun _ hp => hp)
    (compRest_of turn (fun ys hl hy => ⟨rfl, hl, hy⟩) n 0 [] (by omega) rfl (fun j hj => absurd hj (Nat.not_lt_zero _))) ?_
  intro D C h tk m' ys news' F' N' o1 hn hC₀ hD₀ hCL hDL hCD offC fn
  obtain ⟨rfl, hl, hy⟩ := fn
  refine ⟨m', hn, fun h'' hs'' => fin D ys h'' tk (F'.change hs'' hCL hC₀) (fun p hp => ?_) o1 hl hy⟩
  refine ⟨hs''.extBut _ _ ?_ (N' p hp).1, (N' p hp).2⟩
  rcases List.mem_cons.mp hp with rfl | hp
  · exact Ne.symm hCD
  · exact offC p hp
/-- the signs of a text -/
theorem compIter_str {xs : PySem.Str} {t : Tok} {news : List (Addr × Obj)} (G : Nat → Value → Prop) (hh : A.handled = none) (F : Fr h₀ L s.heap m) (N : News h₀ L s.heap news) (hsz : xs.length ≤ sizeLine)
    (turn : ∀ i c u I oI C oC D m₂ ys h tk (E' : Value → Shared → Prop), xs.cps[i]? = some c → LCg.NsObj oC m₂ → m₂ x = some (.str ⟨#[c]⟩ u) → Fr h₀ L h m → News h₀ L h ((I, oI) :: (C, oC) :: (D, LCg.lst ys) :: news) → LCg.Off3 I C D news →
      ((@Ne Nat I C) ∧ (@Ne Nat I D) ∧ (@Ne Nat C D)) →
      wpAny (model prog w) A (eval elt (compEnvC scope cl C env)) (CTurn h₀ L m s ((I, oI) :: (C, oC) :: (D, LCg.lst ys) :: news) (G i)) E' { s with heap := h, toks := tk })
    (done : ∀ D ys h tk, Fr h₀ L h m → News h₀ L h ((D, LCg.lst ys) :: news) → ys.length = xs.length → (∀ i, i < xs.length → ∃ y, ys[i]? = some y ∧ G i y) → Q (.ref D) { s with heap := h, toks := tk }) :
    wpAny (model prog w) A (pyIter (.str xs t)) (CompIter prog w A h₀ L m env elt x scope cl Q) E s := by
  have key : ∀ (nm : String) (o : Obj), (s.heap.push o).IsStrIter s.heap.objs.size nm xs t 0 → o.isFreed = false →
      Walks prog w A s.heap.objs.size [s.heap.objs.size] [s.heap.objs.size] xs.cps.size (SignAt xs) (fun i h => h.IsStrIter s.heap.objs.size nm xs t i) →
      CompIter prog w A h₀ L m env elt x scope cl Q (.ref s.heap.objs.size) { s with heap := s.heap.push o } := by
    intro nm o hst hfree W
    refine ⟨_, _, _, _, _, news, G, rfl, W, hsz, (fun i h st => by obtain ⟨o, e, _⟩ := st; exact ⟨o, e⟩), (fun i h h' o nw st e e' _ _ _ => by obtain ⟨o', q, r⟩ := st; rw [e] at q; cases q; exact ⟨o, e', r⟩), hst, ?_, F.push _, ?_, Nat.ne_of_lt F.ns.lt, next_is_new F, (fun p hp => Nat.ne_of_lt (Heap.lt_size (N p hp).1)), ?_, ?_⟩
    · intro b hb
      rw [List.mem_singleton.mp hb]
      show s.heap.objs.size < (s.heap.push o).objs.size
      rw [Heap.size_push]
      exact Nat.lt_succ_self _
    · exact fun p hp => ⟨Heap.get?_push_of_some _ (N p hp).1, (N p hp).2⟩
    · intro i v I oI C oC D m₂ ys h tk E' _ hv hC hm F' N' off ne
      obtain ⟨c, u, hc, rfl⟩ := hv
      exact turn i c u I oI C oC D m₂ ys h tk E' hc hC hm F' N' off ne
    · exact fun D ys h tk F' N' _ hl hy => done D ys h tk F' N' hl hy
  cases ha : xs.cps.all (· < 128)
  · exact wpAny_pyIter_wide ha (key _ _ ⟨_, Heap.get?_push_size _ rfl, rfl, rfl⟩ rfl (Walks.strWide hh _ xs t))
  · exact wpAny_pyIter_ascii ha (key _ _ ⟨_, Heap.get?_push_size _ rfl, rfl, rfl⟩ rfl (Walks.strAscii hh _ xs t))
end
section
variable {prog : Program} {w : World} {A : Around} {E : Value → Shared → Prop} {s : Shared} {h₀ : Heap} {L : Addr} {m : PySem.Str → Option Value} {env : Env}
  {elt : PySem.Expr} {x : PySem.Str} {scope : Scope} {cl : List (PySem.Str × Addr)} {Q : Value → Shared → Prop}
/-- the numbers of a range -/
theorem compIter_range {r : Addr} {a b c : Int} {t u v : Tok} {n : Nat} {news : List (Addr × Obj)} (G : Nat → Value → Prop) (hh : A.handled = none) (hr : IsRange s.heap r a b c t u v) (hsm : Builtin.Range.small a b c = true)
    (hn : Builtin.Range.rangeSize a b c = ((n : Nat) : Int)) (F : Fr h₀ L s.heap m) (N : News h₀ L s.heap news) (hsz : n ≤ sizeLine)
    (turn : ∀ i k I oI C oC D m₂ ys h tk (E' : Value → Shared → Prop), i < n → LCg.NsObj oC m₂ → m₂ x = some (.int (a + (i : Int) * c) k) → Fr h₀ L h m → News h₀ L h ((I, oI) :: (C, oC) :: (D, LCg.lst ys) :: news) → LCg.Off3 I C D news →
      ((@Ne Nat I C) ∧ (@Ne Nat I D) ∧ (@Ne Nat C D)) →
      wpAny (model prog w) A (eval elt (compEnvC scope cl C env)) (CTurn h₀ L m s ((I, oI) :: (C, oC) :: (D, LCg.lst ys) :: news) (G i)) E' { s with heap := h, toks := tk })
    (done : ∀ D ys h tk, Fr h₀ L h m → News h₀ L h ((D, LCg.lst ys) :: news) → ys.length = n → (∀ i, i < n → ∃ y, ys[i]? = some y ∧ G i y) → Q (.ref D) { s with heap := h, toks := tk }) :
    wpAny (model prog w) A (pyIter (.ref r)) (CompIter prog w A h₀ L m env elt x scope cl Q) E s := by
  refine wpAny_pyIter_range hr hsm ?_
  refine ⟨_, _, _, _, _, news, G, rfl, Walks.range hh s.heap.objs.size a c n, hsz, (fun i h st => ⟨_, st⟩), (fun i h h' o nw st e e' _ _ _ => by have st' : h.get? s.heap.objs.size = some _ := st; show h'.get? _ = some _; rw [e', ← e]; exact st'),
    (by show IsRangeIter _ _ _ _ _; rw [hn]; simpa using Heap.get?_push_size _ rfl), ?_, F.push _, ?_, Nat.ne_of_lt F.ns.lt, next_is_new F, (fun p hp => Nat.ne_of_lt (Heap.lt_size (N p hp).1)), ?_, ?_⟩
  · intro b hb
    rw [List.mem_singleton.mp hb]
    show s.heap.objs.size < (s.heap.push _).objs.size
    rw [Heap.size_push]
    exact Nat.lt_succ_self _
  · exact fun p hp => ⟨Heap.get?_push_of_some _ (N p hp).1, (N p hp).2⟩
  · intro i v I oI C oC D m₂ ys h tk E' hi hv hC hm F' N' off ne
    obtain ⟨k, rfl⟩ := hv
    exact turn i k I oI C oC D m₂ ys h tk E' hi hC hm F' N' off ne
  · exact fun D ys h tk F' N' _ hl hy => done D ys h tk F' N' hl hy
/-- the items of a list that the call has made -/
theorem compIter_list {ax : Addr} {its : Array Value} {k : Nat} {news : List (Addr × Obj)} (G : Nat → Value → Prop) (hh : A.handled = none) (F : Fr h₀ L s.heap m) (N : News h₀ L s.heap news) (hm : (ax, ({ cls := .type "list", data := .seq its k } : Obj)) ∈ news) (hsz : its.size ≤ sizeLine)
    (turn : ∀ i v I oI C oC D m₂ ys h tk (E' : Value → Shared → Prop), its[i]? = some v → LCg.NsObj oC m₂ → m₂ x = some v → Fr h₀ L h m → News h₀ L h ((I, oI) :: (C, oC) :: (D, LCg.lst ys) :: news) → LCg.Off3 I C D news →
      ((@Ne Nat I C) ∧ (@Ne Nat I D) ∧ (@Ne Nat C D)) →
      wpAny (model prog w) A (eval elt (compEnvC scope cl C env)) (CTurn h₀ L m s ((I, oI) :: (C, oC) :: (D, LCg.lst ys) :: news) (G i)) E' { s with heap := h, toks := tk })
    (done : ∀ D ys h tk, Fr h₀ L h m → News h₀ L h ((D, LCg.lst ys) :: news) → ys.length = its.size → (∀ i, i < its.size → ∃ y, ys[i]? = some y ∧ G i y) → Q (.ref D) { s with heap := h, toks := tk }) :
    wpAny (model prog w) A (pyIter (.ref ax)) (CompIter prog w A h₀ L m env elt x scope cl Q) E s := by
  have hl : s.heap.IsList ax its := ⟨_, (N _ hm).1, rfl, _, rfl⟩
  have hlt : ax < s.heap.objs.size := Heap.lt_size (N _ hm).1
  refine wpAny_pyIter_list hl ?_
  refine ⟨_, _, _, _, _, news, G, rfl, Walks.list hh s.heap.objs.size ax (Nat.ne_of_lt hlt) its, hsz, (fun i h st => by obtain ⟨o, e, _⟩ := st.1; exact ⟨o, e⟩), (fun i h h' o nw st e e' _ N' sub => ⟨by obtain ⟨o', q, r⟩ := st.1; rw [e] at q; cases q; exact ⟨o, e', r⟩, ⟨_, (N' _ (sub _ hm)).1, rfl, _, rfl⟩⟩),
    ⟨⟨_, Heap.get?_push_size _ rfl, rfl, rfl⟩, hl.push _⟩, ?_, F.push _, ?_, Nat.ne_of_lt F.ns.lt, next_is_new F, (fun p hp => Nat.ne_of_lt (Heap.lt_size (N p hp).1)), ?_, ?_⟩
  · intro b hb
    show b < (s.heap.push _).objs.size
    rw [Heap.size_push]
    rcases List.mem_cons.mp hb with rfl | hb
    · exact Nat.lt_succ_self _
    · rw [List.mem_singleton.mp hb]; exact Nat.lt_succ_of_lt hlt
  · exact fun p hp => ⟨Heap.get?_push_of_some _ (N p hp).1, (N p hp).2⟩
  · intro i v I oI C oC D m₂ ys h tk E' hi hv hC hm F' N' off ne
    exact turn i v I oI C oC D m₂ ys h tk E' hv hC hm F' N' off ne
  · exact fun D ys h tk F' N' _ hl hy => done D ys h tk F' N' hl hy
end
section
variable {prog : Program} {w : World} {A : Around} {E : Value → Shared → Prop} {s : Shared} {h₀ : Heap} {env : Env} {x : PySem.Str} {body : List Stmt} {Q : Flow → Shared → Prop}
theorem Fr.named {h : Heap} {L : Addr} {m : PySem.Str → Option Value} (F : Fr h₀ L h m) (ps : List (PySem.Str × Value)) (hp : ∀ p ∈ ps, m p.1 = some p.2) : Fr h₀ L h (kstB m ps) := by
  have e : kstB m ps = m := funext fun z => kstB_eq hp fun _ => rfl
  rw [e]
  exact F
/-- a loop over a range, by what holds of the frame and the made objects -/
theorem loop_range {r : Addr} {a b c : Int} {t u v : Tok} {n : Nat} {m₀ : PySem.Str → Option Value} {news : List (Addr × Obj)} (J : Nat → (PySem.Str → Option Value) → List (Addr × Obj) → Prop)
    (hh : A.handled = none) (hr : IsRange s.heap r a b c t u v) (hsm : Builtin.Range.small a b c = true) (hn : Builtin.Range.rangeSize a b c = ((n : Nat) : Int)) (F : Fr h₀ env.locals s.heap m₀) (N : News h₀ env.locals s.heap news) (hj : J 0 m₀ news)
    (turn : ∀ i k m₁ news₁ h tk own, i < n → news₁.map (·.1) = news.map (·.1) → OwnOff own (news.map (·.1)) → J i m₁ news₁ → Fr h₀ env.locals h (fun y => if y = x then some (.int (a + (i : Int) * c) k) else m₁ y) → News h₀ env.locals h (news₁ ++ own) →
      wpAny (model prog w) A (execs body env) (InvPostN h₀ env.locals (J (i + 1)) own (news.map (·.1)) { s with heap := h, toks := tk } Q) E { s with heap := h, toks := tk })
    (done : ∀ m₁ news₁ h tk, J n m₁ news₁ → Fr h₀ env.locals h m₁ → News h₀ env.locals h news₁ → Q .next { s with heap := h, toks := tk }) :
    wpAny (model prog w) A (pyIter (.ref r)) (fun it s₂ => LoopAtV prog w A h₀ env x body Q E it s₂) E s := by
  refine wpAny_pyIter_range hr hsm ?_
  refine loop_invN J (Walks.range (prog := prog) (w := w) hh s.heap.objs.size a c n) ?_ ?_ ?_ ?_ (by show IsRangeIter _ _ _ _ _; rw [hn]; simpa using Heap.get?_push_size _ rfl) (F.push _) (fun p hp => ⟨Heap.get?_push_of_some _ (N p hp).1, (N p hp).2⟩) hj ?_ ?_
  · intro hm
    exact absurd F.ns.lt ((List.mem_singleton.mp hm) ▸ Nat.lt_irrefl _)
  · intro b hb
    rw [List.mem_singleton.mp hb]
    exact next_is_new F
  · intro p hp hI
    exact absurd (Heap.lt_size (N p hp).1) ((List.mem_singleton.mp hI) ▸ Nat.lt_irrefl _)
  · intro p hp hI
    exact absurd (Heap.lt_size (N p hp).1) ((List.mem_singleton.mp hI) ▸ Nat.lt_irrefl _)
  · rintro i v m₁ nx h tk own hi ⟨k, rfl⟩ ha hoff hJ F₁ N₁
    exact turn i k m₁ nx h tk own hi ha hoff hJ F₁ N₁
  · exact fun m₁ nx h tk hJ F₁ N₁ => done m₁ nx h tk hJ F₁ N₁
/-- a loop over bytes -/
theorem loop_bytes {b : Array UInt8} {tb : Tok} {m₀ : PySem.Str → Option Value} {news : List (Addr × Obj)} (J : Nat → (PySem.Str → Option Value) → List (Addr × Obj) → Prop)
    (hh : A.handled = none) (F : Fr h₀ env.locals s.heap m₀) (N : News h₀ env.locals s.heap news) (hj : J 0 m₀ news)
    (turn : ∀ i c k m₁ news₁ h tk own, b[i]? = some c → news₁.map (·.1) = news.map (·.1) → OwnOff own (news.map (·.1)) → J i m₁ news₁ → Fr h₀ env.locals h (fun y => if y = x then some (.int (c.toNat : Int) k) else m₁ y) → News h₀ env.locals h (news₁ ++ own) →
      wpAny (model prog w) A (execs body env) (InvPostN h₀ env.locals (J (i + 1)) own (news.map (·.1)) { s with heap := h, toks := tk } Q) E { s with heap := h, toks := tk })
    (done : ∀ m₁ news₁ h tk, J b.size m₁ news₁ → Fr h₀ env.locals h m₁ → News h₀ env.locals h news₁ → Q .next { s with heap := h, toks := tk }) :
    wpAny (model prog w) A (pyIter (.bytes b tb)) (fun it s₂ => LoopAtV prog w A h₀ env x body Q E it s₂) E s := by
  refine KBw.pyIter_bytes ?_
  refine loop_invN J (KBw.walks (prog := prog) (w := w) hh s.heap.objs.size b tb) ?_ ?_ ?_ ?_ ⟨_, Heap.get?_push_size _ rfl, rfl, rfl⟩ (F.push _) (fun p hp => ⟨Heap.get?_push_of_some _ (N p hp).1, (N p hp).2⟩) hj ?_ ?_
  · intro hm
    exact absurd F.ns.lt ((List.mem_singleton.mp hm) ▸ Nat.lt_irrefl _)
  · intro b' hb
    rw [List.mem_singleton.mp hb]
    exact next_is_new F
  · intro p hp hI
    exact absurd (Heap.lt_size (N p hp).1) ((List.mem_singleton.mp hI) ▸ Nat.lt_irrefl _)
  · intro p hp hI
    exact absurd (Heap.lt_size (N p hp).1) ((List.mem_singleton.mp hI) ▸ Nat.lt_irrefl _)
  · rintro i v m₁ nx h tk own hi ⟨c, k, hc, rfl⟩ ha hoff hJ F₁ N₁
    exact turn i c k m₁ nx h tk own hc ha hoff hJ F₁ N₁
  · exact fun m₁ nx h tk hJ F₁ N₁ => done m₁ nx h tk hJ F₁ N₁
end
section
variable {prog : Program} {w : World} {A : Around} {E : Value → Shared → Prop} {s : Shared} {h₀ : Heap} {env : Env} {x : PySem.Str} {body : List Stmt} {Q : Flow → Shared → Prop}
/-- a loop over a list that stood before the call -/
theorem loop_list {ax : Addr} {its : Array Value} {m₀ : PySem.Str → Option Value} {news : List (Addr × Obj)} (J : Nat → (PySem.Str → Option Value) → List (Addr × Obj) → Prop)
    (hh : A.handled = none) (hl : h₀.IsList ax its) (F : Fr h₀ env.locals s.heap m₀) (N : News h₀ env.locals s.heap news) (hj : J 0 m₀ news)
    (turn : ∀ i v m₁ news₁ h tk own, its[i]? = some v → news₁.map (·.1) = news.map (·.1) → OwnOff own (news.map (·.1)) → J i m₁ news₁ → Fr h₀ env.locals h (fun y => if y = x then some v else m₁ y) → News h₀ env.locals h (news₁ ++ own) →
      wpAny (model prog w) A (execs body env) (InvPostN h₀ env.locals (J (i + 1)) own (news.map (·.1)) { s with heap := h, toks := tk } Q) E { s with heap := h, toks := tk })
    (done : ∀ m₁ news₁ h tk, J its.size m₁ news₁ → Fr h₀ env.locals h m₁ → News h₀ env.locals h news₁ → Q .next { s with heap := h, toks := tk }) :
    wpAny (model prog w) A (pyIter (.ref ax)) (fun it s₂ => LoopAtV prog w A h₀ env x body Q E it s₂) E s := by
  have hls : s.heap.IsList ax its := hl.at fun o e => F.keep ax o e
  obtain ⟨ol, hol, _⟩ := id hl
  have hlt : ax < h₀.objs.size := Heap.lt_size hol
  have hne : ax ≠ s.heap.objs.size := Nat.ne_of_lt (Nat.lt_trans (Nat.lt_of_lt_of_le hlt F.above) F.ns.lt)
  refine wpAny_pyIter_list hls ?_
  refine loop_invN J (Walks.list (prog := prog) (w := w) hh s.heap.objs.size ax hne its) ?_ ?_ ?_ ?_ ⟨⟨_, Heap.get?_push_size _ rfl, rfl, rfl⟩, hls.at fun o e => Heap.get?_push_of_some _ e⟩ (F.push _) (fun p hp => ⟨Heap.get?_push_of_some _ (N p hp).1, (N p hp).2⟩) hj ?_ ?_
  · intro hm
    rcases List.mem_cons.mp hm with e | hm
    · exact absurd F.ns.lt (e ▸ Nat.lt_irrefl _)
    · exact absurd (Nat.lt_of_lt_of_le hlt F.above) ((List.mem_singleton.mp hm) ▸ Nat.lt_irrefl _)
  · intro b' hb
    rw [List.mem_singleton.mp hb]
    exact next_is_new F
  · intro p hp hI
    exact absurd (Heap.lt_size (N p hp).1) ((List.mem_singleton.mp hI) ▸ Nat.lt_irrefl _)
  · intro p hp hI
    rcases List.mem_cons.mp hI with e | hm
    · exact absurd (Heap.lt_size (N p hp).1) (e ▸ Nat.lt_irrefl _)
    · have := (N p hp).2.2
      rw [List.mem_singleton.mp hm, hol] at this
      cases this
  · rintro i v m₁ nx h tk own hi hv ha hoff hJ F₁ N₁
    exact turn i v m₁ nx h tk own hv ha hoff hJ F₁ N₁
  · exact fun m₁ nx h tk hJ F₁ N₁ => done m₁ nx h tk hJ F₁ N₁
/-- a loop over a list that the call has made: it stays among the made objects -/
theorem loop_made {ax : Addr} {its : Array Value} {k : Nat} {m₀ : PySem.Str → Option Value} {news : List (Addr × Obj)} (J : Nat → (PySem.Str → Option Value) → List (Addr × Obj) → Prop)
    (hh : A.handled = none) (hm : (ax, ({ cls := .type "list", data := .seq its k } : Obj)) ∈ news) (F : Fr h₀ env.locals s.heap m₀) (N : News h₀ env.locals s.heap news) (hj : J 0 m₀ news)
    (hstay : ∀ i m' nx, J i m' nx → (ax, ({ cls := .type "list", data := .seq its k } : Obj)) ∈ nx)
    (turn : ∀ i v m₁ news₁ h tk own, its[i]? = some v → news₁.map (·.1) = news.map (·.1) → OwnOff own (news.map (·.1)) → J i m₁ news₁ → Fr h₀ env.locals h (fun y => if y = x then some v else m₁ y) → News h₀ env.locals h (news₁ ++ own) →
      wpAny (model prog w) A (execs body env) (InvPostN h₀ env.locals (J (i + 1)) own (news.map (·.1)) { s with heap := h, toks := tk } Q) E { s with heap := h, toks := tk })
    (done : ∀ m₁ news₁ h tk, J its.size m₁ news₁ → Fr h₀ env.locals h m₁ → News h₀ env.locals h news₁ → Q .next { s with heap := h, toks := tk }) :
    wpAny (model prog w) A (pyIter (.ref ax)) (fun it s₂ => LoopAtV prog w A h₀ env x body Q E it s₂) E s := by
  have hol := (N _ hm).1
  have hls : s.heap.IsList ax its := ⟨_, hol, rfl, k, rfl⟩
  have hne : ax ≠ s.heap.objs.size := Nat.ne_of_lt (Heap.lt_size hol)
  refine wpAny_pyIter_list hls ?_
  have W := Walks.list (prog := prog) (w := w) hh s.heap.objs.size ax hne its
  refine ⟨_, _, _, its.size, _, _, m₀, news, (fun i m' nx => nx.map (·.1) = news.map (·.1) ∧ J i m' nx), rfl, W, ?_, ?_, ?_, ⟨⟨_, Heap.get?_push_size _ rfl, rfl, rfl⟩, hls.at fun o e => Heap.get?_push_of_some _ e⟩, F.push _, (fun p hp => ⟨Heap.get?_push_of_some _ (N p hp).1, (N p hp).2⟩), ⟨rfl, hj⟩, ?_, ?_⟩
  · intro hm'
    rcases List.mem_cons.mp hm' with e | hm'
    · exact absurd F.ns.lt (e ▸ Nat.lt_irrefl _)
    · exact (N _ hm).2.1 (List.mem_singleton.mp hm').symm
  · intro b hb
    rw [List.mem_singleton.mp hb]
    exact next_is_new F
  · intro p hp hI
    exact absurd (Heap.lt_size (N p hp).1) ((List.mem_singleton.mp hI) ▸ Nat.lt_irrefl _)
  · rintro i v m₁ news₁ s₁ own ⟨hg, tk', rfl⟩ hin hP ⟨hadr, hJ⟩ _ hown hget _ _ F₁ N₁
    have hl₁ := hstay _ _ _ hJ
    have hlo := (N₁ _ (List.mem_append.mpr (.inr hl₁))).1
    have low : ∀ q : Addr × Obj, q.1 ∈ news.map (·.1) → q.1 ≠ s.heap.objs.size := fun q hq e => by
      obtain ⟨q', hq', e'⟩ := List.mem_map.mp hq
      exact absurd (Heap.lt_size (N q' hq').1) (by rw [e', e]; exact Nat.lt_irrefl _)
    refine wpAny_mono (turn i v m₁ news₁ hg tk' (own.filter fun p => decide (p.1 = s.heap.objs.size)) hP hadr ?_ hJ F₁ fun p hp => N₁ p ?_) (fun f s₂ p => ?_) fun _ _ e => e
    · intro p hp b hb e
      have h1 : p.1 = s.heap.objs.size := by simpa using (List.mem_filter.mp hp).2
      exact low p (e ▸ hb) h1
    · rcases List.mem_append.mp hp with h | h
      · exact List.mem_append.mpr (.inr h)
      · exact List.mem_append.mpr (.inl (List.mem_filter.mp h).1)
    have fin : InvEndN h₀ env.locals (J (i + 1)) (own.filter fun p => decide (p.1 = s.heap.objs.size)) (news.map (·.1)) { s with heap := hg, toks := tk' } s₂ →
        LoopStepU h₀ env.locals [s.heap.objs.size] own (fun m nx => nx.map (·.1) = news.map (·.1) ∧ J (i + 1) m nx) { s with heap := hg, toks := tk' } .next s₂ := by
      rintro ⟨h', tk, m', news', nx, e, F', N', hn, ho, ha, hm'⟩
      refine ⟨rfl, h', tk, m', nx, e, F', fun p hp => ?_, fun p hp hI => ?_, ha, hm'⟩
      · rcases List.mem_append.mp hp with h | h
        · by_cases hI : p.1 = s.heap.objs.size
          · exact N' p (ho p (List.mem_filter.mpr ⟨h, by simpa using hI⟩))
          · have h1 : p.1 = ax := by
              rcases List.mem_cons.mp (hown p h) with h2 | h2
              · exact absurd h2 hI
              · exact List.mem_singleton.mp h2
            have h2 := hget p h
            simp only at h2
            rw [h1, hlo] at h2
            rw [show p = (ax, _) from Prod.ext h1 (Option.some.inj h2).symm]
            exact N' _ (hn _ (hstay _ _ _ hm'))
        · exact N' p (hn p h)
      · exact low p (ha ▸ List.mem_map.mpr ⟨p, hp, rfl⟩) (List.mem_singleton.mp hI)
    cases f with
    | ret v => exact .ret p
    | brk => exact .brk p
    | next => exact .next (fin p)
    | cont => exact .cont (fin p)
  · rintro h' tk m' news' F' N' _ ⟨_, hJ⟩
    exact done m' news' h' tk hJ F' N'
end
section
variable {prog : Program} {w : World} {A : Around} {E : Value → Shared → Prop} {s : Shared} {h₀ : Heap} {env : Env} {test : PySem.Expr} {body : List Stmt} {Q : Flow → Shared → Prop}
/-- a turn's end: the word holds at a lower measure -/
noncomputable def WNext {ι : Type} (h₀ : Heap) (L : Addr) (J : ι → (PySem.Str → Option Value) → List (Addr × Obj) → Prop) (μ : ι → Nat) (i : ι) (s s' : Shared) : Prop :=
  ∃ j h' tk' m' news', s' = { s with heap := h', toks := tk' } ∧ Fr h₀ L h' m' ∧ News h₀ L h' news' ∧ μ j < μ i ∧ J j m' news'
noncomputable def WEnd {ι : Type} (h₀ : Heap) (L : Addr) (J : ι → (PySem.Str → Option Value) → List (Addr × Obj) → Prop) (μ : ι → Nat) (i : ι) (s : Shared) (Q : Flow → Shared → Prop) (f : Flow) (s' : Shared) : Prop :=
  match f with
  | .ret v => Q (.ret v) s'
  | .brk => Q .next s'
  | _ => WNext h₀ L J μ i s s'
theorem WNext.intro {ι : Type} {L : Addr} {J : ι → (PySem.Str → Option Value) → List (Addr × Obj) → Prop} {μ : ι → Nat} {i : ι} {s : Shared} {h' : Heap} {tk' : Nat} {m' : PySem.Str → Option Value} {news' : List (Addr × Obj)} (j : ι)
    (F : Fr h₀ L h' m') (N : News h₀ L h' news') (hm : μ j < μ i) (hj : J j m' news') : WNext h₀ L J μ i s { s with heap := h', toks := tk' } := ⟨j, h', tk', m', news', rfl, F, N, hm, hj⟩
theorem while_by {ι : Type} {pos : Pos} {m : PySem.Str → Option Value} {news : List (Addr × Obj)} (J : ι → (PySem.Str → Option Value) → List (Addr × Obj) → Prop) (μ : ι → Nat) (i : ι)
    (F : Fr h₀ env.locals s.heap m) (N : News h₀ env.locals s.heap news) (hj : J i m news)
    (turn : ∀ j m₁ news₁ h tk, J j m₁ news₁ → Fr h₀ env.locals h m₁ → News h₀ env.locals h news₁ →
      wpAny (model prog w) A (isTrue test env (eval test env)) (fun b s₂ => if b = true then wpAny (model prog w) A (execs body env) (WEnd h₀ env.locals J μ j s Q) E s₂ else Q .next s₂) E { s with heap := h, toks := tk })
    (hE : PassesOwn (model prog w) A env E := by passes_own) :
    wpAny (model prog w) A (exec (.While test body [] pos) env) Q E s := by
  refine whl_start 0 ?_
  have key : ∀ n j m₁ news₁ h tk, μ j < n → J j m₁ news₁ → Fr h₀ env.locals h m₁ → News h₀ env.locals h news₁ → ∀ k, WhlRest prog w A E env test body [] Q (k + 1) { s with heap := h, toks := tk } := by
    intro n
    induction n with
    | zero => intro j m₁ news₁ h tk hn; exact absurd hn (Nat.not_lt_zero _)
    | succ n ih =>
      intro j m₁ news₁ h tk hn hJ F₁ N₁ k
      refine whl_turn hE (wpAny_mono (turn j m₁ news₁ h tk hJ F₁ N₁) (fun b s₂ h₂ => ?_) fun _ _ e => e)
      cases b with
      | false => exact WhlIf.no rfl (wpAny_execs_nil (by simpa using h₂))
      | true =>
        refine WhlIf.yes rfl ?_
        simp only [if_true] at h₂
        refine wpAny_mono h₂ (fun f s₃ h₃ => ?_) fun _ _ e => e
        have go : WNext h₀ env.locals J μ j s s₃ → WhlRest prog w A E env test body [] Q k s₃ := by
          rintro ⟨j', h', tk', m', news', rfl, F', N', hm, hj'⟩
          exact ih j' m' news' h' tk' (by omega) hj' F' N' k
        cases f with
        | next => exact go h₃
        | cont => exact go h₃
        | brk => exact h₃
        | ret v => exact h₃
  exact key (μ i + 1) i m news s.heap s.toks (Nat.lt_succ_self _) hj F N 0
end
theorem lit_slash : PySem.Str.ofString "/" = ⟨#[47]⟩ := by decide +kernel
/-- a text by its codes -/
@[reducible] noncomputable def S (l : List Nat) : PySem.Str := ⟨l.toArray⟩
theorem S_toList (l : List Nat) : (S l).cps.toList = l := by simp [S]
theorem S_of (x : PySem.Str) : x = S x.cps.toList := by cases x; simp [S]
theorem S_len (l : List Nat) : (S l).length = l.length := by simp [S, PySem.Str.length]
theorem S_app (a b : List Nat) : S a ++ S b = S (a ++ b) := by apply PySem.Str.ext'; simp [S, PySem.Str.cps_append]
theorem S_inj {a b : List Nat} (h : S a = S b) : a = b := by have := congrArg (fun s => s.cps.toList) h; simpa using this
theorem slice_to (l : List Nat) {n : Nat} (h : n ≤ l.length) : Txt.slice (S l) none (some (n : Int)) = S (l.take n) := by
  have := StrLaws.sliceText_to (x := S l) (j := n) (by rw [S_toList]; omega)
  show StrLaws.sliceText _ _ _ = _
  rw [this, S_toList]
  simp
theorem slice_from (l : List Nat) {n : Nat} (h : n ≤ l.length) : Txt.slice (S l) (some (n : Int)) none = S (l.drop n) := by
  have := StrLaws.sliceText_from (x := S l) (i := n) (by rw [S_toList]; omega)
  show StrLaws.sliceText _ _ _ = _
  rw [this, S_toList]
  congr 2
  rw [List.take_of_length_le]
  · rfl
  · simp only [List.length_drop, Int.toNat_natCast]; omega
noncomputable def hdp (l : List Nat) : List Nat := l.takeWhile (· != 47)
noncomputable def tlp (l : List Nat) : List Nat := l.dropWhile (· != 47)
theorem hd_tl (l : List Nat) : hdp l ++ tlp l = l := List.takeWhile_append_dropWhile
theorem cut_at {c : Nat} : ∀ {l : List Nat} {i : Nat}, l[i]? = some c → (∀ k, k < i → l[k]? ≠ some c) → l.takeWhile (· != c) = l.take i ∧ l.dropWhile (· != c) = l.drop i
  | [], i, h, _ => by simp at h
  | d :: r, 0, h, _ => by simp at h; subst h; simp
  | d :: r, i + 1, h, hn => by
    have h0 := hn 0 (Nat.succ_pos _)
    have hd : (d != c) = true := by simpa using h0
    have ⟨a, b⟩ := cut_at (c := c) (l := r) (i := i) (by simpa using h) (fun k hk => by have := hn (k + 1) (by omega); simpa using this)
    simp only [List.takeWhile_cons, List.dropWhile_cons, hd, if_true, a, b, List.take_succ_cons, List.drop_succ_cons]
    exact ⟨trivial, trivial⟩
theorem find_one (l : List Nat) (c : Nat) : (Txt.find (S l) ⟨#[c]⟩ = -1 ∧ c ∉ l) ∨ ∃ i : Nat, Txt.find (S l) ⟨#[c]⟩ = (i : Int) ∧ i < l.length ∧ l[i]? = some c ∧ ∀ k, k < i → l[k]? ≠ some c := by
  unfold Txt.find
  rcases StrLaws.occ_head (S l) ⟨#[c]⟩ 1 (Nat.le_refl 1) with ⟨h0, hn⟩ | ⟨i, r, h0, hi, hn⟩
  · rw [h0]
    refine .inl ⟨rfl, fun hc => ?_⟩
    obtain ⟨i, hi⟩ := List.mem_iff_getElem?.mp hc
    exact hn i ((StrLaws.subAt_one (S l) c i).mpr (by rw [S_toList]; exact hi))
  · rw [h0]
    have h1 := (StrLaws.subAt_one (S l) c i).mp hi
    rw [S_toList] at h1
    refine .inr ⟨i, rfl, (List.getElem?_eq_some_iff.mp h1).1, h1, fun k hk he => hn k hk ((StrLaws.subAt_one (S l) c k).mpr (by rw [S_toList]; exact he))⟩
theorem not_mem_hd : ∀ {l : List Nat}, 47 ∉ l → hdp l = l ∧ tlp l = []
  | [], _ => ⟨rfl, rfl⟩
  | c :: r, h => by
    have h1 : (c != 47) = true := by simp; intro e; exact h (by simp [e])
    have ⟨a, b⟩ := not_mem_hd (l := r) fun e => h (by simp [e])
    simp only [hdp, tlp, List.takeWhile_cons, List.dropWhile_cons, h1, if_true] at *
    exact ⟨by rw [a], b⟩
/-- the parts between the delimiters -/
noncomputable def spl : List Nat → List (List Nat)
  | [] => [[]]
  | c :: r => if c = 47 then [] :: spl r else match spl r with
    | p :: q => (c :: p) :: q
    | [] => [[c]]
theorem spl_ne (l : List Nat) : ∃ p q, spl l = p :: q := by
  cases l with
  | nil => exact ⟨_, _, rfl⟩
  | cons c r =>
    rw [spl]
    by_cases hc : c = 47
    · rw [if_pos hc]; exact ⟨_, _, rfl⟩
    · rw [if_neg hc]
      cases spl r with
      | nil => exact ⟨_, _, rfl⟩
      | cons p q => exact ⟨_, _, rfl⟩
/-- the parts with the delimiters between -/
noncomputable def jn : List (List Nat) → List Nat
  | [] => []
  | [p] => p
  | p :: q :: r => p ++ 47 :: jn (q :: r)
theorem jn_S : ∀ ps : List (List Nat), PySem.Str.join ⟨#[47]⟩ (ps.map S) = S (jn ps)
  | [] => rfl
  | [p] => rfl
  | p :: q :: r => by
    have ih := jn_S (q :: r)
    show S p ++ ⟨#[47]⟩ ++ PySem.Str.join ⟨#[47]⟩ ((q :: r).map S) = _
    rw [ih, show (⟨#[47]⟩ : PySem.Str) = S [47] from rfl, S_app, S_app]
    simp [jn]
theorem spl_app {p : List Nat} (hp : 47 ∉ p) : ∀ l : List Nat, spl (p ++ 47 :: l) = p :: spl l := by
  intro l
  induction p with
  | nil => simp [spl]
  | cons c p ih =>
    have h1 : c ≠ 47 := fun e => hp (by simp [e])
    have h2 : 47 ∉ p := fun e => hp (by simp [e])
    show spl (c :: (p ++ 47 :: l)) = _
    rw [spl, if_neg h1, ih h2]
theorem spl_one {p : List Nat} (hp : 47 ∉ p) : spl p = [p] := by
  induction p with
  | nil => rfl
  | cons c p ih =>
    have h1 : c ≠ 47 := fun e => hp (by simp [e])
    have h2 : 47 ∉ p := fun e => hp (by simp [e])
    rw [spl, if_neg h1, ih h2]
theorem spl_jn : ∀ ps : List (List Nat), ps ≠ [] → (∀ p ∈ ps, 47 ∉ p) → spl (jn ps) = ps
  | [], h, _ => absurd rfl h
  | [p], _, h => spl_one (h p (by simp))
  | p :: q :: r, _, h => by
    show spl (p ++ 47 :: jn (q :: r)) = _
    rw [spl_app (h p (by simp)), spl_jn (q :: r) (by simp) fun x hx => h x (by simp at hx ⊢; exact .inr hx)]
theorem jn_spl : ∀ l : List Nat, jn (spl l) = l
  | [] => rfl
  | c :: r => by
    have ih := jn_spl r
    obtain ⟨p, q, e⟩ := spl_ne r
    rw [spl]
    by_cases hc : c = 47
    · rw [if_pos hc, e]
      show [] ++ 47 :: jn (p :: q) = _
      rw [← e, ih, hc]; rfl
    · rw [if_neg hc, e]
      rw [e] at ih
      show jn ((c :: p) :: q) = _
      cases q with
      | nil => show c :: p = _; have : jn [p] = p := rfl; rw [this] at ih; rw [ih]
      | cons q q' =>
        show (c :: p) ++ 47 :: jn (q :: q') = _
        have : jn (p :: q :: q') = p ++ 47 :: jn (q :: q') := rfl
        rw [this] at ih
        rw [← ih]; rfl
theorem spl_free (l : List Nat) : ∀ p ∈ spl l, 47 ∉ p := by
  induction l with
  | nil => intro p hp; simp [spl] at hp; simp [hp]
  | cons c r ih =>
    obtain ⟨p, q, e⟩ := spl_ne r
    rw [spl]
    by_cases hc : c = 47
    · rw [if_pos hc]
      intro x hx
      rcases List.mem_cons.mp hx with rfl | hx
      · simp
      · exact ih x hx
    · rw [if_neg hc, e]
      rw [e] at ih
      intro x hx
      rcases List.mem_cons.mp hx with rfl | hx
      · have := ih p (by simp)
        simp [this]; exact fun h => hc h.symm
      · exact ih x (by simp [hx])
theorem split_ne (x y : PySem.Str) : Txt.split x y ≠ [] := by
  unfold Txt.split
  split
  · simp
  · split
    · simp
    · rw [StrLaws.partsBetween_eq]
      obtain ⟨p, r, e⟩ := StrLaws.partsFrom_ne x y.length 0 (Builtin.Str.occurrences x y 0 x.length (x.length + 1))
      rw [e]
      simp
theorem split_S (l : List Nat) : Txt.split (S l) ⟨#[47]⟩ = (spl l).map S := by
  have h1 := StrLaws.join_split (S l) ⟨#[47]⟩
  have h2 := StrLaws.split_free (S l) 47
  have hne := split_ne (S l) ⟨#[47]⟩
  generalize Txt.split (S l) ⟨#[47]⟩ = ps at h1 h2 hne
  have h3 : ps = (ps.map fun s => s.cps.toList).map S := by
    rw [List.map_map]
    conv => lhs; rw [← List.map_id ps]
    exact List.map_congr_left fun x _ => S_of x
  rw [h3] at h1 ⊢
  rw [jn_S] at h1
  have h4 := S_inj h1
  have h5 := spl_jn (ps.map fun s => s.cps.toList) (by simpa using hne) (by intro p hp; obtain ⟨x, hx, rfl⟩ := List.mem_map.mp hp; exact h2 x hx)
  rw [← h4, h5]
local macro_rules | `(tactic| walk_at "mine fill") => `(tactic| (w_top off; have : hd.heap_39 = hd.heap_39 ∧ PySem.Challenge.rw_or0051_01 = PySem.Challenge.rw_or0051_01 := by (k_fill; exact ⟨rfl, rfl⟩)))
local macro_rules | `(tactic| walk_at "mine in") => `(tactic| (rotate_left 16; k_is; k_is; k_room; exact BindsTo.of_eq rfl; iterate 5 (first | exact rfl | exact locs rfl | decide +kernel)))
local macro_rules | `(tactic| walk_at "mine enter") => `(tactic| (k_dflt (refine' enter (by assumption) _ _ _ _ _ _ _ _ _ _; walk_at "mine in"); intro L' h' F' N' X' T'; (try dsimp only); (try k_fold)))
local macro_rules | `(tactic| walk_at "mine tidy") => `(tactic| ((try dsimp only); (try k_unfold); (try dsimp only)))
local macro_rules | `(tactic| walk_at "mine steps") => `(tactic| (repeat' (
  (fail_if_success (with_reducible show wpAny _ _ (pyIter _) _ _ _))
  (fail_if_success (with_reducible show wpAny _ _ (exec (Stmt.While _ _ _ _) _) _ _ _))
  first | (k_unfold; (try dsimp only)) | walk1 | (dsimp only; walk1) | (leave1; (try dsimp only)) | fail "no step")))
local macro_rules | `(tactic| walk_at "mine go") => `(tactic| (walk_at "mine fill"; walk_at "mine enter"; walk_at "mine steps"; (all_goals walk_at "mine tidy")))
local macro_rules | `(tactic| walk_at "exec For Name Call cons nil") => `(tactic| (k_here; rename Fr _ _ _ _ => lF'; k_dflt (refine' For_invVF lF' rfl rfl ?_); (try k_fold)))
local macro_rules | `(tactic| walk_at "exec For Name Name cons nil") => `(tactic| walk_at "exec For Name Call cons nil")
local macro_rules | `(tactic| walk_at "mine comp") => `(tactic| (rotate_left 4; k_asm; with_unfolding_all rfl; decide; rfl; decide; rfl; rotate_left 1; (intro _; rfl)))
local macro_rules | `(tactic| walk_at "eval ListComp") => `(tactic| (k_here; k_dflt (refine' listComp_any _ _ _ _ _ _ _ _; walk_at "mine comp")))
local macro_rules | `(tactic| walk_at "mine side") => `(tactic| (k_asm; k_asm; k_asm; k_asm; rfl; exact Nat.le_of_ble_eq_true rfl; exact Nat.le_of_ble_eq_true rfl))
local macro_rules | `(tactic| walk_at "mine last") => `(tactic| (rotate_left 7; walk_at "mine side"; rotate_left 1; (intro _ _ _ _ _ _ hf'; exact hf'.elim)))
local macro_rules | `(tactic| walk_at "mine use") => `(tactic| (intro v' h' tk' F' N' k' r'; (first | subst r' | (obtain ⟨q', r'⟩ := r'; first | subst r' | subst q' | (obtain ⟨r', s'⟩ := r'; subst r'))); (try clear k'); (try dsimp only); (try k_fold)))
local macro_rules | `(tactic| walk_at "mine useN") => `(tactic| (rename Keeps _ _ => k'; (try clear k'); rename News _ _ _ _ => N'; simp only [List.cons_append, List.nil_append] at N'; (try dsimp only); (try k_fold)))
section
variable {prog : Program} {w : World} {s : Shared} {mean : ExcName → Option Value} {mg mb : PySem.Str → Option Value}
theorem keepsF {h₀ h : Heap} {L : Addr} {m : PySem.Str → Option Value} (F : Fr h₀ L h m) : Keeps h₀ h := F.keep
theorem is_plain_code_does (C : Cx w mean mg mb s.heap) (c : Int) (t : Tok) :
    Does prog w 0 114 [.int c t] s (fun v _ => v = .bool (decide (32 ≤ c ∧ c ≤ 126))) (fun _ _ => False) := by
  intro Q E hR hX
  walk_at "mine go"
  all_goals (refine hR _ _ _ (keepsF (by assumption)) ?_; congr 1; simp only [decide_eq_decide]; omega)
theorem is_half_does (C : Cx w mean mg mb s.heap) (c : Int) (t : Tok) :
    Does prog w 0 121 [.int c t] s (fun v _ => v = .bool (decide (55296 ≤ c ∧ c ≤ 57343))) (fun _ _ => False) := by
  intro Q E hR hX
  walk_at "mine go"
  all_goals (refine hR _ _ _ (keepsF (by assumption)) ?_; congr 1; simp only [decide_eq_decide]; omega)
end
local macro_rules | `(tactic| walk_at "call ref") => `(tactic| (k_dflt (refine' use (f := 114) (fun C => is_plain_code_does C _ _) _ _ _ _ _ _ _ _ _; walk_at "mine last"); walk_at "mine use"))
local macro_rules | `(tactic| walk_at "call ref") => `(tactic| (k_dflt (refine' use (f := 121) (fun C => is_half_does C _ _) _ _ _ _ _ _ _ _ _; walk_at "mine last"); walk_at "mine use"))
section
variable {prog : Program} {w : World} {s : Shared} {mean : ExcName → Option Value} {mg mb : PySem.Str → Option Value}
noncomputable def barred (c : Int) : Bool := decide (c < 32 ∨ (127 ≤ c ∧ c ≤ 159) ∨ c = 8232 ∨ c = 8233 ∨ (55296 ≤ c ∧ c ≤ 57343))
theorem int_beq (a b : Int) : (a == b) = decide (a = b) := by by_cases h : a = b <;> simp [h]
theorem is_barred_code_does (C : Cx w mean mg mb s.heap) (c : Int) (t : Tok) :
    Does prog w 1 191 [.int c t] s (fun v _ => v = .bool (barred c)) (fun _ _ => False) := by
  intro Q E hR hX
  walk_at "mine go"
  all_goals (refine hR _ _ _ (keepsF (by assumption)) ?_; congr 1; simp only [barred, int_beq, decide_eq_decide]; refine ⟨fun h => ?_, fun h => ?_⟩ <;> omega)
noncomputable def upc (c : Nat) : Nat := if 97 ≤ c ∧ c ≤ 122 then c - 32 else c
noncomputable def upS (x : PySem.Str) : PySem.Str := ⟨x.cps.map upc⟩
theorem sign_lt (a b : Nat) : ((⟨#[a]⟩ : PySem.Str).cps.toList < (⟨#[b]⟩ : PySem.Str).cps.toList) ↔ a < b := by
  show ([a] < [b]) ↔ a < b
  refine ⟨fun h => ?_, fun h => List.Lex.rel h⟩
  cases h with
  | rel h => exact h
  | cons h => cases h
theorem sign_lt' (a b : Nat) : ([a] < [b]) ↔ a < b := sign_lt a b
theorem lit_a : PySem.Str.ofString "a" = ⟨#[97]⟩ := by decide +kernel
theorem lit_z : PySem.Str.ofString "z" = ⟨#[122]⟩ := by decide +kernel
theorem strsAre_of {ys : List Value} {g : Nat → PySem.Str} : ∀ {cs : List Nat}, ys.length = cs.length → (∀ i, i < cs.length → ∃ y, ys[i]? = some y ∧ ∃ c u, cs[i]? = some c ∧ y = .str (g c) u) → StrsAre ys (cs.map g) := by
  induction ys with
  | nil => intro cs hl _; cases cs with
    | nil => exact .nil
    | cons _ _ => cases hl
  | cons y ys ih =>
    intro cs hl hy
    cases cs with
    | nil => cases hl
    | cons c cs =>
      obtain ⟨y', e, c', u, e', rfl⟩ := hy 0 (by simp)
      simp only [List.getElem?_cons_zero, Option.some.injEq] at e e'
      subst e; subst e'
      refine .cons _ _ (ih (by simpa using hl) fun i hi => ?_)
      obtain ⟨y', e, c', u, e', h⟩ := hy (i + 1) (by simpa using hi)
      exact ⟨y', by simpa using e, c', u, by simpa using e', h⟩
theorem join_signs (g : Nat → Nat) : ∀ cs : List Nat, PySem.Str.join PySem.Str.empty (cs.map fun c => (⟨#[g c]⟩ : PySem.Str)) = ⟨(cs.map g).toArray⟩
  | [] => rfl
  | [c] => rfl
  | c :: d :: r => by
    have ih := join_signs g (d :: r)
    show (⟨#[g c]⟩ : PySem.Str) ++ PySem.Str.empty ++ PySem.Str.join PySem.Str.empty ((d :: r).map fun c => (⟨#[g c]⟩ : PySem.Str)) = _
    rw [ih]
    apply PySem.Str.ext'
    simp [PySem.Str.cps_append, PySem.Str.empty]
theorem sum_len_signs (g : Nat → Nat) : ∀ cs : List Nat, ((cs.map fun c => (⟨#[g c]⟩ : PySem.Str)).map (·.length)).sum = cs.length
  | [] => rfl
  | c :: r => by
    have := sum_len_signs g r
    simp only [List.map_cons, List.sum_cons, List.length_cons]
    rw [this]
    show 1 + r.length = r.length + 1
    omega
theorem upper_text_does (C : Cx w mean mg mb s.heap) (x : PySem.Str) (hx : x.length ≤ 1048576) (t : Tok) :
    Does prog w 0 107 [.str x t] s (fun v _ => ∃ t, v = .str (upS x) t) (fun _ _ => False) := by
  intro Q E hR hX
  walk_at "mine go"
  refine compIter_str (fun i y => ∃ c u, x.cps.toList[i]? = some c ∧ y = .str ⟨#[upc c]⟩ u) rfl (by assumption) (by assumption) (by rw [sizeLine_eq]; omega) ?_ ?_
  · intro i c u I oI C oC D m₂ ys h tk E' hc hC' hx' F' N' off' ne'
    have hc : x.cps.toList[i]? = some c := by simpa using hc
    walk_at "mine steps"
    all_goals (try refine CTurn.intro (by assumption) (by assumption) (fun _ hp => hp) ?_)
    all_goals (simp only [lit_a, lit_z] at *)
    all_goals (try simp only [sign_lt', Nat.not_lt] at *)
    · exact ⟨c, u, hc, by rw [upc, if_neg (by omega)]⟩
    · exact ⟨c, u, hc, by rw [upc, if_neg (by omega)]⟩
    · refine chr_of_range (by omega) (by omega) ?_
      refine CTurn.intro (by assumption) (by assumption) (fun _ hp => hp) ?_
      exact ⟨c, _, hc, by rw [upc, if_pos (by omega), show ((c : Int) - 32).toNat = c - 32 by omega]⟩
  · intro D ys h tk F' N' hl hy
    walk_at "mine steps"
    have hS : StrsAre ys (x.cps.toList.map fun c => (⟨#[upc c]⟩ : PySem.Str)) := strsAre_of (by rw [hl]; simp [PySem.Str.length]) (by intro i hi; exact hy i (by simpa [PySem.Str.length] using hi))
    refine join_list (News.isList N' (.head _)) hS ?_ ?_
    · rw [sum_len_signs]
      simp only [List.length_map]
      show x.cps.toList.length + x.cps.toList.length * 0 ≤ _
      have : x.cps.toList.length = x.length := by simp [PySem.Str.length]
      omega
    · intro t' k
      walk_at "mine tidy"
      refine hR _ _ _ (keepsF (by assumption)) ⟨t', ?_⟩
      congr 1
      refine (StrLaws.glued_eq_join _ _).trans ?_
      rw [show PySem.Str.ofString "" = PySem.Str.empty from rfl, join_signs]
      show _ = (⟨x.cps.map upc⟩ : PySem.Str)
      congr 1
      apply Array.ext'
      simp
end
local macro_rules | `(tactic| walk_at "call ref") => `(tactic| (k_dflt (refine' use (f := 191) (fun C => is_barred_code_does C _ _) _ _ _ _ _ _ _ _ _; walk_at "mine last"); walk_at "mine use"))
local macro_rules | `(tactic| walk_at "call ref") => `(tactic| (k_dflt (refine' use (f := 107) (fun C => upper_text_does C _ (by first | assumption | omega) _) _ _ _ _ _ _ _ _ _; walk_at "mine last"); walk_at "mine use"))
section
variable {prog : Program} {w : World} {A : Around} {s : Shared} {Q E : Value → Shared → Prop} {mean : ExcName → Option Value} {mg mb : PySem.Str → Option Value} {f : Addr} {args : List Value}
/-- a call that leaves made objects behind -/
noncomputable def DoesN (prog : Program) (w : World) (n : Nat) (f : Addr) (args : List Value) (s : Shared) (R : Value → List (Addr × Obj) → Prop) (X : Value → Heap → Prop) : Prop :=
  ∀ Q E : Value → Shared → Prop, (∀ v nw h' tk', Keeps s.heap h' → (∀ p ∈ nw, h'.get? p.1 = some p.2 ∧ s.heap.get? p.1 = none) → R v nw → Q v { s with heap := h', toks := tk' }) →
    (∀ e h' tk', Keeps s.heap h' → X e h' → E e { s with heap := h', toks := tk' }) → wpAny (model prog w) (lev n) (call (.ref f) args) Q E s
theorem useN {n : Nat} {R : Value → List (Addr × Obj) → Prop} {X : Value → Heap → Prop} {h₀ : Heap} {L : Addr} {m : PySem.Str → Option Value} {news : List (Addr × Obj)}
    (D : Cx w mean mg mb s.heap → DoesN prog w n f args s R X) (F : Fr h₀ L s.heap m) (N : News h₀ L s.heap news) (X₀ : (hd.heap_39 w.params).In h₀)
    (T : Top hd.view_39 (looseW hd.view_39 [PySem.Str.ofString "PostError"]) mean mg mb h₀) (h1 : A.handled = none) (h2 : A.depth ≤ 900 - 10 * n) (h3 : A.units ≤ 9000 - 100 * n)
    (hR : ∀ v nw h' tk', Fr h₀ L h' m → News h₀ L h' (nw ++ news) → Keeps s.heap h' → R v nw → Q v { s with heap := h', toks := tk' })
    (hX : ∀ e h' tk', Fr h₀ L h' m → News h₀ L h' news → Keeps s.heap h' → X e h' → E e { s with heap := h', toks := tk' }) :
    wpAny (model prog w) A (call (.ref f) args) Q E s :=
  to_lev (D ⟨X₀.keeps F.keep, T.keeps F.keep⟩ Q E (fun v nw h' tk' k z r => hR v nw h' tk' (Mine.Fr.grow F k) (fun p hp => by
    rcases List.mem_append.mp hp with hp | hp
    · refine ⟨(z p hp).1, fun e => ?_, ?_⟩
      · obtain ⟨o, _, _, e', _⟩ := F.ns
        rw [← e, (z p hp).2] at e'
        cases e'
      · cases hg : h₀.get? p.1 with
        | none => rfl
        | some o => have := F.keep _ _ hg; rw [(z p hp).2] at this; cases this
    · exact Mine.News.grow N k p hp) k r) fun e h' tk' k x => hX e h' tk' (Mine.Fr.grow F k) (Mine.News.grow N k) k x) h1 h2 h3
theorem madeOf {h₀ h' : Heap} {L : Addr} {nw : List (Addr × Obj)} (N : News h₀ L h' nw) : ∀ p ∈ nw, h'.get? p.1 = some p.2 ∧ h₀.get? p.1 = none := fun p hp => ⟨(N p hp).1, (N p hp).2.2⟩
@[reducible] noncomputable def tupleOf (vs : Array Value) : Obj := { cls := Value.type "tuple", data := Data.seq vs }
theorem tup2 {a : Addr} {x y x' y' : PySem.Str} {t1 t2 : Tok} (h1 : x = x') (h2 : y = y') : [(a, ({ cls := Value.type "tuple", data := Data.seq #[.str x t1, .str y t2] } : Obj))] = [(a, tupleOf #[.str x' t1, .str y' t2])] := by rw [h1, h2]
theorem first_no {x : PySem.Str} (h : Txt.find x (PySem.Str.ofString "/") < 0) : x = S (hdp x.cps.toList) ∧ PySem.Str.ofString "" = S (tlp x.cps.toList) := by
  rw [lit_slash] at h
  obtain ⟨l, rfl⟩ : ∃ l, x = S l := ⟨_, S_of x⟩
  rcases find_one l 47 with ⟨_, hn⟩ | ⟨i, e, _⟩
  · have := not_mem_hd hn
    rw [S_toList, this.1, this.2]
    exact ⟨rfl, by decide +kernel⟩
  · rw [e] at h; omega
theorem first_yes {x : PySem.Str} (h : ¬ Txt.find x (PySem.Str.ofString "/") < 0) : Txt.slice x none (some (Txt.find x (PySem.Str.ofString "/"))) = S (hdp x.cps.toList) ∧ Txt.slice x (some (Txt.find x (PySem.Str.ofString "/"))) none = S (tlp x.cps.toList) := by
  rw [lit_slash] at *
  obtain ⟨l, rfl⟩ : ∃ l, x = S l := ⟨_, S_of x⟩
  rcases find_one l 47 with ⟨e, hn⟩ | ⟨i, e, hi, h1, h2⟩
  · rw [e] at h; omega
  · have := cut_at h1 h2
    rw [e, S_toList, hdp, tlp, this.1, this.2]
    exact ⟨slice_to l (Nat.le_of_lt hi), slice_from l (Nat.le_of_lt hi)⟩
theorem first_part_does (C : Cx w mean mg mb s.heap) (x : PySem.Str) (hx : x.length ≤ 1048576) (t : Tok) :
    DoesN prog w 0 177 [.str x t] s (fun v nw => ∃ a t1 t2, v = .ref a ∧ nw = [(a, tupleOf #[.str (S (hdp x.cps.toList)) t1, .str (S (tlp x.cps.toList)) t2])]) (fun _ _ => False) := by
  intro Q E hR hX
  walk_at "mine go"
  · have e := first_no (x := x) (by assumption)
    exact hR _ _ _ _ (keepsF (by assumption)) (madeOf (by assumption)) ⟨_, _, _, rfl, tup2 e.1 e.2⟩
  · have e := first_yes (x := x) (by assumption)
    exact hR _ _ _ _ (keepsF (by assumption)) (madeOf (by assumption)) ⟨_, _, _, rfl, tup2 e.1 e.2⟩
end
local macro_rules | `(tactic| walk_at "call ref") => `(tactic| (k_dflt (refine' useN (f := 177) (fun C => first_part_does C _ (by first | assumption | omega) _) _ _ _ _ _ _ _ _ _; walk_at "mine last"); intro v' nw' h' tk' F' N' k' r'; obtain ⟨a', t1', t2', r'⟩ := r'; obtain ⟨r', r2'⟩ := r'; subst r'; subst r2'; walk_at "mine useN"))
section
variable {prog : Program} {w : World} {A : Around} {s : Shared} {Q E : Value → Shared → Prop} {mean : ExcName → Option Value} {mg mb : PySem.Str → Option Value} {f : Addr} {args : List Value}
noncomputable def nrm (l : List Nat) : List Nat := if (hdp l).map upc = [73, 78, 66, 79, 88] then [73, 78, 66, 79, 88] ++ tlp l else l
theorem hdp_le (l : List Nat) : (hdp l).length ≤ l.length := (List.takeWhile_sublist _).length_le
theorem tlp_le (l : List Nat) : (tlp l).length ≤ l.length := (List.dropWhile_sublist _).length_le
theorem nrm_len (l : List Nat) : (nrm l).length = l.length := by
  rw [nrm]
  split
  · rename_i h
    have h1 := congrArg List.length h
    have h2 := congrArg List.length (hd_tl l)
    simp at h1 h2 ⊢
    omega
  · rfl
theorem strV {x y : PySem.Str} {t : Tok} (e : x = y) : ∃ t', Value.str x t = .str y t' := ⟨t, by rw [e]⟩
theorem lit_inbox : PySem.Str.ofString "INBOX" = S [73, 78, 66, 79, 88] := by decide +kernel
theorem upS_S (l : List Nat) : upS (S l) = S (l.map upc) := by
  show (⟨_⟩ : PySem.Str) = _
  congr 1
  apply Array.ext'
  simp
theorem S_beq (a b : List Nat) : (S a == S b) = decide (a = b) := by
  by_cases h : a = b
  · subst h; simp
  · have : S a ≠ S b := fun e => h (S_inj e)
    simp [h]
theorem len_x (x : PySem.Str) : x.cps.toList.length = x.length := by simp [PySem.Str.length]
theorem normal_name_does (C : Cx w mean mg mb s.heap) (x : PySem.Str) (hx : x.length ≤ 1000000) (t : Tok) :
    Does prog w 1 184 [.str x t] s (fun v _ => ∃ t, v = .str (S (nrm x.cps.toList)) t) (fun _ _ => False) := by
  intro Q E hR hX
  have hx1 : x.length ≤ 1048576 := by omega
  have hx2 : (S (hdp x.cps.toList)).length ≤ 1048576 := by have := hdp_le x.cps.toList; rw [S_len]; rw [len_x] at this; omega
  have hx3 : (S (tlp x.cps.toList)).length ≤ 1000000 := by have := tlp_le x.cps.toList; rw [S_len]; rw [len_x] at this; omega
  walk_at "mine go"
  · have e : (upS (S (hdp x.cps.toList)) == PySem.Str.ofString "INBOX") = true := by assumption
    rw [upS_S, lit_inbox, S_beq, decide_eq_true_eq] at e
    refine hR _ _ _ (keepsF (by assumption)) (strV ?_)
    rw [nrm, if_pos e, lit_inbox, S_app]
  · have e : (upS (S (hdp x.cps.toList)) == PySem.Str.ofString "INBOX") = false := by assumption
    rw [upS_S, lit_inbox, S_beq, decide_eq_false_iff_not] at e
    refine hR _ _ _ (keepsF (by assumption)) (strV ?_)
    rw [nrm, if_neg e]
end
local macro_rules | `(tactic| walk_at "call ref") => `(tactic| (k_dflt (refine' use (f := 184) (fun C => normal_name_does C _ (by first | assumption | omega) _) _ _ _ _ _ _ _ _ _; walk_at "mine last"); walk_at "mine use"))
section
variable {prog : Program} {w : World} {A : Around} {s : Shared} {Q E : Value → Shared → Prop} {mean : ExcName → Option Value} {mg mb : PySem.Str → Option Value} {f : Addr} {args : List Value}
noncomputable def chop (l : List Nat) : List Nat := if l.getLast? = some 47 then l.dropLast else l
noncomputable def brn (l : List Nat) : List Nat := chop (nrm l)
theorem ends_slash (l : List Nat) : Txt.endswith (S l) (PySem.Str.ofString "/") = decide (l.getLast? = some 47) := by
  rw [lit_slash]
  have h := StrLaws.subAt_one (S l) 47 (l.length - 1)
  rw [S_toList, ← List.getLast?_eq_getElem?, S_len] at h
  rw [Bool.eq_iff_iff, decide_eq_true_eq, ← h]
  show (decide (0 + 1 ≤ (S l).length) && _) = true ↔ l.length - 1 + 1 ≤ l.length ∧ _
  rw [S_len, Bool.and_eq_true, decide_eq_true_eq]
  show _ ∧ Builtin.Str.subAt (S l) ⟨#[47]⟩ ((S l).length - 1) = true ↔ _
  rw [S_len]
  constructor
  · exact fun ⟨a, b⟩ => ⟨by omega, b⟩
  · exact fun ⟨a, b⟩ => ⟨by omega, b⟩
theorem bare_name_does (C : Cx w mean mg mb s.heap) (x : PySem.Str) (hx : x.length ≤ 900000) (t : Tok) :
    Does prog w 2 219 [.str x t] s (fun v _ => ∃ t, v = .str (S (brn x.cps.toList)) t) (fun _ _ => False) := by
  intro Q E hR hX
  have hx1 : x.length ≤ 1000000 := by omega
  have hx2 : (S (nrm x.cps.toList)).length ≤ 1000000 := by rw [S_len, nrm_len, len_x]; omega
  walk_at "mine go"
  · have e : Txt.endswith (S (nrm x.cps.toList)) (PySem.Str.ofString "/") = true := by assumption
    rw [ends_slash, decide_eq_true_eq] at e
    refine hR _ _ _ (keepsF (by assumption)) (strV ?_)
    have hl : 1 ≤ (nrm x.cps.toList).length := by
      cases h : nrm x.cps.toList with
      | nil => rw [h] at e; cases e
      | cons _ _ => simp
    rw [brn, chop, if_pos e, S_len, show (((nrm x.cps.toList).length : Int) - 1) = (((nrm x.cps.toList).length - 1 : Nat) : Int) by omega, slice_to _ (by omega), List.dropLast_eq_take]
  · have e : Txt.endswith (S (nrm x.cps.toList)) (PySem.Str.ofString "/") = false := by assumption
    rw [ends_slash, decide_eq_false_iff_not] at e
    refine hR _ _ _ (keepsF (by assumption)) (strV ?_)
    rw [brn, chop, if_neg e]
end
local macro_rules | `(tactic| walk_at "call ref") => `(tactic| (k_dflt (refine' use (f := 219) (fun C => bare_name_does C _ (by first | assumption | omega) _) _ _ _ _ _ _ _ _ _; walk_at "mine last"); walk_at "mine use"))
section
variable {prog : Program} {w : World} {A : Around} {s : Shared} {Q E : Value → Shared → Prop} {mean : ExcName → Option Value} {mg mb : PySem.Str → Option Value} {f : Addr} {args : List Value}
/-- what stands before each delimiter -/
noncomputable def prs : List Nat → List Nat → List (List Nat)
  | _, [] => []
  | a, c :: r => if c = 47 then a :: prs (a ++ [c]) r else prs (a ++ [c]) r
noncomputable def parL (l : List Nat) : List (List Nat) := prs [] l
theorem prs_skip {l : List Nat} : ∀ {n p : Nat}, p + n ≤ l.length → (∀ v, p ≤ v → v < p + n → l[v]? ≠ some 47) → prs (l.take p) (l.drop p) = prs (l.take (p + n)) (l.drop (p + n))
  | 0, p, _, _ => rfl
  | n + 1, p, h, hn => by
    have hp : p < l.length := by omega
    rw [List.drop_eq_getElem_cons hp, prs, if_neg (by have := hn p (Nat.le_refl _) (by omega); rw [List.getElem?_eq_getElem hp] at this; simpa using this)]
    rw [← List.take_succ_eq_append_getElem hp, prs_skip (n := n) (p := p + 1) (by omega) fun v h1 h2 => hn v (by omega) (by omega), show p + 1 + n = p + (n + 1) by omega]
theorem prs_at {l : List Nat} {k : Nat} (h : l[k]? = some 47) : prs (l.take k) (l.drop k) = l.take k :: prs (l.take (k + 1)) (l.drop (k + 1)) := by
  obtain ⟨hk, e⟩ := List.getElem?_eq_some_iff.mp h
  rw [List.drop_eq_getElem_cons hk, prs, if_pos e, ← List.take_succ_eq_append_getElem hk]
noncomputable def ParAt (l : List Nat) (at' : Int) (ys : List (List Nat)) : Prop := (at' = -1 ∧ ys = parL l) ∨ ∃ k : Nat, at' = k ∧ l[k]? = some 47 ∧ ys ++ prs (l.take k) (l.drop k) = parL l
theorem getD_one {l : List Nat} {v : Nat} (hv : v < l.length) : (S l).cps.getD v 0 ≠ 47 ↔ l[v]? ≠ some 47 := by
  have : (S l).cps.getD v 0 = l[v] := by simp [Array.getD, hv]
  rw [this, List.getElem?_eq_getElem hv]; simp
theorem par_first (l : List Nat) : ParAt l (Txt.find (S l) ⟨#[47]⟩) [] := by
  rcases find_one l 47 with ⟨e, hn⟩ | ⟨k, e, hk, h1, h2⟩
  · refine .inl ⟨e, ?_⟩
    have := prs_skip (l := l) (n := l.length) (p := 0) (by omega) fun v _ _ h => hn (List.mem_of_getElem? h)
    simp [prs] at this
    exact this.symm
  · refine .inr ⟨k, e, h1, ?_⟩
    have := prs_skip (l := l) (n := k) (p := 0) (by omega) fun v _ h => h2 v (by omega)
    simp only [Nat.zero_add, List.take_zero, List.drop_zero] at this
    rw [List.nil_append, ← this]
    rfl
theorem par_next {l : List Nat} {k : Nat} {ys : List (List Nat)} (h : l[k]? = some 47) (hy : ys ++ prs (l.take k) (l.drop k) = parL l) :
    ParAt l (Txt.find3 (S l) ⟨#[47]⟩ ((k : Int) + 1)) (ys ++ [l.take k]) := by
  obtain ⟨hk, _⟩ := List.getElem?_eq_some_iff.mp h
  rw [prs_at h] at hy
  have hf : fromIndex (S l).length ((k : Int) + 1) = k + 1 := by unfold fromIndex; rw [if_neg (by omega)]; omega
  rcases StrLaws.find3_spec (S l) 47 ((k : Int) + 1) with ⟨e, hn⟩ | ⟨j, e, hj, hjl, h1, h2⟩
  · rw [hf, S_len] at hn
    refine .inl ⟨e, ?_⟩
    have := prs_skip (l := l) (n := l.length - (k + 1)) (p := k + 1) (by omega) fun v a b => (getD_one (by omega)).mp (hn v a (by omega))
    rw [show k + 1 + (l.length - (k + 1)) = l.length by omega, List.drop_length, prs] at this
    rw [← hy, this]
  · rw [hf] at hj h2
    rw [S_len] at hjl
    have h1' : l[j]? = some 47 := Classical.byContradiction fun hc => ((getD_one hjl).mpr hc) h1
    refine .inr ⟨j, e, h1', ?_⟩
    have := prs_skip (l := l) (n := j - (k + 1)) (p := k + 1) (by omega) fun v a b => (getD_one (by omega)).mp (h2 v a (by omega))
    rw [show k + 1 + (j - (k + 1)) = j by omega] at this
    rw [← hy, this]
    simp
noncomputable def parMu (l : List Nat) (at' : Int) : Nat := if at' < 0 then 0 else l.length + 1 - at'.toNat
theorem par_mu {l : List Nat} {k : Nat} (h : l[k]? = some 47) : parMu l (Txt.find3 (S l) ⟨#[47]⟩ ((k : Int) + 1)) < parMu l k := by
  obtain ⟨hk, _⟩ := List.getElem?_eq_some_iff.mp h
  have hf : fromIndex (S l).length ((k : Int) + 1) = k + 1 := by unfold fromIndex; rw [if_neg (by omega)]; omega
  rcases StrLaws.find3_spec (S l) 47 ((k : Int) + 1) with ⟨e, hn⟩ | ⟨j, e, hj, hjl, h1, h2⟩
  · rw [e]; unfold parMu; rw [if_pos (by omega), if_neg (by omega)]; omega
  · rw [e]; rw [hf] at hj; rw [S_len] at hjl; unfold parMu; rw [if_neg (by omega), if_neg (by omega)]; exact Nat.sub_lt_sub_left (Nat.lt_succ_of_lt hk) hj
theorem prs_le : ∀ (l a : List Nat), (prs a l).length ≤ l.length
  | [], _ => Nat.le_refl _
  | c :: r, a => by
    rw [prs]
    have := prs_le r (a ++ [c])
    split
    · simp; exact this
    · simp; omega
theorem par_le {l : List Nat} {i : Int} {ys : List (List Nat)} (h : ParAt l i ys) : ys.length ≤ l.length := by
  have hp := prs_le l []
  rcases h with ⟨_, rfl⟩ | ⟨k, _, _, e⟩
  · exact hp
  · have := congrArg List.length e
    rw [List.length_append] at this
    show _ ≤ l.length
    unfold parL at this
    omega
theorem strsAre_len : ∀ {vs : List Value} {xs : List PySem.Str}, StrsAre vs xs → vs.length = xs.length
  | _, _, .nil => rfl
  | _, _, .cons _ _ h => by simp [strsAre_len h]
theorem strsAre_app : ∀ {vs ws : List Value} {xs ys : List PySem.Str}, StrsAre vs xs → StrsAre ws ys → StrsAre (vs ++ ws) (xs ++ ys)
  | _, _, _, _, .nil, h => h
  | _, _, _, _, .cons _ _ h, h' => .cons _ _ (strsAre_app h h')
structure ParJ (x : PySem.Str) (t : Tok) (a : Addr) (j : Int × List (List Nat)) (m : PySem.Str → Option Value) (news : List (Addr × Obj)) : Prop where
  nm : m (PySem.Str.ofString "name") = some (.str x t)
  so : m (PySem.Str.ofString "some") = some (.ref a)
  at' : ∃ t, m (PySem.Str.ofString "at") = some (.int j.1 t)
  nw : ∃ its k, news = [(a, W.listOf its k)] ∧ StrsAre its.toList (j.2.map S)
  par : ParAt x.cps.toList j.1 j.2
theorem parents_does (C : Cx w mean mg mb s.heap) (x : PySem.Str) (hx : x.length ≤ 900000) (t : Tok) :
    DoesN prog w 0 212 [.str x t] s (fun v nw => ∃ a its k, v = .ref a ∧ nw = [(a, W.listOf its k)] ∧ StrsAre its.toList ((parL x.cps.toList).map S)) (fun _ _ => False) := by
  intro Q E hR hX
  have hx1 : x.length ≤ 1048576 := by omega
  have ex := S_of x
  walk_at "mine go"
  refine while_by (ParJ x t _) (fun j => parMu x.cps.toList j.1) (Txt.find x (PySem.Str.ofString "/"), []) (by assumption) (by assumption) ⟨rfl, rfl, ⟨_, rfl⟩, ⟨_, _, rfl, .nil⟩, ?_⟩ ?_
  · have := par_first x.cps.toList
    rw [← ex] at this
    rw [lit_slash]
    exact this
  · intro j m₁ news₁ h tk hJ F N
    obtain ⟨j1, ys⟩ := j
    obtain ⟨h1, h2, ⟨t', h3⟩, ⟨its, k, rfl, h4⟩, h5⟩ := hJ
    dsimp only at h3 h4 h5
    have F := Mine.Fr.named F [(_, _), (_, _), (_, _)] (by intro p hp; simp only [List.mem_cons, List.not_mem_nil, or_false] at hp; rcases hp with rfl | rfl | rfl; exact h1; exact h2; exact h3)
    have hsz : its.size ≤ 900000 := by
      have a := par_le h5
      have b := strsAre_len h4
      rw [len_x] at a
      simp at b
      omega
    walk_at "mine steps"
    all_goals walk_at "mine tidy"
    · have hj : 0 ≤ j1 := by assumption
      rcases h5 with ⟨e, _⟩ | ⟨kk, rfl, e1, e2⟩
      · omega
      refine WNext.intro (Txt.find3 x (PySem.Str.ofString "/") ((kk : Int) + 1), ys ++ [x.cps.toList.take kk]) (by assumption) (by assumption) ?_ ⟨rfl, rfl, ⟨_, rfl⟩, ⟨_, _, rfl, ?_⟩, ?_⟩
      · have := par_mu e1
        rw [← ex] at this
        rw [lit_slash]
        exact this
      · rw [Array.toList_push, List.map_append]
        refine strsAre_app h4 ?_
        have hk : kk ≤ x.cps.toList.length := Nat.le_of_lt (List.getElem?_eq_some_iff.mp e1).1
        have := slice_to x.cps.toList hk
        rw [← ex] at this
        rw [this]
        exact .cons _ _ .nil
      · have := par_next e1 e2
        rw [← ex] at this
        rw [lit_slash]
        exact this
    · have hj : ¬ 0 ≤ j1 := by assumption
      rcases h5 with ⟨_, rfl⟩ | ⟨kk, rfl, _⟩
      · exact hR _ _ _ _ (keepsF F) (madeOf N) ⟨_, _, _, rfl, rfl, h4⟩
      · omega
end
theorem range_size (n : Nat) : Builtin.Range.rangeSize 0 (n : Int) 1 = (n : Int) := by
  unfold Builtin.Range.rangeSize
  split
  · split <;> omega
  · omega
theorem rangeSize_one (a b : Int) : Builtin.Range.rangeSize a b 1 = if a < b then b - a else 0 := by
  unfold Builtin.Range.rangeSize
  rw [if_pos (by decide)]
  split
  · rw [Int.ediv_one]; omega
  · rfl
theorem range_small {a b : Int} (ha : -(2 ^ 62) ≤ a) (ha' : a < 2 ^ 62) (hb : -(2 ^ 62) ≤ b) (hb' : b < 2 ^ 62) : Builtin.Range.small a b 1 = true := by
  unfold Builtin.Range.small
  rw [rangeSize_one]
  simp only [Builtin.Range.rangeFitsLong, Bool.and_eq_true, Bool.or_eq_true, decide_eq_true_eq, beq_iff_eq, show ((1 : Int) > 0) by decide, if_true]
  split <;> omega
theorem S_beq' (a b : Nat) : ((⟨#[a]⟩ : PySem.Str) == ⟨#[b]⟩) = decide (a = b) := by
  have := S_beq [a] [b]
  simpa using this
theorem item_at {x : PySem.Str} {i : Nat} (hi : i < x.length) : ∃ c, x.cps.toList[i]? = some c ∧ Txt.item x (i : Int) = ⟨#[c]⟩ ∧ x.cps.toList.drop i = c :: x.cps.toList.drop (i + 1) := by
  have hl : i < x.cps.toList.length := by rw [len_x]; exact hi
  refine ⟨x.cps.toList[i], List.getElem?_eq_getElem hl, ?_, List.drop_eq_getElem_cons hl⟩
  have h1 : seqIndex? (i : Int) x.length = some i := by
    rw [StrLaws.seqIndex_nonneg (by omega) (by omega)]; rfl
  unfold Txt.item Txt.charAt
  rw [h1]
  show (⟨#[(x.cps[i]?).getD 0]⟩ : PySem.Str) = _
  rw [Array.getElem?_eq_getElem (by simpa using hl)]
  simp
theorem wild_mem (c : Nat) : (Builtin.Str.occurrences (PySem.Str.ofString "%*") (⟨#[c]⟩ : PySem.Str) 0 (PySem.Str.ofString "%*").length 1).isEmpty = !decide (c = 37 ∨ c = 42) := by
  have h := StrLaws.found_one (PySem.Str.ofString "%*") c
  have hl : (PySem.Str.ofString "%*").cps.toList = [37, 42] := by decide +kernel
  rw [hl] at h
  generalize (Builtin.Str.occurrences (PySem.Str.ofString "%*") (⟨#[c]⟩ : PySem.Str) 0 (PySem.Str.ofString "%*").length 1).isEmpty = z at *
  cases z <;> simp at h ⊢ <;> omega
theorem wild_no {c : Nat} (h : (Builtin.Str.occurrences (PySem.Str.ofString "%*") (⟨#[c]⟩ : PySem.Str) 0 (PySem.Str.ofString "%*").length 1).isEmpty = true) : ¬ (c = 37 ∨ c = 42) := by
  rw [wild_mem] at h; simpa using h
theorem wild_yes {c : Nat} (h : (Builtin.Str.occurrences (PySem.Str.ofString "%*") (⟨#[c]⟩ : PySem.Str) 0 (PySem.Str.ofString "%*").length 1).isEmpty = false) : c = 37 ∨ c = 42 := by
  rw [wild_mem] at h; simp at h; omega
section
variable {prog : Program} {w : World} {A : Around} {E : Value → Shared → Prop} {s : Shared} {h₀ : Heap} {env : Env} {x : PySem.Str} {body : List Stmt} {Q : Flow → Shared → Prop}
/-- a loop over range(n) -/
theorem loop_upto {r : Addr} {n : Nat} {t u v : Tok} {m₀ : PySem.Str → Option Value} {news : List (Addr × Obj)} (J : Nat → (PySem.Str → Option Value) → List (Addr × Obj) → Prop)
    (hh : A.handled = none) (hr : IsRange s.heap r 0 (n : Int) 1 t u v) (hn : n ≤ 16777216) (F : Fr h₀ env.locals s.heap m₀) (N : News h₀ env.locals s.heap news) (hj : J 0 m₀ news)
    (turn : ∀ i k m₁ news₁ h tk own, i < n → news₁.map (·.1) = news.map (·.1) → OwnOff own (news.map (·.1)) → J i m₁ news₁ → Fr h₀ env.locals h (fun y => if y = x then some (.int (i : Int) k) else m₁ y) → News h₀ env.locals h (news₁ ++ own) →
      wpAny (model prog w) A (execs body env) (InvPostN h₀ env.locals (J (i + 1)) own (news.map (·.1)) { s with heap := h, toks := tk } Q) E { s with heap := h, toks := tk })
    (done : ∀ m₁ news₁ h tk, J n m₁ news₁ → Fr h₀ env.locals h m₁ → News h₀ env.locals h news₁ → Q .next { s with heap := h, toks := tk }) :
    wpAny (model prog w) A (pyIter (.ref r)) (fun it s₂ => LoopAtV prog w A h₀ env x body Q E it s₂) E s := by
  refine loop_range (n := n) J hh hr (range_small (by omega) (by omega) (by omega) (by omega)) (range_size n) F N hj (fun i k m₁ news₁ h tk own hi ha ho hJ F N => ?_) done
  have e : (0 + (i : Int) * 1) = (i : Int) := by omega
  rw [e] at F
  exact turn i k m₁ news₁ h tk own hi ha ho hJ F N
end
section
variable {prog : Program} {w : World} {A : Around} {R : Result → Shared → Prop} {E : Value → Shared → Prop} {h : Heap} {g : Array GenState} {d : Drawn} {t : Nat} {os : OsState}
variable {nm q : Str} {C N : Addr} {bs bm : List Value} {hdct : Bool} {sn : List Str} {sub : List Value} {ab : Bool} {col : Option Bool} {dd : Option Addr} {k0 k1 k2 k3 k5 : Option Value}
theorem exc_new_at {rest : List Value} (hC : h.get? C = some (excClassObj nm q C N bs bm hdct sn sub ab col dd k0 k1 k2 k3 k5 "Exception.__new__"))
    (hcB : (Value.ref C :: bm).contains (.type "Exception") = true) (hcA : (Value.ref C :: bm).contains (.type "AttributeError") = false) (hcN : (Value.ref C :: bm).contains (.type "NameError") = false)
    (hq : R (.ok (.ret (.ref (h.objs.size + 1)))) ⟨(h.push { cls := .type "tuple", data := .seq rest.toArray }).push
      { cls := .ref C, data := .fields #[.ref h.objs.size, .none, .none, .none, .bool false, .none] }, g, d, t, os⟩) (hrest : rest.length ≤ sizeLine := by size_fits) :
    codeAny (model prog w) A (.builtin "Exception.__new__" ⟨.ref C :: rest, []⟩) R ⟨h, g, d, t, os⟩ := by
  have Fn := F.excBase_Exception
  have hends := Fn.ends
  refine codeAny_builtinAt Fn.entry ?_
  unfold Builtin.«BaseException.__new__»
  refine PySem.wpAt_bind ?_
  show PySem.wpAt _ _ _ (stack >>= _) _ _ _
  refine PySem.wpAt_bind (PySem.wpAt_stack fun p below => PySem.wpAt_of_wpAny ?_)
  wp_walk
  refine PySem.wpAt_of_wpAny ?_
  rw [Fn.owner]
  repeat (first | with_reducible refine wpAny_madeHere_exc Fn.canon hC ?_ | with_reducible refine wpAny_loadPart_at hC ?_ | (with_reducible refine wpAny_isSubtype_exc hC ?_; first | rw [hcB] | rw [hcA] | rw [hcN]) | wp_step)
  show R _ _
  rw [Heap.size_push]
  exact hq
theorem exc_type_call {K : Frag} {rest : List Value} {fI : Addr} {oI : Obj} {Q : Fin → Shared → Prop}
    (hC : h.get? C = some (excClassObj nm q C N bs bm hdct sn sub ab col dd k0 k1 k2 k3 k5 "Exception.__new__"))
    (hcB : (Value.ref C :: bm).contains (.type "Exception") = true) (hcA : (Value.ref C :: bm).contains (.type "AttributeError") = false) (hcN : (Value.ref C :: bm).contains (.type "NameError") = false)
    (X : K.In h) (hi : findIn K (.ref C) "__init__" = some (some (.ref fI)))
    (hfI : h.get? fI = some oI) (hfc : oI.cls = .type "function")
    (hq : ∀ h' e, Heap.MadeExcOf h h' e (.ref C) rest → h.objs.size ≤ h'.objs.size →
      wpAny (model prog w) A (call (.ref fI) (.ref e :: rest)) (fun r s' => r = .none ∧ Q (.done (.ret (.ref e))) s') E ⟨h', g, d, t, os⟩) (hrest : rest.length ≤ sizeLine := by size_fits) :
    wpAny (model prog w) A (Builtin.«type.__call__» ⟨.ref C :: rest, []⟩) Q E ⟨h, g, d, t, os⟩ := by
  have F := F.excBase_Exception
  have hbm : bm.contains (.type "Exception") = true := by
    rw [List.contains_cons] at hcB
    simpa using hcB
  repeat (first | with_reducible refine wpAny_loadPart_at hC ?_ | with_reducible refine wpAny_madeBy_exc hC ?_ | wp_step)
  refine codeAny_call_builtin_code (Code.quiet_builtin _ F.quiet) (wpAny_check_new_subU F hbm (.base (bmB := bm)) hC ?_)
  refine exc_new_at hC hcB hcA hcN ?_ hrest
  show wpAny _ _ _ _ _ _
  have hC₁ := Heap.get?_push_of_some { cls := .ref C, data := .fields #[.ref h.objs.size, .none, .none, .none, .bool false, .none] }
    (Heap.get?_push_of_some { cls := .type "tuple", data := .seq rest.toArray } hC)
  have hfI₁ := Heap.get?_push_of_some { cls := .ref C, data := .fields #[.ref h.objs.size, .none, .none, .none, .bool false, .none] }
    (Heap.get?_push_of_some { cls := .type "tuple", data := .seq rest.toArray } hfI)
  have X₁ := X.keeps (h' := (h.push { cls := .type "tuple", data := .seq rest.toArray }).push { cls := .ref C, data := .fields #[.ref h.objs.size, .none, .none, .none, .bool false, .none] })
    fun b o e => Heap.get?_push_of_some _ (Heap.get?_push_of_some _ e)
  have L₁ := looks_findIn (M := model prog w) X₁ hi
  have hget : ((h.push { cls := .type "tuple", data := .seq rest.toArray }).push
      { cls := .ref C, data := .fields #[.ref h.objs.size, .none, .none, .none, .bool false, .none] }).get? (h.objs.size + 1) = some
      { cls := .ref C, data := .fields #[.ref h.objs.size, .none, .none, .none, .bool false, .none] } := by heap_get
  have hcC : (Value.ref C :: bm).contains (.ref C) = true := by simp
  unfold isInstance
  repeat (first | with_reducible refine wpAny_loadPart_at hget ?_ | (with_reducible refine wpAny_isSubtype_exc hC₁ ?_; rw [hcC]) | wp_step)
  show wpAny _ _ (typeLookup (.ref C) _) _ _ _
  refine L₁ _ _ _ _ (fun _ _ e => e) ?_
  refine wpAny_holding (wpAny_bind ?_)
  unfold bindSpecial
  refine wpAny_bind (wpAny_typeOf (T := "function") ⟨_, hfI₁, hfc⟩ ?_)
  rw [if_pos (by decide)]
  refine wpAny_pure (wpAny_bind (wpAny_mono (hq _ (h.objs.size + 1) ⟨fun b o hb => Heap.get?_push_of_some _ (Heap.get?_push_of_some _ hb), Heap.get?_none_of_le (Nat.le_succ _), h.objs.size, hget, Heap.get?_none_of_le (Nat.le_refl _), ?_⟩ ?_) (fun r s' hr => ?_) fun _ _ x => x))
  · exact Heap.get?_push_of_some _ (Heap.get?_push_at rfl rfl)
  · rw [Heap.size_push, Heap.size_push]; omega
  · obtain ⟨rfl, hQ⟩ := hr
    wp_walk
    exact hQ
theorem exc_call {K : Frag} {rest : List Value} {fI : Addr} {oI : Obj} {Q : Value → Shared → Prop}
    (hC : h.get? C = some (excClassObj nm q C N bs bm hdct sn sub ab col dd k0 k1 k2 k3 k5 "Exception.__new__"))
    (hcB : (Value.ref C :: bm).contains (.type "Exception") = true) (hcA : (Value.ref C :: bm).contains (.type "AttributeError") = false) (hcN : (Value.ref C :: bm).contains (.type "NameError") = false)
    (X : K.In h) (hi : findIn K (.ref C) "__init__" = some (some (.ref fI)))
    (hfI : h.get? fI = some oI) (hfc : oI.cls = .type "function")
    (hq : ∀ h' e, Heap.MadeExcOf h h' e (.ref C) rest → h.objs.size ≤ h'.objs.size →
      wpAny (model prog w) (A.under (.builtin "type.__call__" ⟨.ref C :: rest, []⟩)) (call (.ref fI) (.ref e :: rest)) (fun r s' => r = .none ∧ Q (.ref e) s') E ⟨h', g, d, t, os⟩) (hrest : rest.length ≤ sizeLine := by size_fits) :
    wpAny (model prog w) A (call (.ref C) rest) Q E ⟨h, g, d, t, os⟩ := by
  have f1 := tc_lookup
  have f2 := tc_bind (.ref C)
  have hT : (⟨h, g, d, t, os⟩ : Shared).TypeIs (.ref C) "type" := ⟨_, hC, rfl⟩
  refine wpAny_call (codeAny_of_tree ?_)
  show wpAny _ _ (callAny (.ref C) _) _ _ _
  repeat (any_goals (first | assumption | with_reducible refine wpAny_loadPart_at hC ?_ | wp_step))
  refine ⟨rfl, ?_⟩
  refine codeAny_call_builtin_at (Code.quiet_builtin _ (by decide +kernel)) entry_typeCall (wpAny_check_type_call_sub hC (exc_type_call (hrest := hrest) hC hcB hcA hcN X hi hfI hfc fun h' e hm hs => ?_))
  exact hq h' e hm hs
end
section
variable {prog : Program} {w : World} {A : Around} {s : Shared} {Q E : Value → Shared → Prop} {mean : ExcName → Option Value} {mg mb : PySem.Str → Option Value}
  {name qual : PySem.Str} {params : Arguments} {body : List Stmt} {scope : Scope} {dV kV doc pm cdv ct oc : Value} {an od : Option Addr} {osl : Array (Option Value)} {f : Addr} {args : List Value} {binds : List (PySem.Str × Value)}
/-- a def is entered with made objects of the caller's in the ledger -/
theorem enterN {h₀ : Heap} {news : List (Addr × Obj)} (C : Cx w mean mg mb h₀) (hk₀ : Keeps h₀ s.heap) (hs₀ : h₀.objs.size ≤ s.heap.objs.size) (hN : ∀ p ∈ news, s.heap.get? p.1 = some p.2 ∧ h₀.get? p.1 = none)
    (ho : (hd.heap_39 w.params).lookup f = some ⟨oc, od, .func (fnOf name qual params body scope dV kV doc pm an cdv ct), osl⟩) (hcd : codeIn (hd.heap_39 w.params) cdv qual = true)
    (hroom : A.depth < recursionLimit) (hbind : BindsTo s (fnOf name qual params body scope dV kV doc pm an cdv ct) ⟨args, []⟩ binds) (hloc : ∀ y ∈ binds, scope.names.lookup y.1 = some .local)
    (hco : scope.isCoroutine = false) (hgen : scope.isGenerator = false) (hk : scope.kind = .function) (hcell : ∀ x ∈ scope.names, x.2 ≠ .cell)
    (h : ∀ L h₁, Fr h₀ L h₁ (fun y => binds.reverse.lookup y) → News h₀ L h₁ news → (hd.heap_39 w.params).In h₀ → Top hd.view_39 (looseW hd.view_39 [PySem.Str.ofString "PostError"]) mean mg mb h₀ →
      wpAny (model prog w) (A.deeper (envOf qual scope L f cdv)) (execs body (envOf qual scope L f cdv))
        (fun fl s' => Q (match fl with | .ret v => v | _ => .none) s')
        (fun e s' => wpAny (model prog w) (A.deeper (envOf qual scope L f cdv)) (leaving (envOf qual scope L f cdv) e) (fun _ s'' => E e s'') (fun e' s'' => E e' s'') s')
        { s with heap := h₁, toks := s.toks + binds.length }) :
    wpAny (model prog w) A (call (.ref f) args) Q E s := by
  have C' := C.keeps hk₀
  refine wpAny_call (codeAny_call_def (fd := fnOf name qual params body scope dV kV doc pm an cdv ct) hroom (C'.X _ _ ho) rfl C'.T.nolimit (codeRec_of C'.X hcd) rfl hbind hcell hloc (fun h₁ hns hk₁ => ?_) hco hgen hk)
  exact h _ h₁ ⟨hns, fun b o e => hk₁ b o (hk₀ b o e), hs₀⟩ (fun p hp => ⟨hk₁ _ _ (hN p hp).1, Nat.ne_of_lt (Heap.lt_size (hN p hp).1), (hN p hp).2⟩) C.X C.T
end
section
variable {prog : Program} {w : World} {A : Around} {s : Shared} {Q E : Value → Shared → Prop} {mean : ExcName → Option Value} {mg mb : PySem.Str → Option Value}
@[reducible] noncomputable def excAt (t : Addr) : Obj := { cls := .ref 64, data := .fields #[.ref t, .none, .none, .none, .bool false, .none] }
theorem exc_getm {K : Frag} {pl : Sem Bool} {Q : Value × List Value → Shared → Prop} (X : K.In s.heap)
    (e : findCls K (.type "Exception") (.type "type") (PySem.Str.ofString "__init__") = some (.val (.builtin "Exception.__init__")))
    (h : Q (.builtin "Exception.__init__", []) { s with toks := s.toks + 1 }) :
    wpAny (model prog w) A (getMethod (.type "Exception") (PySem.Str.ofString "__init__") pl) Q E s := by
  have hstub : opaqueClassAbove (.type "Exception") = pure none := by unfold opaqueClassAbove; dsimp only; rw [show Manifest.isStub "Exception" = false by decide +kernel]; rfl
  have ht : typeOf (.type "Exception") = pure (.type "type") := by first | rfl | kernel_rfl
  have L0 : Looks (model prog w) s.heap (typeOf (.type "Exception")) (.type "type") := Looks.of_pure ht
  have hg : findIn K (.type "type") "__getattribute__" = some (some (.builtin "type.__getattribute__")) := type_tga
  unfold getMethod specialOf
  refine wpAny_bind (wpAny_bind (L0.here ((looks_findIn X hg).here ?_)))
  dsimp only
  rw [if_pos canon_tga]
  refine wpAny_bind (wpAny_mono (Q := fun v => Q (v, [])) (E := E) ?_ (fun _ _ z => wpAny_pure z) fun _ _ z => z)
  have LO : Looks (model prog w) s.heap (opaqueClassAbove (.type "Exception")) none := Looks.of_pure hstub
  refine cls_open X LO L0 hg (looks_hook X (r := none) (by rfl)) (by show subIn K _ _ = _; rfl) e ?_
  show wpAny _ _ (ret _) _ _ _
  refine wpAny_pure ?_
  show wpAny _ _ (handedOut _) _ _ _
  rw [handedOut_of (by rfl)]
  exact wpAny_pure h
end
section
variable {prog : Program} {w : World} {A : Around} {E : Value → Shared → Prop} {h : Heap} {g : Array GenState} {d : Drawn} {t : Nat} {os : OsState}
variable {nm q : Str} {C N x : Addr} {bs bm : List Value} {hdct : Bool} {sn : List Str} {sub : List Value} {ab : Bool} {col : Option Bool} {dd : Option Addr} {k0 k1 k2 k3 k5 : Option Value} {newId : String}
theorem exc_check_init {M : Model} {e : Addr} {oe : Obj} {rest : List Value} {Q : Unit → Shared → Prop} (hcB : (Value.ref C :: bm).contains (.type "Exception") = true)
    (hC : h.get? C = some (excClassObj nm q C N bs bm hdct sn sub ab col dd k0 k1 k2 k3 k5 newId)) (he : h.get? e = some oe) (hcls : oe.cls = .ref C) (hq : Q () ⟨h, g, d, t, os⟩) :
    wpAny M A (checkBuiltinCall "Exception.__init__" ⟨.ref e :: rest, []⟩) Q E ⟨h, g, d, t, os⟩ := by
  have F := F.excBase_Exception
  have hshort := F.noStar
  simp only [checkBuiltinCall, F.initKind, F.initSplit, F.initRow]
  repeat (first | (with_reducible refine wpAny_loadPart_at he ?_; rw [hcls]) | with_reducible refine wpAny_loadPart_at hC ?_ | (with_reducible refine wpAny_isSubtype_exc hC ?_; rw [hcB]) | wp_step)
  refine wpAny_onRaise ?_
  rw [show ∀ (a b : String) (n : Nat), Bind.check ⟨.positional, "*", "Exception", .self, [⟨"args", .varPos, false⟩]⟩ a b n (List.map (fun x => x.fst) ({ pos := Value.ref e :: rest } : Args).kw) = pure () from
    fun a b n => check_star_args _ _ _ _ _ _]
  exact wpAny_pure hq
theorem exc_init_call {e t0 : Addr} {rest : List Value} {Q : Value → Shared → Prop} (hcB : (Value.ref C :: bm).contains (.type "Exception") = true)
    (hC : h.get? C = some (excClassObj nm q C N bs bm hdct sn sub ab col dd k0 k1 k2 k3 k5 newId)) (he : h.get? e = some { cls := .ref C, data := .fields #[.ref t0, .none, .none, .none, .bool false, .none] })
    (hq : ∀ h', (∀ b o, b ≠ e → h.get? b = some o → h'.get? b = some o) → h'.get? e = some { cls := .ref C, data := .fields #[.ref h.objs.size, .none, .none, .none, .bool false, .none] } → h.objs.size ≤ h'.objs.size → Q .none ⟨h', g, d, t, os⟩)
    (hrest : rest.length ≤ sizeLine := by size_fits) :
    wpAny (model prog w) A (call (.builtin "Exception.__init__") (.ref e :: rest)) Q E ⟨h, g, d, t, os⟩ := by
  have F := F.excBase_Exception
  refine wpAny_call (codeAny_call_builtin F.init.plain F.initEntry (exc_check_init hcB hC he rfl ?_))
  wp_walk
  refine hq _ (fun b o hb hg => ?_) ?_ ?_
  · rw [Heap.get?_update_other _ _ (Ne.symm hb)]
    exact Heap.get?_push_of_some _ hg
  · rw [Heap.get?_update_self _ (Heap.get?_push_of_some _ he) rfl]
    rfl
  · rw [Heap.size_update, Heap.size_push]
    omega
end
section
variable {prog : Program} {w : World} {A : Around} {E : Value → Shared → Prop} {h : Heap} {g : Array GenState} {d : Drawn} {t : Nat} {os : OsState}
variable {nm q : Str} {C N x : Addr} {bs bm : List Value} {hdct : Bool} {sn : List Str} {sub : List Value} {ab : Bool} {col : Option Bool} {dd : Option Addr} {k0 k1 k2 k3 k5 : Option Value} {newId : String}
theorem exc_check_sa {M : Model} {o : Obj} {nameV v : Value} {Q : Unit → Shared → Prop} (hco : (Value.ref C :: bm).contains (.type "object") = true)
    (hC : h.get? C = some (excClassObj nm q C N bs bm true sn sub ab col dd k0 k1 k2 k3 k5 newId)) (hx : h.get? x = some o) (hc : o.cls = .ref C) (hq : Q () ⟨h, g, d, t, os⟩) :
    wpAny M A (checkBuiltinCall "object.__setattr__" ⟨[.ref x, nameV, v], []⟩) Q E ⟨h, g, d, t, os⟩ := by
  have SF := F.store_Exception
  have ha := SF.args (.ref x) nameV v
  simp only [checkBuiltinCall, SF.kind, SF.split]
  refine wpAny_bind ?_
  unfold isInstance
  repeat (first | (with_reducible refine wpAny_loadPart_at hx ?_; rw [hc]) | (with_reducible refine wpAny_isSubtype_exc hC ?_; rw [hco]) | wp_step)
  exact hq
theorem exc_set {K : Frag} {mA : PySem.Str → Option Value} {name : PySem.Str} {v : Value} {ns : List PySem.Str} {Q : Unit → Shared → Prop}
    (hC : h.get? C = some (excClassObj nm q C N bs bm true sn sub ab col dd k0 k1 k2 k3 k5 newId)) (X : K.In h)
    (hco : (Value.ref C :: bm).contains (.type "object") = true) (hpass : ∀ self : Value, refuseLoop self "__setattr__" bm = pure ())
    (hs : findIn K (.ref C) "__setattr__" = some (some (.builtin "object.__setattr__"))) (hna : findIn K (.ref C) name = some none) (I : h.Inst x C mA)
    (hq : ∀ h' tk', h'.Inst x C (fun y => if y = name then some v else mA y) →
      (∀ b o, b ≠ x → (∀ o₀ dx, h.get? x = some o₀ → o₀.dict = some dx → b ≠ dx) → h.get? b = some o → h'.get? b = some o) →
      (∀ o₀, h.get? x = some o₀ → ∃ o₁, h'.get? x = some o₁ ∧ o₁.cls = o₀.cls ∧ o₁.data = o₀.data ∧ o₁.slots = o₀.slots ∧ (∀ dx, o₀.dict = some dx → o₁.dict = some dx) ∧ ∃ dx, o₁.dict = some dx ∧ (o₀.dict = none → h.get? dx = none)) →
      h.objs.size ≤ h'.objs.size → Q () ⟨h', g, d, tk', os⟩) (hw : Within mA ns := by within_ways) (hsz : ns.length ≤ sizeLine := by size_fits) :
    wpAny (model prog w) A (setAttr (.ref x) name v) Q E ⟨h, g, d, t, os⟩ := by
  obtain ⟨o, hx, hc, hnc, hd⟩ := I
  have SF := F.store_Exception
  have f3 := SF.slot.bind (.ref x)
  have Ls := looks_findIn (M := model prog w) X hs
  have La := looks_findIn (M := model prog w) X hna
  have ht : Looks (model prog w) h (typeOf (.ref x)) (.ref C) := fun A Q E s k q => by
    unfold typeOf
    exact wpAny_bind (wpAny_load (k _ _ hx) (wpAny_pure (by rw [hc]; exact q)))
  unfold setAttr callSpecial? specialOf
  refine wpAny_bind (wpAny_mkText (wpAny_bind (wpAny_bind (wpAny_bind (ht.at (Ls.at ?_))))))
  dsimp only
  refine wpAny_holding (wpAny_bind (wpAny_of_eq f3 (wpAny_bind ?_)))
  refine wpAny_call (codeAny_call_builtin SF.slot.plain SF.entry (exc_check_sa hco hC hx hc ?_))
  have hpass := hpass (.ref x)
  unfold Builtin.«object.__setattr__»
  repeat (first | rw [refuse_eq] | (rw [refuseLoop_ref, hpass]) | (with_reducible refine wpAny_loadPart_at hx ?_; rw [hc]) | with_reducible refine wpAny_mroOf_exc hC ?_ | with_reducible refine La.at ?_ | wp_step)
  have same : ∀ o₁ : Obj, h.get? x = some o₁ → o₁ = o := fun o₁ h₁ => Option.some.inj (h₁.symm.trans hx)
  rcases hd with ⟨hdn, hmA⟩ | ⟨dx, hdx, hne, hns⟩
  · rw [hdn]
    dsimp only
    rw [if_neg (by simp [typeHasDict])]
    split
    · rename_i c hcd
      exact absurd hcd (hnc c)
    · have hx₁ : (h.push { cls := .type "dict", data := .dict #[] }).get? x = some o := Heap.get?_push_of_some _ hx
      have hxs : x ≠ h.objs.size := Nat.ne_of_lt (Heap.lt_size hx)
      refine wpAny_bind (wpAny_alloc' ?_)
      refine wpAny_bind (wpAny_update' hx₁ ?_)
      refine wpAny_pure ?_
      have hgd : ((h.push { cls := .type "dict", data := .dict #[] }).update x fun o => { cls := o.cls, dict := some h.objs.size, data := o.data, slots := o.slots }).get? h.objs.size
          = some { cls := .type "dict", data := .dict #[] } :=
        (Heap.get?_update_ne _ _ _ _ hxs.symm).trans (Heap.get?_push_at rfl rfl)
      have hnd : ((h.push { cls := .type "dict", data := .dict #[] }).update x fun o => { cls := o.cls, dict := some h.objs.size, data := o.data, slots := o.slots }).Ns h.objs.size (fun _ => none) :=
        ⟨_, #[], _, hgd, rfl, fun e he => absurd he (by simp), fun _ => rfl⟩
      dsimp only
      unfold Builtin.ObjectAttr.storeInDict Builtin.ObjectAttr.newKeyGuard
      refine wpAny_bind (wpAny_pure (wpAny_bind (wpAny_nsSet1 (Heap.Ns1.of_empty hnd) fun h' hn' hs => ?_)))
      obtain ⟨oD, esD, epD, hoD, hdD, hcD⟩ := hn'.count (Within.cons name v Within.nil)
      refine wpAny_bind (wpAny_lookBehind hoD (by rw [hdD]; exact pastItsLine_dict (Nat.le_trans hcD (by rw [List.length_cons, List.length_nil, sizeLine_eq]; omega))) ?_)
      wp_walk
      have hx' : h'.get? x = some { cls := o.cls, dict := some h.objs.size, data := o.data, slots := o.slots } := by
        refine (hs.2 x hxs).trans (Heap.get?_update_self _ hx₁ ?_)
        have hfr := (Heap.get?_some_iff.mp hx).2
        obtain ⟨oc, od, odt, osl⟩ := o
        cases odt <;> first | rfl | exact hfr
      refine hq h' _ ⟨{ cls := o.cls, dict := some h.objs.size, data := o.data, slots := o.slots }, hx', hc, hnc, .inr ⟨h.objs.size, rfl, hxs.symm, ?_⟩⟩ (fun b ob hbx _ hb => ?_)
        (fun o₀ h₀ => by obtain rfl := same o₀ h₀; exact ⟨_, hx', rfl, rfl, rfl, (fun dx e => by rw [hdn] at e; cases e), _, rfl, fun _ => Heap.get?_none_of_le (Nat.le_refl _)⟩) ?_
      · obtain ⟨o', es, ep, e1, e2, e3, eu, e4⟩ := hn'
        exact ⟨o', es, ep, e1, e2, e3, eu, fun y => by rw [e4 y]; by_cases hy : y = name <;> simp [hy, hmA]⟩
      · exact (hs.2 b (Nat.ne_of_lt (Heap.lt_size hb))).trans ((Heap.get?_update_ne _ _ _ _ hbx).trans (Heap.get?_push_of_some _ hb))
      · rw [hs.1, Heap.size_update, Heap.size_push]
        omega
  · rw [hdx]
    refine wpAny_pure ?_
    dsimp only
    unfold Builtin.ObjectAttr.storeInDict Builtin.ObjectAttr.newKeyGuard
    refine wpAny_bind (wpAny_pure (wpAny_bind (wpAny_nsSet1 hns fun h' hn' hs => ?_)))
    obtain ⟨oD, esD, epD, hoD, hdD, hcD⟩ := hn'.count (Within.cons name v hw)
    refine wpAny_bind (wpAny_lookBehind hoD (by rw [hdD]; exact pastItsLine_dict (Nat.le_trans hcD (by rw [List.length_cons]; omega))) ?_)
    wp_walk
    refine hq h' _ ⟨o, (hs.2 x hne.symm).trans hx, hc, hnc, .inr ⟨dx, hdx, hne, hn'⟩⟩ (fun b ob _ hbd hb => ?_)
      (fun o₀ h₀ => by obtain rfl := same o₀ h₀; exact ⟨_, (hs.2 x hne.symm).trans h₀, rfl, rfl, rfl, (fun _ e => e), dx, hdx, fun e => by rw [hdx] at e; cases e⟩) (Nat.le_of_eq hs.1.symm)
    exact (hs.2 b (hbd o dx hx hdx)).trans hb
end
section
variable {prog : Program} {w : World} {A : Around} {s : Shared} {Q E : Value → Shared → Prop} {mean : ExcName → Option Value} {mg mb : PySem.Str → Option Value}
@[reducible] noncomputable def nfTail : List Value := [.ref 39, .type "Exception", .type "BaseException", .type "object"]
theorem nf_pass (self : Value) : refuseLoop self "__setattr__" nfTail = pure () := (refuseLoop_ref self "__setattr__" 39 _).trans (F.store_Exception.passes self)
theorem nf_cls {h : Heap} (X : (hd.heap_39 w.params).In h) : h.get? 64 = some (excClassObj (PySem.Str.ofString "NameFault") (PySem.Str.ofString "NameFault") 64 63 [.ref 39] nfTail true [] [] false none none (some (Value.ref 55)) none (some (Value.str (PySem.Str.ofString "NameFault") 245)) (some (Value.str (PySem.Str.ofString "NameFault") 253)) (some (Value.bool true)) "Exception.__new__") := X _ _ (by with_unfolding_all rfl)
theorem Fr.but {h₀ h h' : Heap} {L e : Addr} {m : PySem.Str → Option Value} (F : Fr h₀ L h m) (hk : ∀ b o, b ≠ e → h.get? b = some o → h'.get? b = some o) (hL : L ≠ e) (h0 : h₀.get? e = none) : Fr h₀ L h' m := by
  obtain ⟨⟨o, es, ep, ho, r⟩, k, a⟩ := F
  exact ⟨⟨o, es, ep, hk _ _ hL ho, r⟩, fun b o hb => hk _ _ (fun q => by rw [q, h0] at hb; cases hb) (k b o hb), a⟩
theorem Fr.but2 {h₀ h h' : Heap} {L e D : Addr} {m : PySem.Str → Option Value} (F : Fr h₀ L h m) (hk : ∀ b o, b ≠ e → b ≠ D → h.get? b = some o → h'.get? b = some o) (hL : L ≠ e) (hL' : L ≠ D) (h0 : h₀.get? e = none) (h0' : h₀.get? D = none) : Fr h₀ L h' m := by
  obtain ⟨⟨o, es, ep, ho, r⟩, k, a⟩ := F
  exact ⟨⟨o, es, ep, hk _ _ hL hL' ho, r⟩, fun b o hb => hk _ _ (fun q => by rw [q, h0] at hb; cases hb) (fun q => by rw [q, h0'] at hb; cases hb) (k b o hb), a⟩
structure NFMade (h₀ h' : Heap) (e : Addr) (at' : Int) : Prop where
  keep : Keeps h₀ h'
  new : h₀.get? e = none
  obj : ∃ tt D mA t, h'.get? e = some { cls := .ref 64, dict := some D, data := .fields #[.ref tt, .none, .none, .none, .bool false, .none] } ∧ h'.Ns D mA ∧ mA (PySem.Str.ofString "at") = some (.int at' t) ∧ h₀.get? D = none ∧ D ≠ e
theorem init_does {h₀ : Heap} {e t : Addr} {what : PySem.Str} {at' : Int} {t1 t2 : Tok} (C : Cx w mean mg mb h₀) (hk₀ : Keeps h₀ s.heap) (hs₀ : h₀.objs.size ≤ s.heap.objs.size) (he : s.heap.get? e = some (excAt t)) (hen : h₀.get? e = none)
    (h1 : A.handled = none) (h2 : A.depth ≤ 900) (h3 : A.units ≤ 9000) {Q : Value → Shared → Prop} (hQ : ∀ h' tk', NFMade h₀ h' e at' → Q .none { s with heap := h', toks := tk' }) :
    wpAny (model prog w) A (call (.ref 29) [.ref e, .str what t1, .int at' t2]) Q E s := by
  walk_at "mine fill"
  k_dflt (refine' enterN (news := [(e, excAt t)]) C hk₀ hs₀ ?kN ?k6 ?k7 ?k8 ?k9 ?kB ?c2 ?c3 ?c4 ?c5 ?_)
  case kN => (intro p hp; rw [List.mem_singleton.mp hp]; exact ⟨he, hen⟩)
  case k6 => k_is
  case k7 => k_is
  case k8 => (have : recursionLimit = 1000 := rfl; omega)
  case k9 => exact binds_K (K := hd.heap_39 w.params) (C.X.keeps hk₀) rfl rfl rfl rfl rfl
  case kB => exact locs rfl
  case c2 => exact rfl
  case c3 => exact rfl
  case c4 => exact rfl
  case c5 => decide
  intro L' h' F' N' X' T'
  (try dsimp only)
  (try k_fold)
  walk_at "mine steps"
  refine exc_getm (X'.keeps F'.keep) (by rfl) ?_
  walk_at "mine steps"
  have hLe : L' ≠ e := fun q => (N' _ (.head _)).2.1 q.symm
  refine exc_init_call (bm := nfTail) rfl (nf_cls (X'.keeps F'.keep)) (N' _ (.head _)).1 ?_
  intro h2 hk2 he2 hs2
  have F2 := Mine.Fr.but F' hk2 hLe hen
  walk_at "mine steps"
  refine exc_set (bm := nfTail) (K := hd.heap_39 w.params) (mA := fun _ => none) (ns := []) (nf_cls (X'.keeps F2.keep)) (X'.keeps F2.keep) rfl nf_pass (by with_unfolding_all rfl) (by with_unfolding_all rfl)
    ⟨_, he2, rfl, (fun c q => by cases q), .inl ⟨rfl, fun _ => rfl⟩⟩ ?_
  intro h3 tk3 I3 hk3 hs3 hz3
  have hk3' : ∀ b o, b ≠ e → h2.get? b = some o → h3.get? b = some o := fun b o hb hg => hk3 b o hb (fun o₀ dx h q => by rw [he2] at h; cases h; cases q) hg
  have F3 := Mine.Fr.but F2 hk3' hLe hen
  obtain ⟨o3, he3, c3, d3, sl3, _, D, hD, hDn⟩ := hs3 _ he2
  have hDn := hDn rfl
  have hen2 : h₀.get? D = none := by
    cases q : h₀.get? D with
    | none => rfl
    | some o => have := F2.keep _ _ q; rw [hDn] at this; cases this
  have hLD : L' ≠ D := fun q => by
    obtain ⟨o, _, _, ho, _⟩ := F2.ns
    rw [q, hDn] at ho; cases ho
  walk_at "mine steps"
  refine exc_set (bm := nfTail) (K := hd.heap_39 w.params) (ns := [PySem.Str.ofString "what"]) (nf_cls (X'.keeps F3.keep)) (X'.keeps F3.keep) rfl nf_pass (by with_unfolding_all rfl) (by with_unfolding_all rfl) I3 ?_ (Within.cons _ _ Within.nil)
  intro h4 tk4 I4 hk4 hs4 hz4
  have hk4' : ∀ b o, b ≠ e → b ≠ D → h3.get? b = some o → h4.get? b = some o := fun b o hb hb' hg => hk4 b o hb (fun o₀ dx h q => by rw [he3] at h; cases h; rw [hD] at q; cases q; exact hb') hg
  have F4 := Mine.Fr.but2 F3 hk4' hLe hLD hen hen2
  obtain ⟨o4, he4, c4, d4, sl4, dd4, _⟩ := hs4 _ he3
  have hD4 := dd4 D hD
  walk_at "mine steps"
  obtain ⟨o5, he5, _, _, hI⟩ := I4
  rw [he4] at he5
  cases he5
  rcases hI with ⟨q, _⟩ | ⟨d, q, hne, hns⟩
  · rw [hD4] at q; cases q
  rw [hD4] at q
  cases q
  have hobj : h4.get? e = some { cls := .ref 64, dict := some D, data := .fields #[.ref h'.objs.size, .none, .none, .none, .bool false, .none] } := by
    rw [he4]
    obtain ⟨oc, od, odt, osl⟩ := o4
    dsimp only at c4 d4 sl4 hD4
    rw [c3] at c4
    rw [d3] at d4
    rw [sl3] at sl4
    rw [c4, d4, sl4, hD4]
  exact hQ _ _ ⟨F4.keep, hen, _, D, _, _, hobj, hns.ns, rfl, hen2, hne⟩
end
@[reducible] noncomputable def nfClsObj : Obj := excClassObj (PySem.Str.ofString "NameFault") (PySem.Str.ofString "NameFault") 64 63 [.ref 39] nfTail true [] [] false none none (some (Value.ref 55)) none (some (Value.str (PySem.Str.ofString "NameFault") 245)) (some (Value.str (PySem.Str.ofString "NameFault") 253)) (some (Value.bool true)) "Exception.__new__"
section
variable {prog : Program} {w : World} {A : Around} {s : Shared} {E : Value → Shared → Prop} {mean : ExcName → Option Value} {mg mb : PySem.Str → Option Value} {h₀ : Heap} {L : Addr} {m : PySem.Str → Option Value}
theorem nf_call {what : PySem.Str} {at' : Int} {t1 t2 : Tok} (C : Cx w mean mg mb s.heap) (h1 : A.handled = none) (h2 : A.depth ≤ 890) (h3 : A.units ≤ 8900) {Q : Value → Shared → Prop}
    (hQ : ∀ h' e tk', NFMade s.heap h' e at' → Q (.ref e) { s with heap := h', toks := tk' }) :
    wpAny (model prog w) A (call (.ref 64) [.str what t1, .int at' t2]) Q E s := by
  obtain ⟨h, g, d, t, os⟩ := s
  refine exc_call (bm := nfTail) (K := hd.heap_39 w.params) (fI := 29) (nf_cls C.X) rfl rfl rfl C.X (by with_unfolding_all rfl) (C.X 29 _ (by with_unfolding_all rfl)) rfl ?_
  intro h' e hm hs
  obtain ⟨tt, he, _, _⟩ := hm.there
  refine init_does (s := ⟨h', g, d, t, os⟩) (h₀ := h) C hm.keeps hs he hm.new ?_ ?_ ?_ ?_
  · exact h1
  · show A.depth + 1 ≤ 900; omega
  · first | (show A.units + 1 ≤ 9000; omega) | (show A.units + 2 ≤ 9000; omega) | (show A.units + 3 ≤ 9000; omega)
  · intro h'' tk' N
    exact ⟨rfl, hQ h'' e tk' N⟩
end
section
variable {M : Model} {A : Around} {E : Value → Shared → Prop} {env : Env} {s : Shared}
theorem nf_raise {x : Sem Value} {Q : Flow → Shared → Prop} (hh : A.handled = none)
    (h : wpAny M A x (fun v s₁ => ∃ e t D, v = .ref e ∧ s₁.heap.get? 64 = some nfClsObj ∧
      s₁.heap.get? e = some { cls := .ref 64, dict := some D, data := .fields #[.ref t, .none, .none, .none, .bool false, .none] } ∧ E (.ref e) s₁) E s) :
    wpAny M A (raiseStmt env (some x) none) Q E s := by
  have hcB : (Value.ref 64 :: nfTail).contains (.type "BaseException") = true := rfl
  unfold raiseStmt
  refine wpAny_bind (wpAny_mono h (fun v s₁ h₁ => ?_) fun _ _ x => x)
  obtain ⟨e, t, D, rfl, hC, he, hE⟩ := h₁
  obtain ⟨hp, g, d, tk, os⟩ := s₁
  repeat (first | with_reducible refine wpAny_loadPart_at he ?_ | with_reducible refine wpAny_loadPart_at hC ?_ | (with_reducible refine wpAny_isSubtype_exc hC ?_; rw [hcB]) | wp_step)
  exact wpAny_raiseNew_none hh hE
end
section
variable {prog : Program} {w : World} {A : Around} {s : Shared} {E : Value → Shared → Prop} {mean : ExcName → Option Value} {mg mb : PySem.Str → Option Value} {h₀ : Heap} {L : Addr} {m : PySem.Str → Option Value}
noncomputable def NfPost (h₀ : Heap) (E : Value → Shared → Prop) (vs : List Value) (s₂ : Shared) : Prop := ∃ what t1 at' t2, vs = [.str what t1, .int at' t2] ∧ Keeps h₀ s₂.heap ∧ ∀ h' e tk', NFMade s₂.heap h' e at' → E (.ref e) { s₂ with heap := h', toks := tk' }
theorem nf_stmt {x : PySem.Str} {np cpos pos : Pos} {e₀ : PySem.Expr} {rest : List PySem.Expr} {env : Env} {Q : Flow → Shared → Prop} (h1 : A.handled = none) (h2 : A.depth ≤ 890) (h3 : A.units ≤ 8900)
    (h : wpAny (model prog w) A (eval (.Name x np) env) (fun f s₁ => f = .ref 64 ∧ wpAny (model prog w) A (spliced (backTo cpos (starEach (e₀ :: rest) env)))
      (NfPost h₀ E) E s₁) E s) (X₀ : (hd.heap_39 w.params).In h₀) (T : Top hd.view_39 (looseW hd.view_39 [PySem.Str.ofString "PostError"]) mean mg mb h₀)
    (he : starEach (e₀ :: rest) env = (false, eval e₀ env) :: starEach rest env := by rfl) (hplain : (backTo cpos (starEach rest env)).any (·.1) = false := by rfl) :
    wpAny (model prog w) A (exec (.Raise (some (.Call (.Name x np) (e₀ :: rest) [] cpos)) none pos) env) Q E s := by
  have hplain' : (backTo cpos (starEach (e₀ :: rest) env)).any (·.1) = false := by rw [he]; show (false || (backTo cpos (starEach rest env)).any (·.1)) = false; rw [hplain]; rfl
  have hc : ∀ h, (hd.heap_39 w.params).In h → h.get? 64 = some nfClsObj := fun h X => nf_cls X
  rw [arm_exec_Raise]
  first
    | refine wpAny_bind (wpAny_standAt (nf_raise h1 (wpAny_bind (wpAny_mono (wpAny_Call_ofName (wpAny_mono h (fun f s₁ h₁ => ?_) fun _ _ x => x)) (fun v s₃ h₃ => wpAny_bind (wpAny_standAt (wpAny_pure h₃))) fun _ _ x => x))))
    | (simp only [evalOpt, Option.map]; refine wpAny_bind (wpAny_standAt (nf_raise h1 (wpAny_bind (wpAny_mono (wpAny_Call_ofName (wpAny_mono h (fun f s₁ h₁ => ?_) fun _ _ x => x)) (fun v s₃ h₃ => wpAny_bind (wpAny_standAt (wpAny_pure h₃))) fun _ _ x => x)))))
    | (refine wpAny_bind (wpAny_standAt (nf_raise h1 ?_)); refine wpAny_bind (wpAny_mono (wpAny_Call_ofName (wpAny_mono h (fun f s₁ h₁ => ?_) fun _ _ x => x)) (fun v s₃ h₃ => wpAny_bind (wpAny_standAt (wpAny_pure h₃))) fun _ _ x => x))
  obtain ⟨rfl, h₁⟩ := h₁
  rw [he] at h₁ ⊢
  unfold callWith
  refine wpAny_bind (wpAny_holding (wpAny_mono (Calls.evalArgs_plain (Q := fun a s₂ => a.kw = [] ∧ ∃ what t1 at' t2, a.pos = [.str what t1, .int at' t2] ∧ Cx w mean mg mb s₂.heap ∧ ∀ h' e tk', NFMade s₂.heap h' e at' → E (.ref e) { s₂ with heap := h', toks := tk' }) (wpAny_mono h₁ (fun vs s₂ ⟨what, t1, at', t2, e, k, h₃⟩ => ⟨rfl, what, t1, at', t2, e, Cx.keeps ⟨X₀, T⟩ k, h₃⟩) fun _ _ y => y)) (fun a s₂ h₂ => wpAny_bind (wpAny_standAt ?_)) fun _ _ x => x))
  obtain ⟨apos, akw⟩ := a
  obtain ⟨hkw, what, t1, at', t2, hp, C, h₂⟩ := h₂
  obtain rfl : akw = [] := hkw
  obtain rfl : apos = _ := hp
  rw [he] at hplain'
  simp only [hplain']
  have hC := hc _ C.X
  obtain ⟨hp, g, d, tk, os⟩ := s₂
  refine wpAny_bind (wpAny_keeperOf_exc hC ?_)
  refine wpAny_bind (nf_call C h1 h2 h3 fun h' e tk' N => wpAny_bind (wpAny_holding (wpAny_point (wpAny_pure ?_))))
  obtain ⟨tt, D, mA, t, ho, _⟩ := N.obj
  exact ⟨e, tt, D, rfl, N.keep _ _ hC, ho, h₂ h' e tk' N⟩
end
/-- the raised fault, with its entry and its attributes' dict -/
noncomputable def TracedD (h base : Heap) (e D : Addr) (fl : Value) : Prop :=
  ∃ oe vs T oT ts, h.get? e = some oe ∧ (oe.cls = .ref 64 ∧ oe.dict = some D) ∧ oe.data = .fields vs ∧ vs[1]? = some (.ref T) ∧ base.get? T = none ∧ T ≠ e ∧ h.get? T = some oT ∧ oT.data = .fields ts ∧ ts[3]? = some fl
noncomputable def FlyD (base : Heap) (l : List Env) (e D : Addr) (fl : Value) (h : Heap) : Prop := base.StaysIn h ∧ base.get? e = none ∧ h.FunFrames base l ∧ TracedD h base e D fl
theorem dict_mapFields (f : Array Value → Array Value) (o : Obj) : (Obj.mapFields f o).dict = o.dict := by
  unfold Obj.mapFields
  split <;> rfl
section
variable {M : Model} {A : Around} {E : Value → Shared → Prop} {s : Shared}
theorem entryD {base : Heap} {env : Env} {outer : List Env} {L e D : Addr} {oe : Obj} {vs : Array Value} {head : Value} {hadNext : Bool} {Q : Unit → Shared → Prop}
    (hfr : A.frames = some (env :: outer)) (hl : s.heap.FunFrames base (env :: outer)) (hf : env.frame = some L)
    (he : s.heap.get? e = some oe) (hkb : base.StaysIn s.heap) (hen : base.get? e = none) (hc : oe.cls = .ref 64 ∧ oe.dict = some D) (hd : oe.data = .fields vs) (hsz : 1 < vs.size)
    (h : ∀ h', FlyD base (env :: outer) e D (rawInt L) h' → s.heap.UpToSlots h' → Q () { s with heap := h' }) :
    wpAny M A (do let a ← frameOf env; let pl ← entryPlaceOf L hadNext; let b ← EntryCells.newEntry head a .none (rawInt L) .none pl; setField (.ref e) 1 b) Q E s := by
  have hene : e ∉ (env :: outer).filterMap (·.frame) := fun hm => by
    obtain ⟨_, o, ho, hnf⟩ := hl.mem hm
    rw [he] at ho; cases ho; exact hnf vs hd
  refine wpAny_bind (wpAny_frameOf_fun hfr hl hf fun h₁ hs₁ => ?_)
  refine wpAny_bind (wpAny_entryPlaceOf fun pl hpl => ?_)
  unfold EntryCells.newEntry newFields
  refine wpAny_bind (wpAny_newObj_type ?_ (hpl.sizeOk5 _ _ _ _ _))
  have he₁ : h₁.get? e = some oe := (hs₁.2.1 e hene).trans he
  have kb₁ : base.StaysIn h₁ := fun b o hbo => (hs₁.2.1 b fun hm => by rw [(hl.mem hm).1] at hbo; cases hbo).trans (hkb b o hbo)
  generalize hob : ({ cls := .type "traceback", dict := none, data := .fields ([head, .ref L, .none, rawInt L, .none] ++ (if pl.isEmpty then List.replicate 6 Value.none else pl)).toArray } : Obj) = ob
  have he₂ := Heap.get?_push_of_some (h := h₁) ob he₁
  refine wpAny_setField he₂ hd hsz (h _ ?_ ?_)
  · have hTe : h₁.objs.size ≠ e := Nat.ne_of_gt (Heap.lt_size he₁)
    have hd₃ := Obj.data_mapFields hd (·.setIfInBounds 1 (Value.ref h₁.objs.size))
    have he₃ := Heap.get?_update_self (Obj.mapFields (·.setIfInBounds 1 (Value.ref h₁.objs.size))) he₂ (Obj.isFreed_of_fields hd₃)
    have hT₃ := (Heap.get?_update_other (h₁.push ob) (Obj.mapFields (·.setIfInBounds 1 (Value.ref h₁.objs.size))) (Ne.symm hTe)).trans (Heap.get?_push_size h₁ (by rw [← hob]; rfl))
    have keep : ∀ b o, b ≠ e → h₁.get? b = some o → ((h₁.push ob).update e (Obj.mapFields (·.setIfInBounds 1 (Value.ref h₁.objs.size)))).get? b = some o := fun b o hbe hb => by
      rw [Heap.get?_update_other _ _ (Ne.symm hbe)]
      exact Heap.get?_push_of_some _ hb
    refine ⟨fun b o hbo => keep b o (fun q => by rw [q, hen] at hbo; cases hbo) (kb₁ b o hbo), hen, hl.of_keeps fun b o hb hnf => ?_, ?_⟩
    · obtain ⟨sl, hs⟩ := hs₁.2.2 b o hb
      exact ⟨_, keep b _ (fun q => by rw [q, he] at hb; cases hb; exact hnf vs hd) hs, rfl⟩
    · refine ⟨_, _, h₁.objs.size, _, _, he₃, ⟨(Obj.cls_mapFields _ _).trans hc.1, (dict_mapFields _ _).trans hc.2⟩, hd₃, by simp [hsz], kb₁.fresh, hTe, hT₃, (by rw [← hob]), by first | (simp; done) | (rcases hpl with rfl | ⟨_, _, _, _, _, _, _, rfl⟩ <;> simp)⟩
  · intro b o hb hnf
    obtain ⟨sl, hs⟩ := hs₁.2.2 b o hb
    refine ⟨sl, ?_⟩
    rw [Heap.get?_update_other _ _ (fun q => by rw [← q, he] at hb; cases hb; exact hnf vs hd)]
    exact Heap.get?_push_of_some _ hs
theorem landsD {base : Heap} {l : List Env} {e D : Addr} {fl : Value} {Q : Unit → Shared → Prop} (x : FlyD base l e D fl s.heap)
    (h : ∀ h', FlyD base l e D .none h' → s.heap.UpToSlots h' → Q () { s with heap := h' }) : wpAny M A (setFlight (.ref e) none) Q E s := by
  obtain ⟨hkb, hen, hl, oe, vs, T, oT, ts, he, hcls, hd, h1, hnT, hTe, hT, hdT, h3⟩ := x
  have hsz3 : 3 < ts.size := (Array.getElem?_eq_some_iff.mp h3).1
  have other : ∀ b, b ≠ T → (s.heap.update T (Obj.mapFields (·.setIfInBounds 3 ((none : Option Addr).elim Value.none fun f => rawInt f)))).get? b = s.heap.get? b :=
    fun b hb => Heap.get?_update_other _ _ (Ne.symm hb)
  have noRecord : ∀ b o, s.heap.get? b = some o → (∀ vs, o.data ≠ .fields vs) → b ≠ T := fun b o hb hnf q => by
    rw [q, hT] at hb; cases hb; exact hnf ts hdT
  unfold setFlight
  refine wpAny_bind (wpAny_field he hd h1 ?_)
  rw [if_pos (show (Value.ref T != Value.none) = true from by simp)]
  refine wpAny_setField hT hdT hsz3 (h _ ⟨fun b o hbo => (other b fun q => by rw [q, hnT] at hbo; cases hbo).trans (hkb b o hbo), hen,
    (hl.of_keeps fun b o hb hnf => ⟨o, (other b (noRecord b o hb hnf)).trans hb, rfl⟩), ?_⟩ fun b o hb hnf => ⟨o.slots, (other b (noRecord b o hb hnf)).trans hb⟩)
  exact ⟨oe, vs, T, _, _, (other e (Ne.symm hTe)).trans he, hcls, hd, h1, hnT, hTe, Heap.get?_update_self _ hT (Obj.isFreed_of_fields (Obj.data_mapFields hdT _)), Obj.data_mapFields hdT _, by simp [hsz3]⟩
theorem looksD {base : Heap} {env : Env} {outer : List Env} {L e D : Addr} {Q : Unit → Shared → Prop}
    (hfr : A.frames = some (env :: outer)) (hf : env.frame = some L) (x : FlyD base (env :: outer) e D .none s.heap)
    (h : ∀ h', FlyD base (env :: outer) e D (rawInt L) h' → s.heap.UpToSlots h' → Q () { s with heap := h' }) : wpAny M A (noteFrame (.ref e) env) Q E s := by
  obtain ⟨hkb, hen, hl, oe, vs, T, oT, ts, he, hcls, hd, h1, hnT, hTe, hT, hdT, h3⟩ := x
  unfold noteFrame
  simp only [hf]
  refine wpAny_bind (wpAny_field he hd h1 ?_)
  rw [if_pos (show (Value.ref T != Value.none) = true from by simp)]
  refine wpAny_bind (wpAny_field hT hdT h3 ?_)
  rw [if_neg (show ¬ ((Value.none == rawInt L) = true) from by simp [rawInt])]
  refine wpAny_bind (wpAny_setField hT hdT (Array.getElem?_eq_some_iff.mp h3).1 ?_)
  have other : ∀ b, b ≠ T → (s.heap.update T (Obj.mapFields (·.setIfInBounds 3 Value.none))).get? b = s.heap.get? b := fun b hb => Heap.get?_update_other _ _ (Ne.symm hb)
  have noRecord : ∀ b o, s.heap.get? b = some o → (∀ vs, o.data ≠ .fields vs) → b ≠ T := fun b o hb hnf q => by
    rw [q, hT] at hb; cases hb; exact hnf ts hdT
  refine entryD hfr (hl.of_keeps fun b o hb hnf => ⟨o, (other b (noRecord b o hb hnf)).trans hb, rfl⟩) hf ((other e (Ne.symm hTe)).trans he)
    (fun b o hbo => (other b fun q => by rw [q, hnT] at hbo; cases hbo).trans (hkb b o hbo)) hen hcls hd (Array.getElem?_eq_some_iff.mp h1).1
    fun h' x1 x4 => h h' x1 fun b o hb hnf => x4 b o ((other b (noRecord b o hb hnf)).trans hb) hnf
/-- the fault leaves the frame in which it was raised -/
theorem leaveFirst {base : Heap} {env : Env} {outer : List Env} {L e D tt : Addr} {Q : Unit → Shared → Prop}
    (hfr : A.frames = some (env :: outer)) (hl : s.heap.FunFrames base (env :: outer)) (hf : env.frame = some L) (hkb : base.StaysIn s.heap) (hen : base.get? e = none)
    (he : s.heap.get? e = some { cls := .ref 64, dict := some D, data := .fields #[.ref tt, .none, .none, .none, .bool false, .none] })
    (h : ∀ h', FlyD base outer e D .none h' → s.heap.UpToSlots h' → Q () { s with heap := h' }) : wpAny M A (leaving env (.ref e)) Q E s := by
  unfold leaving noteFrame
  simp only [hf]
  refine wpAny_bind (wpAny_bind (wpAny_field he rfl (x := .none) rfl ?_))
  rw [if_neg (by decide)]
  refine entryD hfr hl hf he hkb hen ⟨rfl, rfl⟩ rfl (show 1 < 6 by decide) fun h' x u => ?_
  refine landsD x fun h'' x' u' => h h'' ?_ (u.trans u')
  obtain ⟨a, b, ⟨_, _, c⟩, d⟩ := x'
  exact ⟨a, b, c, d⟩
theorem leaveNext {base : Heap} {env : Env} {outer : List Env} {L e D : Addr} {Q : Unit → Shared → Prop}
    (hfr : A.frames = some (env :: outer)) (hf : env.frame = some L) (x : FlyD base (env :: outer) e D .none s.heap)
    (h : ∀ h', FlyD base outer e D .none h' → s.heap.UpToSlots h' → Q () { s with heap := h' }) : wpAny M A (leaving env (.ref e)) Q E s := by
  unfold leaving
  refine wpAny_bind (looksD hfr hf x fun h' x u => ?_)
  refine landsD x fun h'' x' u' => h h'' ?_ (u.trans u')
  obtain ⟨a, b, ⟨_, _, c⟩, d⟩ := x'
  exact ⟨a, b, c, d⟩
end
local macro_rules | `(tactic| walk_at "mine raise") => `(tactic| (k_dflt (refine' nf_stmt rfl (Nat.le_of_ble_eq_true rfl) (Nat.le_of_ble_eq_true rfl) _ _ _ rfl rfl; rotate_right 1; k_asm; rotate_right 1; k_asm)))
section
local macro_rules | `(tactic| walk_at "exec Raise some none") => `(tactic| walk_at "mine raise")
/-- the fault on its way: frames of the callers in outer, what base holds stands -/
noncomputable def Flown (base : Heap) (outer : List Env) (e : Addr) (at' : Int) (h : Heap) : Prop := ∃ D mA t, FlyD base outer e D .none h ∧ h.Ns D mA ∧ mA (PySem.Str.ofString "at") = some (.int at' t) ∧ base.get? D = none ∧ D ∉ outer.filterMap (·.frame)
noncomputable def RDoes (prog : Program) (w : World) (n : Nat) (f : Addr) (args : List Value) (s : Shared) (R : Value → Heap → Prop) (X : Int → Prop) : Prop :=
  ∀ (base : Heap) (outer : List Env) (Q E : Value → Shared → Prop), Below { lev n with frames := some outer } base outer s.heap → (∀ v h' tk', Keeps s.heap h' → R v h' → Q v { s with heap := h', toks := tk' }) →
    (∀ e at' h' tk', X at' → Flown base outer e at' h' → s.heap.UpToSlots h' → E (.ref e) { s with heap := h', toks := tk' }) → wpAny (model prog w) { lev n with frames := some outer } (call (.ref f) args) Q E s
section
variable {M : Model} {A : Around} {E : Value → Shared → Prop} {s' : Shared} {base g h : Heap} {outer : List Env} {L a e : Addr} {m : PySem.Str → Option Value} {name : PySem.Str} {scope : Scope} {cd : Value} {Q : Unit → Shared → Prop} {at' : Int}
theorem leave_nf (K : Below A base outer g) (F : Fr g L h m) (N : NFMade h s'.heap e at')
    (hQ : ∀ h', Flown base outer e at' h' → g.UpToSlots h' → Q () { s' with heap := h' }) (hk : scope.kind = .function := by rfl) :
    wpAny M (A.deeper (envOf name scope L a cd)) (leaving (envOf name scope L a cd) (.ref e)) Q E s' := by
  have K' := K.push (name := name) (a := a) (cd := cd) F hk
  obtain ⟨tt, D, mA, t, ho, hns, hat, hDn, _⟩ := N.obj
  have hbD : base.get? D = none := by
    cases q : base.get? D with
    | none => rfl
    | some o => have := K'.stays _ _ q; rw [hDn] at this; cases this
  have hDf : D ∉ outer.filterMap (·.frame) := fun hm => by
    obtain ⟨_, o, ho, _⟩ := K'.frames.2.2.mem hm
    rw [hDn] at ho; cases ho
  refine leaveFirst K'.stack (K'.frames.of_keeps fun b o hb _ => ⟨o, N.keep b o hb, rfl⟩) rfl (fun b o hb => N.keep _ _ (K'.stays b o hb)) ?_ ho fun h' x u => ?_
  · cases q : base.get? e with
    | none => rfl
    | some o => have := K'.stays _ _ q; rw [N.new] at this; cases this
  · exact hQ h' ⟨D, mA, t, x, u.ns hns, hat, hbD, hDf⟩ ((Heap.UpToSlots.of_keeps F.keep).trans ((Heap.UpToSlots.of_keeps N.keep).trans u))
theorem leave_nf2 (K : Below A base outer g) (F : Fr g L h m) (x : Flown base (envOf name scope L a cd :: outer) e at' s'.heap) (hu : h.UpToSlots s'.heap)
    (hQ : ∀ h', Flown base outer e at' h' → g.UpToSlots h' → Q () { s' with heap := h' }) :
    wpAny M (A.deeper (envOf name scope L a cd)) (leaving (envOf name scope L a cd) (.ref e)) Q E s' := by
  obtain ⟨D, mA, t, x, hns, hat, hbD, hDf⟩ := x
  refine leaveNext (Around.frames_deeper K.stack) rfl x fun h' x' u => hQ h' ⟨D, mA, t, x', u.ns hns, hat, hbD, fun hm => hDf (by rw [List.filterMap_cons]; exact List.mem_cons_of_mem _ hm)⟩ ((Heap.UpToSlots.of_keeps F.keep).trans (hu.trans u))
end
/-- the first place at which a name fails -/
noncomputable def scan : Nat → Nat → List Nat → Option Nat
  | b, a, [] => if b = a then some a else none
  | b, a, c :: r => if c = 47 then (if a = b then some a else scan (a + 1) (a + 1) r) else if c = 37 ∨ c = 42 ∨ barred c = true then some a else scan b (a + 1) r
section
variable {prog : Program} {w : World} {A : Around} {s : Shared} {mean : ExcName → Option Value} {mg mb : PySem.Str → Option Value}
structure ChkJ (x : PySem.Str) (t : Tok) (i : Nat) (m : PySem.Str → Option Value) (news : List (Addr × Obj)) : Prop where
  tx : m (PySem.Str.ofString "text") = some (.str x t)
  be : ∃ b t, m (PySem.Str.ofString "begin") = some (.int (b : Nat) t) ∧ scan 0 0 x.cps.toList = scan b i (x.cps.toList.drop i)
  nw : news = []
theorem check_name_does (C : Cx w mean mg mb s.heap) (x : PySem.Str) (hx : x.length ≤ 900000) (t : Tok) :
    RDoes prog w 3 198 [.str x t] s (fun v _ => v = .str x t ∧ scan 0 0 x.cps.toList = none) (fun at' => ∃ k : Nat, at' = k ∧ scan 0 0 x.cps.toList = some k) := by
  intro base outer Q E K hR hX
  have hx1 : x.length ≤ 1048576 := by omega
  walk_at "mine go"
  refine loop_upto (n := x.length) (ChkJ x t) rfl (by assumption) (by omega) (by assumption) (by assumption) ⟨rfl, ⟨0, _, rfl, rfl⟩, rfl⟩ ?turn ?done
  case turn =>
    intro i k m₁ news₁ h tk own hi ha ho hJ F N
    obtain ⟨h1, ⟨b, t', h2, h3⟩, h4⟩ := hJ
    subst h4
    have F := Mine.Fr.named F [(PySem.Str.ofString "text", _), (PySem.Str.ofString "begin", _)] (by intro p hp; simp only [List.mem_cons, List.not_mem_nil, or_false] at hp; rcases hp with rfl | rfl; exact h1; exact h2)
    obtain ⟨c, hc, e, hd⟩ := item_at hi
    walk_at "mine steps"
    · have q1 : ((⟨#[c]⟩ : PySem.Str) == PySem.Str.ofString "/") = true := by first | with_reducible assumption | (rw [← e]; with_reducible assumption)
      have q2 : ((i : Int)) = (b : Int) := by with_reducible assumption
      rw [lit_slash, S_beq', decide_eq_true_eq] at q1
      refine ⟨_, _, _, _, rfl, keepsF (by assumption), fun h' e' tk' Nf => ?_⟩
      walk_at "mine tidy"
      refine leave_nf K (by assumption) Nf fun h' fl u => hX _ _ _ _ ⟨i, by omega, ?_⟩ fl u
      rw [h3, hd, scan, if_pos q1, if_pos (by omega)]
    · have q1 : ((⟨#[c]⟩ : PySem.Str) == PySem.Str.ofString "/") = true := by first | with_reducible assumption | (rw [← e]; with_reducible assumption)
      have q2 : ¬ ((i : Int)) = (b : Int) := by with_reducible assumption
      rw [lit_slash, S_beq', decide_eq_true_eq] at q1
      refine InvEndN.intro (by assumption) (by assumption) ⟨rfl, ⟨i + 1, _, rfl, ?_⟩, rfl⟩ rfl (fun _ hp => by cases hp) (fun _ hp => hp)
      rw [h3, hd, scan, if_pos q1, if_neg (by omega)]
    all_goals have q1 : ((⟨#[c]⟩ : PySem.Str) == PySem.Str.ofString "/") = false := by first | with_reducible assumption | (rw [← e]; with_reducible assumption)
    all_goals rw [lit_slash, S_beq', decide_eq_false_iff_not] at q1
    · rename_i q3'
      have q2 : (Builtin.Str.occurrences (PySem.Str.ofString "%*") (⟨#[c]⟩ : PySem.Str) 0 (PySem.Str.ofString "%*").length 1).isEmpty = true := by first | with_reducible assumption | (rw [← e]; with_reducible assumption)
      have q3 : barred (c : Int) = true := by first | exact q3' | (rw [e] at q3'; exact q3')
      refine ⟨_, _, _, _, rfl, keepsF (by assumption), fun h' e' tk' Nf => ?_⟩
      walk_at "mine tidy"
      refine leave_nf K (by assumption) Nf fun h' fl u => hX _ _ _ _ ⟨i, by omega, ?_⟩ fl u
      rw [h3, hd, scan, if_neg q1, if_pos (.inr (.inr q3))]
    · rename_i q3'
      have q2 : (Builtin.Str.occurrences (PySem.Str.ofString "%*") (⟨#[c]⟩ : PySem.Str) 0 (PySem.Str.ofString "%*").length 1).isEmpty = true := by first | with_reducible assumption | (rw [← e]; with_reducible assumption)
      have q3 : barred (c : Int) = false := by first | exact q3' | (rw [e] at q3'; exact q3')
      refine InvEndN.intro (by assumption) (by assumption) ⟨rfl, ⟨b, _, rfl, ?_⟩, rfl⟩ rfl (fun _ hp => by cases hp) (fun _ hp => hp)
      have q4 := wild_no q2
      rw [h3, hd, scan, if_neg q1, if_neg (by rw [q3]; simp; omega)]
    · have q2 : (Builtin.Str.occurrences (PySem.Str.ofString "%*") (⟨#[c]⟩ : PySem.Str) 0 (PySem.Str.ofString "%*").length 1).isEmpty = false := by first | with_reducible assumption | (rw [← e]; with_reducible assumption)
      refine ⟨_, _, _, _, rfl, keepsF (by assumption), fun h' e' tk' Nf => ?_⟩
      walk_at "mine tidy"
      refine leave_nf K (by assumption) Nf fun h' fl u => hX _ _ _ _ ⟨i, by omega, ?_⟩ fl u
      have q4 := wild_yes q2
      rw [h3, hd, scan, if_neg q1, if_pos (by omega)]
  case done =>
    intro m₁ news₁ h tk hJ F N
    obtain ⟨h1, ⟨b, t', h2, h3⟩, h4⟩ := hJ
    subst h4
    have F := Mine.Fr.named F [(PySem.Str.ofString "text", _), (PySem.Str.ofString "begin", _)] (by intro p hp; simp only [List.mem_cons, List.not_mem_nil, or_false] at hp; rcases hp with rfl | rfl; exact h1; exact h2)
    walk_at "mine steps"
    all_goals walk_at "mine tidy"
    all_goals rw [show x.cps.toList.drop x.length = [] by rw [← len_x, List.drop_length], scan] at h3
    · have q : (b : Int) = (x.length : Int) := by with_reducible assumption
      refine ⟨_, _, _, _, rfl, keepsF F, fun h' e' tk' Nf => ?_⟩
      walk_at "mine tidy"
      refine leave_nf K F Nf fun h' fl u => hX _ _ _ _ ⟨b, rfl, ?_⟩ fl u
      rw [h3, if_pos (by omega)]
      congr 1; omega
    · have q : ¬ (b : Int) = (x.length : Int) := by with_reducible assumption
      refine hR _ _ _ (keepsF F) ⟨rfl, ?_⟩
      rw [h3, if_neg (by omega)]
end
section
variable {prog : Program} {w : World} {A : Around} {s : Shared} {mean : ExcName → Option Value} {mg mb : PySem.Str → Option Value} {Q E : Value → Shared → Prop}
theorem useR {n : Nat} {f : Addr} {args : List Value} {R : Value → Heap → Prop} {X : Int → Prop} {base h₀ : Heap} {outer : List Env} {L : Addr} {m : PySem.Str → Option Value} {news : List (Addr × Obj)}
    (D : Cx w mean mg mb s.heap → RDoes prog w n f args s R X) (K : Below A base outer s.heap) (F : Fr h₀ L s.heap m) (N : News h₀ L s.heap news) (X₀ : (hd.heap_39 w.params).In h₀)
    (T : Top hd.view_39 (looseW hd.view_39 [PySem.Str.ofString "PostError"]) mean mg mb h₀) (h1 : A.handled = none) (h2 : A.depth ≤ 900 - 10 * n) (h3 : A.units ≤ 9000 - 100 * n)
    (hR : ∀ v h' tk', Fr h₀ L h' m → News h₀ L h' news → Keeps s.heap h' → R v h' → Q v { s with heap := h', toks := tk' })
    (hX : ∀ e at' h' tk', X at' → Flown base outer e at' h' → s.heap.UpToSlots h' → E (.ref e) { s with heap := h', toks := tk' }) :
    wpAny (model prog w) A (call (.ref f) args) Q E s := by
  have key := D ⟨X₀.keeps F.keep, T.keeps F.keep⟩ base outer Q E ⟨rfl, K.stays, K.frames⟩ (fun v h' tk' k r => hR v h' tk' (Mine.Fr.grow F k) (Mine.News.grow N k) k r) hX
  intro Γ p hΓ
  refine key Γ p ⟨hΓ.1.trans h1, Nat.le_trans hΓ.2.1 h2, fun l e => ?_, (fun _ e => by cases e), Nat.le_trans hΓ.2.2.2.2 h3⟩
  exact hΓ.2.2.1 l (K.stack.trans e)
end
end
local macro_rules | `(tactic| walk_at "mine flown") => `(tactic| (rotate_left 9; exact PyProof.Rows.Below.push (by assumption) (by assumption); walk_at "mine side"; rotate_left 1; intro e' at' h' tk' x' fl' u'; rotate_right 1))
local macro_rules | `(tactic| walk_at "call ref") => `(tactic| (k_dflt (refine' useR (f := 198) (fun C => check_name_does C _ (by first | assumption | omega) _) _ _ _ _ _ _ _ _ _ _; walk_at "mine flown"); walk_at "mine use"))
section
local macro_rules | `(tactic| walk_at "exec Raise some none") => `(tactic| walk_at "mine raise")
section
variable {prog : Program} {w : World} {A : Around} {s : Shared} {mean : ExcName → Option Value} {mg mb : PySem.Str → Option Value} {Q E : Value → Shared → Prop}
theorem new_name_does (C : Cx w mean mg mb s.heap) (x : PySem.Str) (hx : x.length ≤ 800000) (t : Tok) :
    RDoes prog w 4 226 [.str x t] s (fun v _ => ∃ t, v = .str (S (brn x.cps.toList)) t ∧ scan 0 0 (brn x.cps.toList) = none) (fun at' => ∃ k : Nat, at' = k ∧ scan 0 0 (brn x.cps.toList) = some k) := by
  intro base outer Q E K hR hX
  have hx1 : x.length ≤ 900000 := by omega
  have hx2 : (S (brn x.cps.toList)).length ≤ 900000 := by
    have h1 := nrm_len x.cps.toList
    rw [S_len, brn, chop]
    rw [len_x] at h1
    split
    · rw [List.length_dropLast]; omega
    · omega
  walk_at "mine go"
  · refine hR _ _ _ (keepsF (by assumption)) ?_
    have e := S_toList (brn x.cps.toList)
    exact ⟨_, rfl, by rename_i q; rw [e] at q; exact q⟩
  · rename_i q fl u
    rw [S_toList] at q
    exact leave_nf2 K (by assumption) fl u fun h' fl u => hX _ _ _ _ q fl u
end
end
local macro_rules | `(tactic| walk_at "call ref") => `(tactic| (k_dflt (refine' useR (f := 226) (fun C => new_name_does C _ (by first | assumption | omega) _) _ _ _ _ _ _ _ _ _ _; walk_at "mine flown"); walk_at "mine use"))
section
variable {prog : Program} {w : World} {A : Around} {E : Value → Shared → Prop} {h : Heap} {g : Array GenState} {d : Drawn} {t : Nat} {os : OsState}
variable {nm q : Str} {C N a D : Addr} {bs bm : List Value} {sn : List Str} {sub : List Value} {ab : Bool} {col : Option Bool} {dd : Option Addr} {k0 k1 k2 k3 k5 : Option Value} {newId : String} {o : Obj} {vs : Array Value} {mA : PySem.Str → Option Value} {name : PySem.Str} {v : Value} {K : Frag}
theorem exc_ga_check {M : Model} {nameV : Value} {Q : Unit → Shared → Prop} (hcB : (Value.ref C :: bm).contains (.type "BaseException") = true) (hC : h.get? C = some (excClassObj nm q C N bs bm true sn sub ab col dd k0 k1 k2 k3 k5 newId))
    (hx : h.get? a = some o) (hc : o.cls = .ref C) (hq : Q () ⟨h, g, d, t, os⟩) : wpAny M A (checkBuiltinCall "BaseException.__getattribute__" ⟨[.ref a, nameV], []⟩) Q E ⟨h, g, d, t, os⟩ := by
  have hk : builtinKind "BaseException.__getattribute__" = some .slot := by decide +kernel
  have hsplit : splitId "BaseException.__getattribute__" = some ("BaseException", "__getattribute__") := by decide +kernel
  have ha := F.args_bexc_ga (.ref a) nameV
  simp only [checkBuiltinCall, hk, hsplit]
  refine wpAny_bind ?_
  · unfold isInstance
    repeat (first | (with_reducible refine wpAny_loadPart_at hx ?_; rw [hc]) | (with_reducible refine wpAny_isSubtype_exc hC ?_; rw [hcB]) | wp_step)
    exact hq
theorem exc_ga_entry {tk : Tok} {Q : Fin → Shared → Prop} (hC : h.get? C = some (excClassObj nm q C N bs bm true sn sub ab col dd k0 k1 k2 k3 k5 newId)) (X : K.In h) (hna : findIn K (.ref C) name = some none)
    (hx : h.get? a = some o) (hc : o.cls = .ref C) (hd : o.data = .fields vs) (hdd : o.dict = some D) (hns : h.Ns D mA) (hv : mA name = some v) (hq : Q (.done (.ret v)) ⟨h, g, d, t, os⟩) :
    wpAny (model prog w) A (Builtin.«object.__getattribute__» ⟨[.ref a, .str name tk], []⟩) Q E ⟨h, g, d, t, os⟩ := by
  have La := looks_findIn (M := model prog w) X hna
  unfold Builtin.«object.__getattribute__»
  repeat (first | (with_reducible refine wpAny_loadPart_at hx ?_; rw [hc]) | with_reducible refine La.at ?_ | wp_step)
  rw [hd]
  dsimp only
  unfold instanceDict
  repeat (first | (with_reducible refine wpAny_loadPart_at hx ?_; rw [hc]) | with_reducible refine wpAny_loadPart_at hC ?_ | wp_step)
  rw [hdd]
  repeat (first | (with_reducible refine wpAny_nsGet hns ?_; rw [hv]) | wp_step)
  exact hq
theorem exc_get {expr : Bool} {Q : Value → Shared → Prop} (hcB : (Value.ref C :: bm).contains (.type "BaseException") = true) (hC : h.get? C = some (excClassObj nm q C N bs bm true sn sub ab col dd k0 k1 k2 k3 k5 newId)) (X : K.In h)
    (hga : findIn K (.ref C) "__getattribute__" = some (some (.builtin "BaseException.__getattribute__"))) (hgt : findIn K (.ref C) "__getattr__" = some none) (hna : findIn K (.ref C) name = some none)
    (hx : h.get? a = some o) (hc : o.cls = .ref C) (hd : o.data = .fields vs) (hdd : o.dict = some D) (hns : h.Ns D mA) (hv : mA name = some v) (hh : handedOut v = pure v) (hq : Q v ⟨h, g, d, t + 1, os⟩) :
    wpAny (model prog w) A (getAttr (.ref a) name expr) Q E ⟨h, g, d, t, os⟩ := by
  have hb : bindSpecial (.builtin "BaseException.__getattribute__") (.ref a) = pure (.builtin "BaseException.__getattribute__", [.ref a]) := (F.attrBase_Exception).ga.bind (.ref a)
  have hx0 : (expr && onTheHeap (Value.builtin "BaseException.__getattribute__")) = false := by cases expr <;> rfl
  have hx2 : (Value.builtin "BaseException.__getattribute__" == Value.builtin "object.__getattribute__") = false := by decide +kernel
  have hx1 : (onTheHeap (Value.ref C) && Value.builtin "BaseException.__getattribute__" == Value.builtin "object.__getattribute__") = false := by rw [hx2]; rfl
  have L1 := looks_findIn (M := model prog w) X hga
  have L2 := looks_findIn (M := model prog w) X hgt
  unfold getAttr getAttrBy
  repeat (any_goals (first | assumption | (with_reducible refine wpAny_loadPart_at hx ?_; rw [hc]) | with_reducible refine L1.at ?_ | with_reducible refine L2.at ?_ | wp_step))
  refine codeAny_call_builtin (F.attrBase_Exception).ga.plain F.entry_bexc_ga (exc_ga_check hcB hC hx hc (exc_ga_entry hC X hna hx hc hd hdd hns hv ?_))
  repeat (any_goals (first | assumption | wp_step))
end
section
local macro_rules | `(tactic| walk_at "exec Raise some none") => `(tactic| walk_at "mine raise")
section
variable {prog : Program} {w : World} {A : Around} {s : Shared} {mean : ExcName → Option Value} {mg mb : PySem.Str → Option Value} {Q E : Value → Shared → Prop}
theorem below_at {A : Around} {B h : Heap} {outer : List Env} {L a : Addr} {m : PySem.Str → Option Value} {name : PySem.Str} {scope : Scope} {cd : Value} (st : A.frames = some outer) (F : Fr B L h m) (fr : h.FunFrames B outer)
    (hk : scope.kind = .function := by rfl) : Below (A.deeper (envOf name scope L a cd)) B (envOf name scope L a cd :: outer) h := by
  have hnew : B.get? L = none := by
    cases hq : B.get? L with
    | none => rfl
    | some o => exact absurd (Nat.lt_of_lt_of_le (Heap.lt_size hq) F.above) (Nat.lt_irrefl _)
  obtain ⟨o, es, ep, ho, hd, _⟩ := F.ns
  refine ⟨Around.frames_deeper st, F.keep, ?_, ⟨L, o, rfl, hnew, ho, fun vs q => by rw [hd] at q; cases q⟩, fr⟩
  show scope.kind ≠ .module
  rw [hk]; decide
noncomputable def MadeRes (x : PySem.Str) (v1 v2 : Value) : Prop := (scan 0 0 (brn x.cps.toList) = none ∧ ∃ t t2, v1 = .str (S (brn x.cps.toList)) t ∧ v2 = .int (-1) t2) ∨ ∃ (k : Nat) (t2 : Tok), scan 0 0 (brn x.cps.toList) = some k ∧ v1 = .none ∧ v2 = .int (k : Int) t2
theorem law_made_walk {B : Heap} {L₀ : Addr} {o₀ : Obj} (C : Cx w mean mg mb B) (hk₀ : Keeps B s.heap) (hs₀ : B.objs.size ≤ s.heap.objs.size) (hN : s.heap.get? L₀ = some o₀ ∧ B.get? L₀ = none)
    (x : PySem.Str) (hx : x.length ≤ 700000) (t : Tok) {env₀ : Env} (hf₀ : env₀.frame = some L₀) (hk₀' : env₀.scope.kind ≠ .module) (hd₀ : ∀ vs, o₀.data ≠ .fields vs) (hd₁ : ∀ vs k, o₀.data ≠ .seq vs k)
    (hQ : ∀ a v1 v2 h' tk' sl, h'.get? a = some (tupleOf #[v1, v2]) → B.get? a = none → a ≠ L₀ → Keeps B h' → h'.get? L₀ = some { o₀ with slots := sl } → MadeRes x v1 v2 → Q (.ref a) { s with heap := h', toks := tk' }) :
    wpAny (model prog w) { lev 5 with frames := some [env₀] } (call (.ref 252) [.str x t]) Q E s := by
  have hx1 : x.length ≤ 800000 := by omega
  walk_at "mine fill"
  k_dflt (refine' enterN (news := [(L₀, o₀)]) C hk₀ hs₀ ?kN ?k6 ?k7 ?k8 ?k9 ?kB ?c2 ?c3 ?c4 ?c5 ?_)
  case kN => (intro p hp; rw [List.mem_singleton.mp hp]; exact hN)
  case k6 => k_is
  case k7 => k_is
  case k8 => k_room
  case k9 => exact BindsTo.of_eq rfl
  case kB => exact locs rfl
  case c2 => exact rfl
  case c3 => exact rfl
  case c4 => exact rfl
  case c5 => decide
  intro L' h' F' N' X' T'
  (try dsimp only)
  (try k_fold)
  repeat' (
  (fail_if_success (with_reducible show wpAny _ _ (call (Value.ref 226) _ _) _ _ _))
  first | (k_unfold; (try dsimp only)) | walk1 | (dsimp only; walk1) | (leave1; (try dsimp only)) | fail "no step")
  k_dflt (refine' useR (fun C => new_name_does C x hx1 t) ?K ?F ?N ?X ?T ?h1 ?h2 ?h3 ?_ ?_)
  case K => exact below_at rfl F' ⟨hk₀', ⟨L₀, o₀, hf₀, hN.2, (N' _ (.head _)).1, hd₀⟩, trivial⟩
  case F => k_asm
  case N => k_asm
  case X => k_asm
  case T => k_asm
  case h1 => rfl
  case h2 => exact Nat.le_of_ble_eq_true rfl
  case h3 => exact Nat.le_of_ble_eq_true rfl
  · intro v' h' tk' F' N' k' r'
    obtain ⟨t', r', q⟩ := r'
    subst r'
    walk_at "mine steps"
    all_goals walk_at "mine tidy"
    rename_i F5 N5 _
    refine hQ _ _ _ _ _ o₀.slots (N5 _ (.head _)).1 (N5 _ (.head _)).2.2 (fun e => ?_) F5.keep (N5 _ (.tail _ (.head _))).1 (.inl ⟨q, _, _, rfl, rfl⟩)
    have a := (N5 _ (.head _)).1
    have b := (N5 _ (.tail _ (.head _))).1
    dsimp only at a b
    rw [e, b] at a
    cases a
    exact hd₁ _ _ rfl
  · intro e' at' h' tk' x' fl' u'
    walk_at "mine tidy"
    obtain ⟨D, mA, ta, fl', hns, hat, hbD, hDf⟩ := fl'
    refine looksD rfl rfl fl' fun h2 fl2 u2 => ?_
    refine landsD fl2 fun h3 fl3 u3 => ?_
    refine wpAny_handleBy_cons (codeAny_handlers_test ?_) (by intro q; cases q)
    have uu := u'.trans (u2.trans u3)
    have F3 := PyProof.Rows.Fr.of_stays (by assumption) fl3.1 uu
    walk_at "mine steps"
    obtain ⟨oe, vs, T, oT, ts, he, ⟨hcls, hdict⟩, _⟩ := id fl3.2.2.2
    refine wpAny_excMatches_sub_self (nf_cls (X'.keeps F3.keep)) he hcls rfl (codeAny_handlers_suite_as ?_)
    refine landsD fl3 fun h4 fl4 u4 => ?_
    have uu4 := uu.trans u4
    have F4 := F3.of_stays fl4.1 u4
    obtain ⟨oe, vs, T, oT, ts, he, ⟨hcls, hdict⟩, hdat, _⟩ := id fl4.2.2.2
    obtain ⟨oD, es, ep, hoD, hdD, hkD, hfD⟩ := (u2.trans (u3.trans u4)).ns hns
    obtain ⟨sl, hL4⟩ := uu4 L₀ o₀ (N' _ (.head _)).1 hd₀
    have hDL : D ≠ L' := fun q => hDf (by rw [q]; exact .head _)
    have N4 : News B L' h4 [(e', oe), (D, oD), (L₀, { o₀ with slots := sl })] := by
      intro p hp
      simp only [List.mem_cons, List.not_mem_nil, or_false] at hp
      rcases hp with rfl | rfl | rfl
      · refine ⟨he, fun q => ?_, fl4.2.1⟩
        obtain ⟨oL, es, ep, hoL, hdL, _⟩ := F4.ns
        dsimp only at q
        rw [← q, he] at hoL; cases hoL
        rw [hdat] at hdL; cases hdL
      · exact ⟨hoD, hDL, hbD⟩
      · exact ⟨hL4, (N' _ (.head _)).2⟩
    walk_at "mine steps"
    rename_i F5 N5
    refine exc_get (K := hd.heap_39 w.params) (bm := nfTail) rfl (nf_cls (X'.keeps F5.keep)) (X'.keeps F5.keep) (by with_unfolding_all rfl) (by with_unfolding_all rfl) (by with_unfolding_all rfl)
      (N5 _ (.head _)).1 hcls hdat hdict ⟨oD, es, ep, (N5 _ (.tail _ (.head _))).1, hdD, hkD, hfD⟩ hat rfl ?_
    walk_at "mine steps"
    all_goals walk_at "mine tidy"
    rename_i F5 N5
    obtain ⟨k, rfl, q⟩ := x'
    have b := (N5 (L₀, { o₀ with slots := sl }) (by simp)).1
    refine hQ _ _ _ _ _ sl (N5 _ (.head _)).1 (N5 _ (.head _)).2.2 (fun e => ?_) F5.keep b (.inr ⟨k, _, q, rfl, rfl⟩)
    have a := (N5 _ (.head _)).1
    dsimp only at a b
    rw [e, b] at a
    injection a with a
    exact hd₁ _ _ (congrArg Obj.data a)
theorem made_use {h₀ : Heap} {env₀ : Env} {L : Addr} {m : PySem.Str → Option Value} {news : List (Addr × Obj)} (x : PySem.Str) (hx : x.length ≤ 700000) (t : Tok) (F : Fr h₀ L s.heap m) (N : News h₀ L s.heap news) (C : Cx w mean mg mb h₀)
    (hf₀ : env₀.frame = some L) (hk₀' : env₀.scope.kind ≠ .module) (hfr : A.frames = some [env₀]) (h1 : A.handled = none) (h2 : A.depth ≤ 900 - 10 * 5) (h3 : A.units ≤ 9000 - 100 * 5)
    (hQ : ∀ a v1 v2 h' tk', Fr h₀ L h' m → News h₀ L h' ((a, tupleOf #[v1, v2]) :: news) → MadeRes x v1 v2 → Q (.ref a) { s with heap := h', toks := tk' }) :
    wpAny (model prog w) A (call (.ref 252) [.str x t]) Q E s := by
  obtain ⟨oL, es, ep, hoL, hdL, hns⟩ := F.ns
  have hb0 : h₀.get? L = none := by
    cases hq : h₀.get? L with
    | none => rfl
    | some o => exact absurd (Nat.lt_of_lt_of_le (Heap.lt_size hq) F.above) (Nat.lt_irrefl _)
  have hstay : Keeps h₀ (hideAll s.heap [L]) := fun b o e => hideAll_get _ (F.keep b o e) fun hm => by
    rw [List.mem_singleton.mp hm, hb0] at e; cases e
  have key := law_made_walk (prog := prog) (E := E) (Q := Q) (s := s) (B := hideAll s.heap [L]) (L₀ := L) (o₀ := oL) (env₀ := env₀) (C.keeps hstay) (fun b o e => of_hideAll _ e) (Nat.le_of_eq (hideAll_size _ _)) ⟨hoL, hideAll_none _ (.head _)⟩
    x hx t hf₀ hk₀' (fun vs q => by rw [hdL] at q; cases q) (fun vs k q => by rw [hdL] at q; cases q) ?_
  · intro Γ p hΓ
    refine key Γ p ⟨hΓ.1.trans h1, Nat.le_trans hΓ.2.1 h2, fun l e => ?_, (fun _ e => by cases e), Nat.le_trans hΓ.2.2.2.2 h3⟩
    exact hΓ.2.2.1 l (hfr.trans e)
  · intro a v1 v2 h' tk' sl ha hBa hne hk hL hm
    have hk' : ∀ b o, b ≠ L → s.heap.get? b = some o → h'.get? b = some o := fun b o hb e => hk b o (hideAll_get _ e fun hm => hb (List.mem_singleton.mp hm))
    refine hQ a v1 v2 h' tk' ⟨⟨_, es, ep, hL, hdL, hns⟩, fun b o e => hk b o (hstay b o e), F.above⟩ (fun p hp => ?_) hm
    rcases List.mem_cons.mp hp with rfl | hp
    · refine ⟨ha, hne, ?_⟩
      cases q : h₀.get? a with
      | none => rfl
      | some o => have := hstay _ _ q; rw [hBa] at this; cases this
    · exact ⟨hk' _ _ (N p hp).2.1 (N p hp).1, (N p hp).2⟩
end
end
noncomputable def Nope : Value → Shared → Prop := fun _ _ => False
/-- a code's run at a clean place -/
noncomputable def codeD (M : Model) (A : Around) (c : Code) (R : Result → Shared → Prop) (s : Shared) : Prop := ∀ Γ p, Γ.code = c → Γ.Below A → Clean Γ → wpCode M Γ R p s
section
variable {α β : Type} {M : Model} {A : Around} {E : Value → Shared → Prop} {s : Shared}
theorem codeD_of_any {c : Code} {R : Result → Shared → Prop} (h : codeAny M A c R s) : codeD M A c R s := fun Γ p hc hΓ _ => h Γ p hc hΓ
theorem wpD_weak {t : Sem α} {Q : α → Shared → Prop} (h : wpD M A t Q Nope s) : wpD M A t Q E s := wpD_mono h (fun _ _ x => x) fun _ _ x => x.elim
theorem wpD_onRaise {m : Sem α} {k : Value → Sem Unit} {Q : α → Shared → Prop} (h : wpD M A m Q Nope s) : wpD M A (m.onRaise k) Q E s := fun Γ p hΓ c => by
  rw [Sem.wp_onRaise]
  exact Sem.wp_mono M Γ m (fun _ _ _ h' => h') (fun e p' s' h' => h'.elim) p s (h Γ p hΓ c)
theorem wpD_holding {vs : List Value} {m : Sem α} {Q : α → Shared → Prop} (h : wpD M A m Q E s) : wpD M A (holding vs m) Q E s :=
  fun Γ p hΓ c => by rw [Sem.wp_holding]; exact h Γ p hΓ c
theorem Clean.enter {Γ : Ctx} {c : Code} {hd : Option Value} {p : Pos} (h : Clean Γ) (hc : holdsBuf c = false) : Clean (Γ.enter c hd p) := by
  intro x hx
  rcases List.mem_cons.mp hx with rfl | hx
  · exact hc
  · exact h x hx
theorem Clean.goto {Γ : Ctx} {c : Code} (h : Clean Γ) (hc : holdsBuf c = false) : Clean (Γ.goto c) := by
  intro x hx
  rcases List.mem_cons.mp hx with rfl | hx
  · exact hc
  · exact h x (List.mem_cons_of_mem _ hx)
theorem wpD_run {c : Code} {Q : Flow → Shared → Prop} (hb : holdsBuf c = false)
    (hc : codeD M (A.mark none) c (fun r s' => match r with | .ok f => Q f s' | .error e => E e s') s) : wpD M A (run c none) Q E s :=
  fun Γ p hΓ cl => by rw [Sem.wp_run]; exact hc _ p rfl (hΓ.enter c none p (by intro x; cases x)) (cl.enter hb)
theorem wpD_runOwn {c : Code} {env : Env} {Q : Flow → Shared → Prop} (hb : holdsBuf c = false)
    (hc : codeD M (A.mark none) c (fun r s' => match r with | .ok f => Q f s' | .error e => False) s) : wpD M A (runOwn c env) Q E s := by
  unfold runOwn
  refine wpD_onRaise (wpD_run hb ?_)
  intro Γ p h1 h2 h3
  exact wpCode_mono (fun r s' h => by cases r <;> exact h) (hc Γ p h1 h2 h3)
theorem wpD_call {f : Value} {pos : List Value} {kw : List (PySem.Str × Value)} {Q : Value → Shared → Prop}
    (hc : codeD M A (.call f ⟨pos, kw⟩) (fun r s' => match r with | .ok (.ret v) => Q v s' | .ok _ => False | .error e => E e s') s) : wpD M A (call f pos kw) Q E s :=
  fun Γ p hΓ cl => by
    show Sem.wp M Γ (runValue _) _ _ _ _
    rw [Sem.wp_runValue]; exact hc _ p rfl (hΓ.enter _ none p (by intro x; cases x)) (cl.enter rfl)
theorem codeD_of_tree {c : Code} {R : Result → Shared → Prop}
    (h : wpD M (A.under c) (M.den c) (fun fin s' => match fin with | .done f => R (.ok f) s' | .again c' => c'.quiet = true ∧ holdsBuf c' = false ∧ codeD M A c' R s')
      (fun e s' => R (.error e) s') s) : codeD M A c R s := fun Γ p hc hΓ cl => by
  rw [wpCode_iff_wp, hc]
  refine Sem.wp_mono M Γ _ (fun fin p' s' h' => ?_) (fun _ _ _ h' => h') p s (h Γ p (hc ▸ hΓ.in) cl)
  cases fin with
  | done f => exact h'
  | again c' => exact ⟨h'.1, h'.2.2 (Γ.goto c') p' rfl (hΓ.goto c') (cl.goto h'.2.1)⟩
theorem wpD_execs_cons {env : Env} {st rest} {Q : Flow → Shared → Prop}
    (h : wpD M A (exec st env) (fun f s' => match f with | .next => wpD M A (execs rest env) Q E s' | f => Q f s') E s) :
    wpD M A (execs (st :: rest) env) Q E s := by
  rw [execs_cons]
  refine wpD_bind (wpD_mono h (fun f s' h' => ?_) fun _ _ e => e)
  cases f <;> first | exact h' | exact wpD_pure h'
theorem wpD_execs_any {env : Env} {st rest} {Q : Flow → Shared → Prop}
    (h : wpAny M A (exec st env) (fun f s' => match f with | .next => wpD M A (execs rest env) Q E s' | f => Q f s') E s) :
    wpD M A (execs (st :: rest) env) Q E s := wpD_execs_cons (wpD_of_any h)
theorem wpD_execs_nil {env : Env} {Q : Flow → Shared → Prop} (h : Q .next s) : wpD M A (execs [] env) Q E s := wpD_of_any (wpAny_execs_nil h)
end
section
variable {prog : Program} {w : World} {A : Around} {E : Value → Shared → Prop} {R : Result → Shared → Prop} {s : Shared}
theorem codeD_func {body : List Stmt} {env : Env}
    (h : wpD (model prog w) (A.deeper env) (execs body env) (fun f s' => R (.ok (.ret (match f with | .ret v => v | _ => .none))) s') Nope s) :
    codeD (model prog w) A (.func body env) R s := by
  refine codeD_of_tree ?_
  show wpD _ (A.deeper env) (do point; match ← (execs body env).onRaise (leaving env) with | .ret v => ret v | _ => ret .none) _ _ s
  refine wpD_bindAny (wpAny_point (wpD_bind (wpD_onRaise (wpD_mono h (fun f s' h' => ?_) fun _ _ h' => h'))))
  cases f <;> exact wpD_pure h'
theorem codeD_while {test : PySem.Expr} {body : List Stmt} {env : Env} (I : Nat → Shared → Prop)
    (turn : ∀ n s, I n s → wpAny (model prog w) A (isTrue test env (eval test env)) (fun b s₂ =>
        if b = true then wpD (model prog w) A (execs body env) (fun f s₃ => match f with
            | .next | .cont => ∃ m, m < n ∧ I m s₃
            | .brk => R (.ok .next) s₃
            | .ret v => R (.ok (.ret v)) s₃) Nope s₂
        else R (.ok .next) s₂) Nope s) :
    ∀ n s, I n s → codeD (model prog w) A (.whileLoop test body [] env) R s := by
  intro n
  induction n using Nat.strongRecOn with
  | _ n ih =>
    intro s hI
    refine codeD_of_tree ?_
    show wpD _ A ((whileTurn test body [] env).onRaise (fun x => do noteFrame x env; theTreesLotGoes x)) _ _ s
    refine wpD_onRaise ?_
    simp only [whileTurn]
    refine wpD_bindAny (wpAny_mono (turn n s hI) (fun b s₂ h₂ => ?_) fun _ _ h' => h')
    cases b with
    | false =>
      simp only [Bool.false_eq_true, if_false] at h₂ ⊢
      exact wpD_bindAny (wpAny_execs_nil (wpD_pure h₂))
    | true =>
      simp only [if_true] at h₂ ⊢
      refine wpD_bind (wpD_mono h₂ (fun f s₃ h₃ => ?_) fun _ _ h' => h')
      cases f with
      | next => obtain ⟨m, hm, hI'⟩ := h₃; exact wpD_pure ⟨rfl, rfl, ih m hm s₃ hI'⟩
      | cont => obtain ⟨m, hm, hI'⟩ := h₃; exact wpD_pure ⟨rfl, rfl, ih m hm s₃ hI'⟩
      | brk => exact wpD_pure h₃
      | ret v => exact wpD_pure h₃
theorem codeD_for {target : PySem.Expr} {it : Value} {body : List Stmt} {env : Env} (I : Nat → Shared → Prop)
    (turn : ∀ n s, I n s → wpAny (model prog w) A (pyNext it) (fun r s₁ => match r with
      | none => R (.ok .next) s₁
      | some v => wpAny (model prog w) A (assign target env v) (fun _ s₂ => wpD (model prog w) A (execs body env) (fun f s₃ => match f with
          | .next | .cont => ∃ m, m < n ∧ I m s₃
          | .brk => R (.ok .next) s₃
          | .ret v => R (.ok (.ret v)) s₃) Nope s₂) Nope s₁) Nope s)
    (ht : ∀ v, letOwnedTupleGo target it v = pure ()) : ∀ n s, I n s → codeD (model prog w) A (.forLoop target it body [] env) R s := by
  intro n
  induction n using Nat.strongRecOn with
  | _ n ih =>
    intro s hI
    refine codeD_of_tree ?_
    show wpD _ _ ((forTurn target it body [] env).onRaise (fun x => do noteFrame x env; theTreesLotGoes x)) _ _ s
    refine wpD_onRaise ?_
    simp only [forTurn]
    refine wpD_bindAny (wpAny_standAt (wpD_bindAny (wpAny_onRaise (wpAny_mono (turn n s hI) (fun r s₁ h₁ => ?_) fun _ _ h' => h'.elim))))
    cases r with
    | none =>
      refine wpD_pure ⟨rfl, rfl, codeD_of_any (codeAny_block (wpAny_execs_nil h₁))⟩
    | some v =>
      refine wpD_bindAny (wpAny_of_eq (ht v) ?_)
      refine wpD_bindAny (wpAny_mono h₁ (fun _ s₂ h₂ => wpD_bind (wpD_mono h₂ (fun f s₃ h₃ => ?_) fun _ _ h' => h')) fun _ _ h' => h')
      cases f with
      | next => obtain ⟨m, hm, hI'⟩ := h₃; exact wpD_pure ⟨rfl, rfl, ih m hm s₃ hI'⟩
      | cont => obtain ⟨m, hm, hI'⟩ := h₃; exact wpD_pure ⟨rfl, rfl, ih m hm s₃ hI'⟩
      | brk => exact wpD_pure h₃
      | ret v => exact wpD_pure h₃
theorem wpD_While {test : PySem.Expr} {body : List Stmt} {env : Env} {pos : Pos} {Q : Flow → Shared → Prop}
    (h : codeD (model prog w) A (.whileLoop test body [] env) (fun r s' => match r with | .ok f => Q f s' | .error e => False) s) : wpD (model prog w) A (exec (.While test body [] pos) env) Q E s := by
  rw [arm_exec_While]
  exact wpD_bindAny (wpAny_standAt (wpD_runOwn rfl h))
theorem wpD_For {target iter : PySem.Expr} {body : List Stmt} {env : Env} {pos : Pos} {Q : Flow → Shared → Prop}
    (h : wpAny (model prog w) A (eval iter env) (fun x s₁ => wpAny (model prog w) A (pyIter x) (fun it s₂ =>
      codeD (model prog w) A (.forLoop target it body [] env) (fun r s' => match r with | .ok f => Q f s' | .error e => False) s₂) Nope s₁) Nope s)
    (hs : ∀ x, foldedSetIterable iter env x = pure x) : wpD (model prog w) A (exec (.For target iter body [] pos) env) Q E s := by
  rw [arm_exec_For]
  refine wpD_weak ?_
  exact wpD_bindAny (wpAny_standAt (wpD_bindAny (wpAny_mono h (fun x s₁ h₁ => wpD_bindAny (wpAny_of_eq (hs x) (wpD_bindAny (wpAny_standAt (wpD_bindAny (wpAny_holding
    (wpAny_mono h₁ (fun it s₂ h₂ => wpD_runOwn rfl h₂) fun _ _ h' => h'))))))) fun _ _ h' => h')))
end
section
variable {prog : Program} {w : World} {A : Around} {E : Value → Shared → Prop} {R : Result → Shared → Prop} {s : Shared}
theorem codeD_builtin {id : String} {args : Args} {b : Builtin} (hb : entryFor table id = some b)
    (h : wpD (model prog w) (A.under (.builtin id args)) (b args)
      (fun fin s' => match fin with | .done f => R (.ok f) s' | .again c' => c'.quiet = true ∧ holdsBuf c' = false ∧ codeD (model prog w) A c' R s') (fun e s' => R (.error e) s') s) :
    codeD (model prog w) A (.builtin id args) R s := by
  refine codeD_of_tree ?_
  show wpD _ _ (match entryFor table id with | some b => b args | none => unsupported ((withoutEnding? id "#data").getD id)) _ _ s
  rw [hb]; exact h
theorem codeD_call_builtin {id : String} {args : Args} {b : Builtin} (hq : plainId id = true) (hb : entryFor table id = some b) (hh : holdsBuf (.builtin id args) = false)
    (h : wpAny (model prog w) A.in1 (checkBuiltinCall id args) (fun _ s₁ => wpD (model prog w) A.in1 (b args)
      (fun fin s' => match fin with | .done f => R (.ok f) s' | .again c' => c'.quiet = true ∧ holdsBuf c' = false ∧ codeD (model prog w) A c' R s') (fun e s' => R (.error e) s') s₁)
      (fun e s' => R (.error e) s') s) : codeD (model prog w) A (.call (.builtin id) args) R s := by
  refine codeD_of_tree ?_
  show wpD _ A.in1 (do checkBuiltinCall id args; again (.builtin id args)) _ _ s
  exact wpD_bindAny (wpAny_mono h (fun _ s₁ h₁ => wpD_pure ⟨plainId_quiet hq args, hh, codeD_builtin hb (by rw [Around.under_plainId hq args]; exact h₁)⟩) fun _ _ h' => h')
theorem exported_D {self : Value} {Q : Bool → Shared → Prop} {M : Model} (h : Q false s) : wpD M A (Builtin.Bytes.exported self) Q E s := fun Γ p _ cl => by
  have key : ∀ b, b = false → Q b s := fun b hb => by rw [hb]; exact h
  refine key _ ?_
  rw [List.any_eq_false]
  intro x hx
  obtain ⟨c, q⟩ := x
  have hc : holdsBuf c = false := cl c (by
    rcases List.mem_cons.mp hx with e | hx
    · cases e; exact .head _
    · exact .tail _ (List.mem_map.mpr ⟨_, hx, rfl⟩))
  clear hx cl
  rw [Bool.not_eq_true]
  cases c with
  | builtin id a =>
    have hg : guardIds.contains id = false := (Bool.or_eq_false_iff.mp hc).1
    have hd : Builtin.Bytes.decodersThatHold.contains id = false := (Bool.or_eq_false_iff.mp hc).2
    have n : ∀ x, guardIds.contains x = true → ¬ id = x := fun x hx e => by rw [e, hx] at hg; cases hg
    have n1 := n "bytearray.__contains__" (by decide +kernel)
    have n2 := n "bytearray.__mod__" (by decide +kernel)
    have n3 := n "bytearray.__rmod__" (by decide +kernel)
    have n4 := n "_struct.pack_into.held" (by decide +kernel)
    have n5 := n "bytearray.find.held" (by decide +kernel)
    clear n hg hc
    delta Builtin.Bytes.exported.match_1
    show dite _ _ _ = false
    refine (dif_neg n1).trans ((dif_neg n2).trans ((dif_neg n3).trans ((dif_neg n4).trans ((dif_neg n5).trans ?_))))
    obtain ⟨_ | ⟨v, l⟩, kw⟩ := a
    · rfl
    · show (_ && Builtin.Bytes.decodersThatHold.contains id) = false
      rw [hd, Bool.and_false]
  | _ => rfl
end
section
variable {prog : Program} {w : World} {A : Around} {E : Value → Shared → Prop} {R : Result → Shared → Prop} {s : Shared}
@[reducible] noncomputable def baObj (b : Array UInt8) : Obj := { cls := .type "bytearray", data := .bytearray b 0 }
theorem slot_ba_append : Slot "bytearray" "append" "bytearray.append" :=
  .of (owner := "bytearray") (n := "append") (by rw [typeLookup_type, builtinLookup_eq_fast]; kernel_rfl) (by decide +kernel) (by decide +kernel) (by decide +kernel)
    (by first | exact .inl (by decide +kernel) | exact .inr (by decide +kernel)) (by rw [isSubtype_type]; kernel_rfl)
theorem entry_ba_append : entryFor table "bytearray.append" = some Builtin.«bytearray.append» := entryFor_of_tree (by kernel_rfl)
theorem args_ba_append (a b : Value) : argsOk "bytearray.append" ⟨[a, b], []⟩ := by unfold argsOk; kernel_rfl
theorem resize_D {a : Addr} {b : Array UInt8} {Q : Unit → Shared → Prop} {M : Model} (ha : s.heap.get? a = some (baObj b)) (h : Q () s) : wpD M A (Builtin.Bytes.checkResize (.ref a)) Q E s := by
  unfold Builtin.Bytes.checkResize
  refine wpD_bind (wpD_bind (exported_D ?_))
  refine wpD_of_any ?_
  show wpAny M A (Builtin.Bytes.exportsOf (.ref a) >>= _) _ E s
  unfold Builtin.Bytes.exportsOf
  refine wpAny_bind (wpAny_bind (wpAny_load ha (wpAny_pure (wpAny_pure ?_))))
  exact wpD_of_any (wpAny_pure h)
theorem ba_append {a : Addr} {b : Array UInt8} {c : Nat} {t : Tok} {Q : Value → Shared → Prop} (ha : s.heap.get? a = some (baObj b)) (hc : c < 256)
    (hb : b.size ≤ 100000) (h : ∀ h' tk', h'.get? a = some (baObj (b.push c.toUInt8)) → (∀ x o, x ≠ a → s.heap.get? x = some o → h'.get? x = some o) → s.heap.objs.size ≤ h'.objs.size → Q .none { s with heap := h', toks := tk' }) :
    wpD (model prog w) A (call (.builtin "bytearray.append") [.ref a, .int c t]) Q E s := by
  have hT : s.TypeIs (.ref a) "bytearray" := ⟨_, ha, rfl⟩
  refine wpD_call (codeD_call_builtin slot_ba_append.plain entry_ba_append rfl (slot_ba_append.check _ _ _ _ _ _ _ _ hT (args_ba_append _ _) ?_))
  unfold Builtin.«bytearray.append»
  refine wpD_bindAny ?_
  wp_walk
  show wpD _ _ (Builtin.Bytes.byteValue _ >>= _) _ _ _
  unfold Builtin.Bytes.byteValue
  refine wpD_bindAny ?_
  wp_walk
  rw [if_neg (by simp; omega)]
  refine wpAny_pure ?_
  refine wpD_bind (resize_D ha ?_)
  refine wpD_of_any ?_
  unfold Builtin.Bytes.write updateBytearray
  refine wpAny_bind (wpAny_bind (wpAny_load ha ?_))
  dsimp only
  refine wpAny_bind (wpAny_update ha ?_)
  have e : (↑c : Int).toNat.toUInt8 = c.toUInt8 := rfl
  have ha2 : (s.heap.update a (Obj.mapBytearray fun x => x.push (↑c : Int).toNat.toUInt8)).get? a = some (baObj (b.push c.toUInt8)) := Heap.get?_update_self _ ha rfl
  refine wpAny_lookBehind ha2 (if_neg (by simp [sizeLine_eq]; omega)) ?_
  refine wpAny_pure (h _ _ ha2 (fun x o hx hg => ?_) (Nat.le_of_eq (Heap.size_update _ _ _).symm))
  rw [Heap.get?_update_other _ _ (Ne.symm hx)]
  exact hg
theorem slot_ba_extend : Slot "bytearray" "extend" "bytearray.extend" :=
  .of (owner := "bytearray") (n := "extend") (by rw [typeLookup_type, builtinLookup_eq_fast]; kernel_rfl) (by decide +kernel) (by decide +kernel) (by decide +kernel)
    (by first | exact .inl (by decide +kernel) | exact .inr (by decide +kernel)) (by rw [isSubtype_type]; kernel_rfl)
theorem entry_ba_extend : entryFor table "bytearray.extend" = some Builtin.«bytearray.extend» := entryFor_of_tree (by kernel_rfl)
theorem args_ba_extend (a b : Value) : argsOk "bytearray.extend" ⟨[a, b], []⟩ := by unfold argsOk; kernel_rfl
theorem bytes_buffer : (typeLookup (.type "bytes") "__buffer__") = pure (some (.builtin "bytes.__buffer__")) := by rw [typeLookup_type, builtinLookup_eq_fast]; kernel_rfl
theorem bytes_spec (c : Array UInt8) (t : Tok) : specialOf (.bytes c t) (PySem.Str.ofString "__buffer__") = pure (some (.builtin "bytes.__buffer__")) := by
  unfold specialOf
  show typeLookup (.type "bytes") _ = _
  exact bytes_buffer
theorem bytes_norel : (typeLookup (.type "bytes") (PySem.Str.ofString "__release_buffer__")) = pure none := by rw [typeLookup_type, builtinLookup_eq_fast]; kernel_rfl
theorem bytes_own1 (c : Array UInt8) (t : Tok) : Builtin.Bytes.slotIsOwn (.bytes c t) "__buffer__" = pure true := by
  unfold Builtin.Bytes.slotIsOwn
  rw [bytes_spec]
  show (if _ then _ else _) = _
  rw [if_neg (by decide +kernel)]
  rw [show ("bytes.__buffer__".dropRight ("__buffer__".length + 1)) = "bytes" by decide +kernel]
  unfold isInstance
  show isSubtype (.type "bytes") (.type "bytes") = _
  rw [isSubtype_type]; kernel_rfl
theorem bytes_own2 (c : Array UInt8) (t : Tok) : Builtin.Bytes.slotIsOwn (.bytes c t) "__release_buffer__" = pure true := by
  unfold Builtin.Bytes.slotIsOwn specialOf
  show (typeLookup (.type "bytes") _ >>= _) = _
  rw [bytes_norel]; rfl
theorem bytes_take' (id : String) (c : Array UInt8) (t : Tok) : Builtin.Bytes.takeBufferQuiet? id (.bytes c t) 0 = pure (some (c, none)) := by
  unfold Builtin.Bytes.takeBufferQuiet? Builtin.Bytes.takeBuffer? Builtin.Bytes.buffer? Builtin.Bytes.ownRelease
  simp only [bytes_spec, bytes_own1, bytes_own2]
  rfl
theorem bytes_take (c : Array UInt8) (t : Tok) : Builtin.Bytes.takeBufferQuiet? "bytearray.extend" (.bytes c t) 0 = pure (some (c, none)) := bytes_take' _ c t
theorem ba_extend {a : Addr} {b c : Array UInt8} {t : Tok} {Q : Value → Shared → Prop} (ha : s.heap.get? a = some (baObj b)) (hb : b.size ≤ 100000) (hc : c.size ≤ 100000)
    (h : ∀ h' tk', h'.get? a = some (baObj (b ++ c)) → (∀ x o, x ≠ a → s.heap.get? x = some o → h'.get? x = some o) → s.heap.objs.size ≤ h'.objs.size → Q .none { s with heap := h', toks := tk' }) :
    wpD (model prog w) A (call (.builtin "bytearray.extend") [.ref a, .bytes c t]) Q E s := by
  have hT : s.TypeIs (.ref a) "bytearray" := ⟨_, ha, rfl⟩
  refine wpD_call (codeD_call_builtin slot_ba_extend.plain entry_ba_extend rfl (slot_ba_extend.check _ _ _ _ _ _ _ _ hT (args_ba_extend _ _) ?_))
  unfold Builtin.«bytearray.extend»
  refine wpD_bindAny ?_
  wp_walk
  show wpD _ _ (specialOf (.bytes c t) "__buffer__" >>= _) _ _ _
  refine wpD_bindAny ?_
  have f1 := bytes_buffer
  unfold specialOf
  repeat (any_goals (first | assumption | wp_step))
  rw [if_pos (by rfl)]
  refine wpD_bindAny ?_
  refine wpAny_rule ?_
  refine wpD_bindAny ?_
  unfold Builtin.Bytes.payload Builtin.Bytes.payload?
  repeat (any_goals (first | assumption | with_reducible refine wpAny_load ha ?_ | wp_step))
  rw [bytes_take]
  refine wpD_bindAny (wpAny_pure ?_)
  show wpD _ _ (if (!c.isEmpty) = true then (Builtin.Bytes.checkResize (.ref a) >>= fun _ => (do Builtin.Bytes.write (.ref a) (· ++ c); ret .none)) else (do Builtin.Bytes.write (.ref a) (· ++ c); ret .none)) _ _ _
  have fin : ∀ (Q' : PySem.Fin → Shared → Prop) (E' : Value → Shared → Prop), (∀ h' tk', h'.get? a = some (baObj (b ++ c)) → (∀ x o, x ≠ a → s.heap.get? x = some o → h'.get? x = some o) → s.heap.objs.size ≤ h'.objs.size → Q' (.done (.ret .none)) { s with heap := h', toks := tk' }) →
      wpD (model prog w) A.in1 (do Builtin.Bytes.write (.ref a) (· ++ c); ret .none) Q' E' s := by
    intro Q' E' h
    refine wpD_of_any ?_
    unfold Builtin.Bytes.write updateBytearray
    refine wpAny_bind (wpAny_bind (wpAny_load ha ?_))
    dsimp only
    refine wpAny_bind (wpAny_update ha ?_)
    have ha2 : (s.heap.update a (Obj.mapBytearray fun x => x ++ c)).get? a = some (baObj (b ++ c)) := Heap.get?_update_self _ ha rfl
    refine wpAny_lookBehind ha2 (if_neg (by simp [sizeLine_eq]; omega)) ?_
    refine wpAny_pure (h _ _ ha2 (fun x o hx hg => ?_) (Nat.le_of_eq (Heap.size_update _ _ _).symm))
    rw [Heap.get?_update_other _ _ (Ne.symm hx)]
    exact hg
  by_cases hce : (!c.isEmpty) = true
  · rw [if_pos hce]
    refine wpD_bind (resize_D ha ?_)
    exact fin _ _ h
  · rw [if_neg hce]
    exact fin _ _ h
end
section
variable {prog : Program} {w : World} {A : Around} {E : Value → Shared → Prop} {R : Result → Shared → Prop} {s : Shared}
theorem mro_ba : mroOf (.type "bytearray") = pure [.type "bytearray", .type "object"] := by rw [mroOf_type]; kernel_rfl
theorem lookup_ba_new : typeLookup (.type "bytearray") "__new__" = pure (some (.builtin "bytearray.__new__")) := by rw [typeLookup_type, builtinLookup_eq_fast]; kernel_rfl
theorem slot_ba_init : Slot "bytearray" "__init__" "bytearray.__init__" :=
  .of (owner := "bytearray") (n := "__init__") (by rw [typeLookup_type, builtinLookup_eq_fast]; kernel_rfl) (by decide +kernel) (by decide +kernel) (by decide +kernel)
    (by first | exact .inl (by decide +kernel) | exact .inr (by decide +kernel)) (by rw [isSubtype_type]; kernel_rfl)
theorem called_ba : TypeCalled "bytearray" "bytearray.__new__" "bytearray.__init__" :=
  ⟨by decide +kernel, by decide +kernel, ⟨_, _, mro_ba⟩, madeBy_type mro_ba lookup_ba_new (by decide +kernel), by decide +kernel, by rw [isSubtype_type]; kernel_rfl, slot_ba_init⟩
theorem typeCall_ba : checkTypeCall "bytearray" ⟨[], []⟩ = pure () := by kernel_rfl
theorem newCall_ba : checkBuiltinCall "bytearray.__new__" ⟨[.type "bytearray"], []⟩ = pure () := by kernel_rfl
theorem plain_ba_new : plainId "bytearray.__new__" = true := by decide +kernel
theorem entry_ba_init : entryFor table "bytearray.__init__" = some Builtin.«bytearray.__init__» := entryFor_of_tree (by kernel_rfl)
theorem args_ba_init (a : Value) : argsOk "bytearray.__init__" ⟨[a], []⟩ := by unfold argsOk; kernel_rfl
theorem entry_ba_new : entryFor table "bytearray.__new__" = some Builtin.«list.__new__» :=
  entryFor_alias (id' := "list.__new__") (by rw [fastTable_eq_tree]; kernel_rfl) (by decide +kernel) (by decide +kernel) (by rw [fastTable_eq_tree]; kernel_rfl)
set_option maxRecDepth 1000000 in
theorem owner_ba_new : ("bytearray.__new__".splitOn ".__new__").headD "" = "bytearray" := by simp +decide [String.splitOn, String.splitOnAux]
theorem sub_ba_self : isSubtype (.type "bytearray") (.type "bytearray") = pure true := by rw [isSubtype_type]; kernel_rfl
theorem code_ba_new {Q₁ : Value → Shared → Prop} (h : Q₁ (.ref s.heap.objs.size) { s with heap := s.heap.push (baObj #[]) }) :
    codeAny (model prog w) A (.call (.builtin "bytearray.__new__") ⟨[.type "bytearray"], []⟩) (wants Q₁ E) s := by
  refine codeAny_of_tree ?_
  show wpAny _ A.in1 (do checkBuiltinCall "bytearray.__new__" ⟨[.type "bytearray"], []⟩; again (.builtin "bytearray.__new__" ⟨[.type "bytearray"], []⟩)) _ _ s
  refine wpAny_bind (wpAny_of_eq newCall_ba (wpAny_pure ⟨plainId_quiet plain_ba_new _, codeAny_builtin_stack entry_ba_new rfl fun p st => ?_⟩))
  rw [Around.under_plainId plain_ba_new _]
  have hsub := sub_ba_self
  have hown := owner_ba_new
  obtain ⟨hp, g, d, tk, os⟩ := s
  simp only [hown]
  wp_walk
  exact h
theorem ba_rel (a : Addr) {b : Array UInt8} (ha : s.heap.get? a = some (baObj b)) {M : Model} {Q : Bool → Shared → Prop} (h : Q false s) : wpAny M A (Builtin.Bytes.ownRelease (.ref a)) Q E s := by
  have hT : s.TypeIs (.ref a) "bytearray" := ⟨_, ha, rfl⟩
  have f1 : typeLookup (.type "bytearray") (PySem.Str.ofString "__release_buffer__") = pure (some (.builtin "bytearray.__release_buffer__")) := by rw [typeLookup_type, builtinLookup_eq_fast]; kernel_rfl
  have f2 := sub_ba_self
  unfold Builtin.Bytes.ownRelease Builtin.Bytes.slotIsOwn specialOf
  refine wpAny_bind (wpAny_bind (wpAny_bind (wpAny_typeOf hT (wpAny_of_eq f1 ?_))))
  dsimp only
  rw [if_neg (by decide +kernel), show ("bytearray.__release_buffer__".dropRight ("__release_buffer__".length + 1)) = "bytearray" by decide +kernel]
  unfold isInstance
  refine wpAny_bind (wpAny_typeOf hT (wpAny_of_eq f2 (wpAny_pure h)))
theorem ba_init {a : Addr} (ha : s.heap.get? a = some (baObj #[])) {Q : PySem.Fin → Shared → Prop} (h : ∀ h', h'.get? a = some (baObj #[]) → (∀ x o, x ≠ a → s.heap.get? x = some o → h'.get? x = some o) → s.heap.objs.size ≤ h'.objs.size → Q (.done (.ret .none)) { s with heap := h' }) :
    wpD (model prog w) A (Builtin.«bytearray.__init__» ⟨[.ref a], []⟩) Q E s := by
  unfold Builtin.«bytearray.__init__»
  refine wpD_bindAny (ba_rel a ha ?_)
  rw [if_neg (by decide)]
  show wpD _ _ (Builtin.Bytes.bindOptional "bytearray.__init__" "bytearray" ["source", "encoding", "errors"] [] [] >>= _) _ _ _
  rw [show Builtin.Bytes.bindOptional "bytearray.__init__" "bytearray" ["source", "encoding", "errors"] [] [] = pure [none, none, none] by kernel_rfl]
  refine wpD_bindAny (wpAny_pure ?_)
  show wpD _ _ (Builtin.Bytes.checkCodecArg "bytearray.__init__" "bytearray" "encoding" none >>= _) _ _ _
  rw [show Builtin.Bytes.checkCodecArg "bytearray.__init__" "bytearray" "encoding" none = pure () by rfl]
  refine wpD_bindAny (wpAny_pure ?_)
  rw [show Builtin.Bytes.checkCodecArg "bytearray.__init__" "bytearray" "errors" none = pure () by rfl]
  refine wpD_bindAny (wpAny_pure ?_)
  refine wpD_bind (wpD_bind (exported_D ?_))
  refine wpD_of_any ?_
  show wpAny _ _ (Builtin.Bytes.exportsOf (.ref a) >>= _) _ E s
  unfold Builtin.Bytes.exportsOf
  refine wpAny_bind (wpAny_bind (wpAny_load ha (wpAny_pure (wpAny_pure ?_))))
  rw [if_neg (by decide)]
  refine wpD_of_any ?_
  unfold Builtin.Bytes.write updateBytearray
  refine wpAny_bind (wpAny_bind (wpAny_load ha ?_))
  dsimp only
  refine wpAny_bind (wpAny_update ha ?_)
  have ha2 : (s.heap.update a (Obj.mapBytearray fun x => #[])).get? a = some (baObj #[]) := Heap.get?_update_self _ ha rfl
  refine wpAny_lookBehind ha2 rfl ?_
  refine wpAny_bind (wpAny_pure (wpAny_pure (h _ ha2 (fun x o hx hg => ?_) (Nat.le_of_eq (Heap.size_update _ _ _).symm))))
  rw [Heap.get?_update_other _ _ (Ne.symm hx)]
  exact hg
theorem ba_type_call {Q : Value → Shared → Prop} (h : ∀ h' tk', h'.get? s.heap.objs.size = some (baObj #[]) → (∀ x o, s.heap.get? x = some o → h'.get? x = some o) → s.heap.objs.size < h'.objs.size → Q (.ref s.heap.objs.size) { s with heap := h', toks := tk' }) :
    wpD (model prog w) A (call (.type "bytearray") []) Q Nope s := by
  have ft := called_ba
  obtain ⟨c, tl, hmro⟩ := ft.mro
  have hmade := ft.made
  have hsub := ft.sub
  have h1 := ft.notType
  have h2 := ft.canCreate
  have h3 := typeCall_ba
  refine wpD_call (codeD_of_tree ?_)
  show wpD _ _ (callAny (.type "bytearray") _) _ _ _
  refine wpD_of_any (wpAny_pure ⟨Code.quiet_builtin _ (by decide +kernel), rfl, codeD_builtin F.entry_type_call ?_⟩)
  rw [Around.under_plain (weight_type_call_type "bytearray" [] []) rfl]
  unfold Builtin.«type.__call__»
  dsimp only
  rw [if_neg (by rw [h1]; decide)]
  show wpD _ _ (if _ then _ else _) _ _ _
  rw [if_neg (by rw [h2]; decide)]
  show wpD _ _ (checkTypeCall "bytearray" ⟨[], []⟩ >>= _) _ _ _
  rw [h3]
  refine wpD_bindAny (wpAny_pure ?_)
  show wpD _ _ (mroOf (.type "bytearray") >>= _) _ _ _
  rw [hmro]
  refine wpD_bindAny (wpAny_pure ?_)
  rw [if_neg (by simp)]
  show wpD _ _ (Bind.madeBy (.type "bytearray") >>= _) _ _ _
  rw [hmade]
  refine wpD_bindAny (wpAny_pure ?_)
  refine wpD_bindAny (wpAny_pure ?_)
  show wpD _ _ (holding [.builtin "bytearray.__new__"] (call (.builtin "bytearray.__new__") [.type "bytearray"] []) >>= _) _ _ _
  refine wpD_bindAny (wpAny_holding (wpAny_call (codeAny_mono (code_ba_new (E := Nope) (Q₁ := fun v s' => v = .ref s.heap.objs.size ∧ s' = { s with heap := s.heap.push (baObj #[]) }) ⟨rfl, rfl⟩) fun r s₁ hr => ?_)))
  cases r with
  | error e => exact hr
  | ok fl =>
    cases fl with
    | ret obj =>
      obtain ⟨rfl, rfl⟩ := hr
      have ha : (s.heap.push (baObj #[])).get? s.heap.objs.size = some (baObj #[]) := Heap.get?_push_size _ rfl
      have hT : ({ s with heap := s.heap.push (baObj #[]) } : Shared).TypeIs (.ref s.heap.objs.size) "bytearray" := ⟨_, ha, rfl⟩
      dsimp only
      refine wpD_bindAny ?_
      unfold isInstance
      refine wpAny_bind (wpAny_typeOf hT (wpAny_of_eq hsub ?_))
      rw [if_neg (by decide)]
      refine wpD_bind (wpD_holding ?_)
      unfold callSpecial? specialOf
      refine wpD_bindAny (wpAny_bind (wpAny_typeOf hT (wpAny_of_eq slot_ba_init.lookup ?_)))
      dsimp only
      refine wpD_holding ?_
      refine wpD_bindAny (wpAny_of_eq (slot_ba_init.bind _) ?_)
      dsimp only
      refine wpD_bind (wpD_call (codeD_call_builtin slot_ba_init.plain entry_ba_init rfl (slot_ba_init.check _ _ _ _ _ _ _ _ hT (args_ba_init _) (ba_init ha ?_))))
      intro h' hh hk hs
      refine wpD_pure (wpD_pure ?_)
      refine h _ _ hh (fun x o hg => hk x o (Nat.ne_of_lt (Heap.lt_size hg)) (Heap.get?_push_of_some _ hg)) ?_
      exact Heap.lt_size hh
    | _ => exact hr.elim
end
section
variable {prog : Program} {w : World} {A : Around} {E : Value → Shared → Prop} {R : Result → Shared → Prop} {s : Shared}
theorem ba_no_bytes : typeLookup (.type "bytearray") (PySem.Str.ofString "__bytes__") = pure none := by rw [typeLookup_type, builtinLookup_eq_fast]; kernel_rfl
theorem ba_no_index : typeLookup (.type "bytearray") (PySem.Str.ofString "__index__") = pure none := by rw [typeLookup_type, builtinLookup_eq_fast]; kernel_rfl
theorem ba_buffer : typeLookup (.type "bytearray") (PySem.Str.ofString "__buffer__") = pure (some (.builtin "bytearray.__buffer__")) := by rw [typeLookup_type, builtinLookup_eq_fast]; kernel_rfl
theorem ba_own {a : Addr} {b : Array UInt8} {M : Model} (ha : s.heap.get? a = some (baObj b)) {Q : Bool → Shared → Prop} (h : Q true s) : wpAny M A (Builtin.Bytes.slotIsOwn (.ref a) "__buffer__") Q E s := by
  have hT : s.TypeIs (.ref a) "bytearray" := ⟨_, ha, rfl⟩
  have f2 := sub_ba_self
  unfold Builtin.Bytes.slotIsOwn
  refine wpAny_bind (wpAny_specialOf hT ba_buffer ?_)
  dsimp only
  rw [if_neg (by decide +kernel), show ("bytearray.__buffer__".dropRight ("__buffer__".length + 1)) = "bytearray" by decide +kernel]
  unfold isInstance
  exact wpAny_bind (wpAny_typeOf hT (wpAny_of_eq f2 h))
theorem ba_bytes_new {a : Addr} {b : Array UInt8} {Q : Value → Shared → Prop} (ha : s.heap.get? a = some (baObj b)) (hb : b.size ≤ 100000) (hQ : ∀ t k, Q (.bytes b t) { s with toks := k }) :
    codeAny (model prog w) A (.call (.builtin "bytes.__new__") ⟨[.type "bytes", .ref a], []⟩) (wants Q E) s := by
  refine codeAny_of_tree ?_
  show wpAny _ A.in1 (do checkBuiltinCall "bytes.__new__" ⟨[.type "bytes", .ref a], []⟩; again (.builtin "bytes.__new__" ⟨[.type "bytes", .ref a], []⟩)) _ _ s
  refine wpAny_bind (wpAny_of_eq (F.bm_newCall _) (wpAny_pure ⟨plainId_quiet F.bm_plain _, codeAny_builtin F.bm_entry ?_⟩))
  rw [Around.under_plainId F.bm_plain _]
  have hT : s.TypeIs (.ref a) "bytearray" := ⟨_, ha, rfl⟩
  unfold Builtin.«bytes.__new__»
  refine wpAny_bind (wpAny_of_eq (a := true) rfl ?_)
  refine bm_if_false rfl ?_
  refine wpAny_bind (wpAny_of_eq F.bm_sub ?_)
  refine bm_if_false rfl ?_
  refine wpAny_bind (wpAny_of_eq (F.bm_bind _) ?_)
  refine wpAny_bind (wpAny_of_eq (a := ()) rfl ?_)
  refine wpAny_bind (wpAny_of_eq (a := ()) rfl ?_)
  refine bm_if_false rfl ?_
  refine wpAny_bind (wpAny_specialOf hT ba_no_bytes ?_)
  refine wpAny_bind (wpAny_bind ?_)
  show wpAny _ _ (load a >>= _) _ _ _
  refine wpAny_bind (wpAny_load ha ?_)
  refine wpAny_pure (wpAny_pure ?_)
  refine bm_if_false rfl ?_
  refine wpAny_bind (wpAny_specialOf hT ba_no_index ?_)
  refine bm_if_true rfl ?_
  first
    | show wpAny _ _ (Builtin.Bytes.buffer? "bytes.__new__" (.ref a) true >>= _) _ _ _
    | (refine wpAny_bind ?_; show wpAny _ _ (Builtin.Bytes.buffer? "bytes.__new__" (.ref a) true >>= _) _ _ _)
  refine wpAny_bind ?_
  unfold Builtin.Bytes.buffer?
  refine wpAny_bind (wpAny_specialOf hT ba_buffer ?_)
  refine wpAny_bind (ba_own ha ?_)
  refine bm_if_false rfl ?_
  refine wpAny_bind (wpAny_specialOf hT ba_buffer ?_)
  refine wpAny_bind (ba_rel a ha ?_)
  refine bm_if_false rfl ?_
  unfold Builtin.Bytes.payload Builtin.Bytes.payload?
  refine wpAny_bind (wpAny_bind (wpAny_bind (wpAny_load ha (wpAny_pure (wpAny_pure (wpAny_pure ?_))))))
  dsimp only
  refine wpAny_bind (wpAny_rule ?_)
  refine wpAny_bind (wpAny_mkBytes ?_ (by rw [sizeLine_eq]; omega))
  show wpAny _ _ (if (Value.type "bytes" == Value.type "bytes") = true then _ else _) _ _ _
  refine bm_if_true (by decide) ?_
  first
    | exact wpAny_pure (hQ _ _)
    | exact wpAny_bind (wpAny_pure (wpAny_pure (hQ _ _)))
theorem call_bytes_ba {a : Addr} {b : Array UInt8} {Q : Value → Shared → Prop} (ha : s.heap.get? a = some (baObj b)) (hb : b.size ≤ 100000) (hQ : ∀ t k, Q (.bytes b t) { s with toks := k }) :
    wpAny (model prog w) A (call (.type "bytes") [.ref a]) Q E s := by
  refine callType_codes (Q₁ := fun obj s₁ => s₁.TypeIs obj "bytes" ∧ Q obj s₁) F.bm_called (F.bm_typeCall _) F.entry_object_init
    (ba_bytes_new ha hb fun t k => ⟨PySem.W.typeIs_bytes _ _ _, hQ t k⟩) fun obj s₁ h₁ => ?_
  exact ⟨h₁.1, F.args_object_init_2 obj _, object_init_meets F.bm_called.init.lookup F.bm_called.made (by decide) prog w A.in1 _ s₁ ⟨h₁.1, rfl, h₁.2⟩⟩
end
section
variable {M : Model} {A : Around} {E : Value → Shared → Prop} {s : Shared} {env : Env}
theorem wpD_storeName_any {x : PySem.Str} {v : Value} {Q : Unit → Shared → Prop} (h : wpAny M A (storeName env x v) Q E s) : wpD M A (bindName env x v) Q E s := wpD_of_any (wpAny_bindName h)
theorem wpD_Assign_Name {x pos' value pos} {Q : Flow → Shared → Prop}
    (h : wpD M A (eval value env) (fun v s₁ => wpAny M A (storeName env x v) (fun _ => Q .next) E s₁) E s)
    (hs : swapsWith value (some (.Name x pos')) pos.line env = pure false := by rfl) :
    wpD M A (exec (.Assign [.Name x pos'] value pos) env) Q E s := by
  rw [exec_Assign_Name env x pos' value pos hs]
  refine wpD_bindAny (wpAny_standAt (wpD_bind (wpD_mono h (fun v s₁ h₁ => wpD_bindAny (wpAny_standAt (wpD_bind (wpD_storeName_any (wpAny_mono h₁ (fun _ s₂ q => wpD_pure q) fun _ _ e => e))))) fun _ _ e => e)))
theorem wpD_Expr {e pos} {Q : Flow → Shared → Prop} (h : wpD M A (eval e env) (fun v s' => match v with | .ref _ => False | _ => Q .next s') E s)
    (hi : interactive env = false := by rfl) (hs : swapsWith e none pos.line env = pure false := by rfl) :
    wpD M A (exec (.Expr e pos) env) Q E s := by
  rw [exec_Expr env e pos hi hs]
  refine wpD_bindAny (wpAny_standAt (wpD_bind (wpD_mono h (fun v s' h' => ?_) fun _ _ x => x)))
  have hv : ∀ a, v ≠ .ref a := fun a hva => by subst hva; exact h'
  rw [dropValue_plain hv]
  refine wpD_pure ?_
  cases v <;> first | exact h' | exact (hv _ rfl).elim
theorem wpD_Return {e pos} {Q : Flow → Shared → Prop} (h : wpD M A (eval e env) (fun v => Q (.ret v)) E s) : wpD M A (exec (.Return (some e) pos) env) Q E s := by
  rw [exec_Return_some]
  exact wpD_bindAny (wpAny_standAt (wpD_bind (wpD_mono h (fun v s' h' => wpD_pure h') fun _ _ x => x)))
theorem wpD_spliced_nil {Q : List Value → Shared → Prop} (h : Q [] s) : wpD M A (spliced []) Q E s := wpD_pure h
theorem wpD_spliced_cons {x : Sem Value} {rest : List (Bool × Sem Value)} {Q : List Value → Shared → Prop}
    (h : wpD M A x (fun v s₁ => wpD M A (spliced rest) (fun vs s₂ => Q (v :: vs) s₂) E s₁) E s) : wpD M A (spliced ((false, x) :: rest)) Q E s := by
  rw [spliced]
  refine wpD_bind (wpD_mono h (fun v s₁ h₁ => ?_) fun _ _ x => x)
  simp only [Bool.false_eq_true, if_false]
  exact wpD_bindAny (wpAny_pure (wpD_bind (wpD_holding (wpD_mono h₁ (fun vs s₂ h₂ => wpD_pure h₂) fun _ _ x => x))))
theorem wpD_evalArgs {f : Value} {x : Sem Value} {rest : List (Bool × Sem Value)} {Q : Args → Shared → Prop}
    (h : wpD M A (spliced ((false, x) :: rest)) (fun vs s' => Q ⟨vs, []⟩ s') E s) : wpD M A (evalArgs f true ((false, x) :: rest) []) Q E s := by
  unfold evalArgs
  show wpD M A (spliced ((false, x) :: rest) >>= _) Q E s
  refine wpD_bind (wpD_mono h (fun vs s' h' => ?_) fun _ _ x => x)
  refine wpD_holding ?_
  exact wpD_bindAny (wpAny_pure (wpD_bindAny (wpAny_pure (wpD_pure h'))))
theorem wpD_evalArgs0 {f : Value} {Q : Args → Shared → Prop} (h : Q ⟨[], []⟩ s) : wpD M A (evalArgs f true [] []) Q E s := wpD_of_any (PyProof.Rows.evalArgs_empty h)
theorem wpD_keep {α : Type} {vs : List Value} {m : Sem α} {Q : α → Shared → Prop} (h : wpD M A m Q E s) : wpD M A (m.keep vs) Q E s := fun Γ p hΓ c => by rw [Sem.wp_keep]; exact h Γ p hΓ c
theorem wpD_callWith {pos : Pos} {f : Value} {k : Keeper} {first : List Value} {args : List (Bool × Sem Value)} {Q : Value → Shared → Prop} (hplain : args.any (·.1) = false) (hk' : k = Keeper.frame ∨ k = Keeper.machine)
    (h : wpD M A (evalArgs f true args []) (fun a s₁ => wpAny M A (keeperOf f) (fun k' s₂ => k' = k ∧ wpD M A (call f (first ++ a.pos) a.kw) Q E s₂) E s₁) E s) :
    wpD M A (callWith pos f first args []) Q E s := by
  unfold callWith
  refine wpD_bind (wpD_holding (wpD_mono h (fun a s₁ h₁ => wpD_bindAny (wpAny_standAt ?_)) fun _ _ x => x))
  simp only [hplain, List.any_nil, Bool.or_false]
  refine wpD_bindAny (wpAny_mono h₁ (fun k' s₂ h₂ => ?_) fun _ _ e => e)
  obtain ⟨rfl, h₂⟩ := h₂
  have tail : ∀ {t : Sem Value}, wpD M A t Q E s₂ → wpD M A (t >>= fun r => holding [r] point >>= fun _ => pure r) Q E s₂ :=
    fun ht => wpD_bind (wpD_mono ht (fun r s₃ hr => wpD_bindAny (wpAny_holding (wpAny_point (wpD_pure hr)))) fun _ _ x => x)
  have marked (mk : Value) : wpD M A (callMarked mk f (first ++ a.pos) a.kw) Q E s₂ := by unfold callMarked; exact wpD_keep h₂
  rcases hk' with rfl | rfl
  · dsimp only
    split
    · exact tail h₂
    · exact tail (marked _)
  · exact tail h₂
theorem wpD_Call_Name {x : PySem.Str} {np pos : Pos} {args : List PySem.Expr} {Q : Value → Shared → Prop}
    (h : wpAny M A (eval (.Name x np) env) (fun f s₁ => wpD M A (callWith pos f [] (backTo pos (starEach args env)) []) Q E s₁) E s) :
    wpD M A (eval (.Call (.Name x np) args [] pos) env) Q E s := by
  show wpD M A (do callWith pos (← eval (.Name x np) env) [] (backTo pos (starEach args env)) (backToKw pos (keywordEach [] env))) Q E s
  exact wpD_bindAny h
end
section
variable {prog : Program} {w : World} {A : Around} {E : Value → Shared → Prop} {s : Shared} {env : Env}
theorem wpD_Call_method {o : PySem.Expr} {name : PySem.Str} {apos pos : Pos} {args : List PySem.Expr} {T id : String} {Q : Value → Shared → Prop}
    (hbase : attributeBase o name env (eval o env) = eval o env)
    (hfew : ((backTo pos (starEach args env)).all (fun x => !x.1) && (backToKw pos (keywordEach [] env)).all (fun x => x.1.isSome)
      && decide (args.length + ([] : List Keyword).length + (if ([] : List Keyword).isEmpty then 0 else 1) < 30)) = true)
    (hline : (apos.endLine == pos.line) = true)
    (pa : PlainAttrs T) (slot : Slot T name id) (hty : typeOf (.builtin id) = pure (.type "method_descriptor"))
    (h : wpAny (model prog w) A (eval o env) (fun ov s₁ => s₁.TypeIs ov T ∧ (∀ a, ov = .ref a → ∃ ob, s₁.heap.get? a = some ob ∧ ob.dict = none) ∧
      wpD (model prog w) A (callWith pos (.builtin id) [ov] (backTo pos (starEach args env)) []) Q E s₁) E s) :
    wpD (model prog w) A (eval (.Call (.Attribute o name apos) args [] pos) env) Q E s := by
  rw [arm_eval_Call, hbase]
  refine wpD_bindAny (wpAny_mono h (fun ov s₁ h₁ => ?_) fun _ _ e => e)
  obtain ⟨hT, hd, hc⟩ := h₁
  refine wpD_bindAny (wpAny_standAt ?_)
  first
    | (
       have hform : methodCallForm (args.length + ([] : List Keyword).length) (backTo pos (starEach args env)) (backToKw pos (keywordEach [] env)) = true := hfew
       have hpos : methodCallPos true o env apos pos = pure pos := by unfold methodCallPos; simp [hline]
       unfold methodCall
       rw [hform]
       refine wpD_bindAny (wpAny_holding (getMethod_builtin hT pa slot hty hd ?_))
       exact wpD_bindAny (wpAny_of_eq hpos hc))
    | (
       unfold methodCall calleeOf methodCallPos methodCallForm
       simp only [hfew, hline, if_true, Bool.not_true, Bool.or_true]
       refine wpD_bindAny (wpAny_holding (getMethod_builtin hT pa slot hty hd ?_))
       exact wpD_bindAny (wpAny_pure hc))
theorem wpD_Compare1 {l op r pos} {Q : Value → Shared → Prop} {M : Model}
    (h : wpD M A (eval l env) (fun a s₁ => wpAny M A (eval r env) (fun b s₂ => wpAny M A (compareOp op a b) Q E s₂) E s₁) E s)
    (hm : behindInMarks op r = false := by with_unfolding_all rfl) :
    wpD M A (eval (.Compare l [op] [r] pos) env) Q E s := by
  rw [eval_Compare1]
  refine wpD_bind (wpD_mono h (fun a s₁ h₁ => ?_) fun _ _ e => e)
  refine wpD_of_any fun Γ p hΓ => ?_
  simp only [markedBehindIn_of_false hm, Sem.wp_bind', Sem.wp_holding, Sem.wp_cmd_standAt, Sem.wp_operate]
  exact Sem.wp_mono M Γ _ (fun b _ s₂ h₂ => h₂ Γ _ hΓ) (fun _ _ _ h' => h') _ _ (h₁ Γ p hΓ)
theorem wpD_And {a b : PySem.Expr} {pos : Pos} {Q : Value → Shared → Prop} {M : Model}
    (h : wpD M A (eval a env) (fun v s₁ => v = .bool true ∧ wpAny M A (eval b env) Q E s₁) E s) : wpD M A (eval (.BoolOp .And [a, b] pos) env) Q E s := by
  rw [arm_eval_BoolOp]
  show wpD M A (eval a env >>= _) Q E s
  refine wpD_bind (wpD_mono h (fun v s₁ h₁ => ?_) fun _ _ e => e)
  obtain ⟨rfl, h₁⟩ := h₁
  refine wpD_bindAny (wpAny_standAt (wpD_bindAny (wpAny_holding ?_)))
  refine wpAny_pure ?_
  exact wpD_of_any h₁
end
section
variable {prog : Program} {w : World} {A : Around} {s : Shared}
theorem codeD_call_def {R : Result → Shared → Prop} {a : Addr} {o : Obj} {fd : FuncData} {body : List Stmt} {args : Args} {binds : List (PySem.Str × Value)}
    (hroom : A.depth < recursionLimit) (ho : s.heap.get? a = some o) (hdata : o.data = .func fd) (hlim : s.heap.NoLimit) (hcd : s.heap.CodeRec fd.code fd.qualname)
    (hbody : fd.body = .stmts body) (hbind : BindsTo s fd args binds)
    (hcell : ∀ x ∈ fd.scope.names, x.2 ≠ .cell) (hloc : ∀ x ∈ binds, fd.scope.names.lookup x.1 = some .local)
    (h : ∀ h₀, h₀.Ns s.heap.objs.size (fun x => binds.reverse.lookup x) → (∀ b o, s.heap.get? b = some o → h₀.get? b = some o) →
      wpD (model prog w) (A.deeper (callEnv fd s.heap.objs.size a)) (execs body (callEnv fd s.heap.objs.size a)) (fun f s' => R (.ok (.ret (match f with | .ret v => v | _ => .none))) s') Nope
        { s with heap := h₀, toks := s.toks + binds.length })
    (hco : fd.scope.isCoroutine = false := by rfl) (hgen : fd.scope.isGenerator = false := by rfl) (hk : fd.scope.kind = .function := by rfl) :
    codeD (model prog w) A (.call (.ref a) args) R s := by
  refine codeD_of_tree ?_
  show wpD _ A.in1 (callAny (.ref a) args) _ _ s
  simp only [callAny]
  refine wpD_bindAny (wpAny_load ho ?_)
  obtain ⟨c, oc, vs, tq, hc, hoc, hdc, hq⟩ := hcd
  simp only [hdata, callFunction, hco, hgen, hbody, hc]
  refine wpD_bindAny (m := field (.ref c) 1) (wpAny_field hoc hdc hq (wpD_bindAny (wpAny_pure ?_)))
  refine wpD_bindAny (hbind _ _ _ _ ?_)
  refine wpD_bindAny ?_
  have hk2 := wpAny_newFunctionEnv (M := model prog w) (A := A.in1) (E := fun e s' => R (.error e) s') (s := s) (Q := fun env s₂ => s₂.heap.NoLimit ∧ codeD (model prog w) A (.func body env) R s₂) hcell hloc (fun h₀ hns₀ hsb₀ => ⟨hlim.fresh _ hsb₀, codeD_func (h h₀ hns₀ fun b o e => hsb₀.extBut b o (Nat.ne_of_lt (Heap.lt_size e)) (Heap.get?_push_of_some _ e))⟩) hk
  rw [hc] at hk2
  exact wpAny_mono hk2 (fun env s₂ h₂ => wpD_bindAny (wpAny_enterFrame h₂.1 hroom (wpD_pure ⟨rfl, rfl, h₂.2⟩))) fun _ _ e => e
end
section
variable {prog : Program} {w : World} {A : Around} {s : Shared} {Q E : Value → Shared → Prop} {mean : ExcName → Option Value} {mg mb : PySem.Str → Option Value}
  {name qual : PySem.Str} {params : Arguments} {body : List Stmt} {scope : Scope} {dV kV doc pm cdv ct oc : Value} {an od : Option Addr} {osl : Array (Option Value)} {f : Addr} {args : List Value} {binds : List (PySem.Str × Value)}
noncomputable def DoesD (prog : Program) (w : World) (n : Nat) (f : Addr) (args : List Value) (s : Shared) (R : Value → Heap → Prop) : Prop :=
  ∀ Q : Value → Shared → Prop, (∀ v h' tk', Keeps s.heap h' → R v h' → Q v { s with heap := h', toks := tk' }) → wpD (model prog w) (lev n) (call (.ref f) args) Q Nope s
theorem enterD (C : Cx w mean mg mb s.heap) (ho : (hd.heap_39 w.params).lookup f = some ⟨oc, od, .func (fnOf name qual params body scope dV kV doc pm an cdv ct), osl⟩) (hcd : codeIn (hd.heap_39 w.params) cdv qual = true)
    (hroom : A.depth < recursionLimit) (hbind : BindsTo s (fnOf name qual params body scope dV kV doc pm an cdv ct) ⟨args, []⟩ binds) (hloc : ∀ y ∈ binds, scope.names.lookup y.1 = some .local)
    (hco : scope.isCoroutine = false) (hgen : scope.isGenerator = false) (hk : scope.kind = .function) (hcell : ∀ x ∈ scope.names, x.2 ≠ .cell)
    (h : ∀ L h₁, Fr s.heap L h₁ (fun y => binds.reverse.lookup y) → News s.heap L h₁ [] → (hd.heap_39 w.params).In s.heap → Top hd.view_39 (looseW hd.view_39 [PySem.Str.ofString "PostError"]) mean mg mb s.heap →
      wpD (model prog w) (A.deeper (envOf qual scope L f cdv)) (execs body (envOf qual scope L f cdv))
        (fun fl s' => Q (match fl with | .ret v => v | _ => .none) s') Nope
        { s with heap := h₁, toks := s.toks + binds.length }) :
    wpD (model prog w) A (call (.ref f) args) Q Nope s := by
  refine wpD_call (codeD_call_def (fd := fnOf name qual params body scope dV kV doc pm an cdv ct) hroom (C.X _ _ ho) rfl C.T.nolimit (codeRec_of C.X hcd) rfl hbind hcell hloc (fun h₁ hns hk₁ => ?_) hco hgen hk)
  exact h _ h₁ ⟨hns, hk₁, Nat.le_refl _⟩ .nil C.X C.T
theorem useD {n : Nat} {R : Value → Heap → Prop} {h₀ : Heap} {L : Addr} {m : PySem.Str → Option Value} {news : List (Addr × Obj)}
    (D : Cx w mean mg mb s.heap → DoesD prog w n f args s R) (F : Fr h₀ L s.heap m) (N : News h₀ L s.heap news) (X₀ : (hd.heap_39 w.params).In h₀)
    (T : Top hd.view_39 (looseW hd.view_39 [PySem.Str.ofString "PostError"]) mean mg mb h₀) (h1 : A.handled = none) (h2 : A.depth ≤ 900 - 10 * n) (h3 : A.units ≤ 9000 - 100 * n)
    (hR : ∀ v h' tk', Fr h₀ L h' m → News h₀ L h' news → Keeps s.heap h' → R v h' → Q v { s with heap := h', toks := tk' }) :
    wpD (model prog w) A (call (.ref f) args) Q E s := by
  have key := D ⟨X₀.keeps F.keep, T.keeps F.keep⟩ Q (fun v h' tk' k r => hR v h' tk' (Mine.Fr.grow F k) (Mine.News.grow N k) k r)
  exact wpD_weak fun Γ p hΓ cl => key Γ p (lev_in h1 h2 h3 hΓ) cl
end
section
variable {prog : Program} {w : World} {A : Around} {s : Shared} {mean : ExcName → Option Value} {mg mb : PySem.Str → Option Value}
theorem Fr.made {h₀ h h' : Heap} {L a : Addr} {m : PySem.Str → Option Value} {news : List (Addr × Obj)} {o : Obj} (F : Fr h₀ L h m) (N : News h₀ L h news) (k : ∀ x o, h.get? x = some o → h'.get? x = some o) (ha : h'.get? a = some o) (hn : h.get? a = none) :
    Fr h₀ L h' m ∧ News h₀ L h' ((a, o) :: news) := by
  refine ⟨Mine.Fr.grow F k, fun p hp => ?_⟩
  rcases List.mem_cons.mp hp with rfl | hp
  · refine ⟨ha, fun e => ?_, ?_⟩
    · obtain ⟨o, _, _, ho, _⟩ := F.ns
      dsimp only at e
      rw [← e, hn] at ho; cases ho
    · cases q : h₀.get? a with
      | none => rfl
      | some o => have := F.keep _ _ q; rw [hn] at this; cases this
  · exact Mine.News.grow N k p hp
/-- a turn's end at clean places -/
noncomputable def DTurn (h₀ : Heap) (L : Addr) (J : (PySem.Str → Option Value) → List (Addr × Obj) → Prop) (own : List (Addr × Obj)) (s : Shared) (f : Flow) (s' : Shared) : Prop :=
  f = .next ∧ ∃ h' tk' m' news', s' = { s with heap := h', toks := tk' } ∧ Fr h₀ L h' m' ∧ News h₀ L h' (own ++ news') ∧ (∀ p ∈ news', ∀ q ∈ own, p.1 ≠ q.1) ∧ J m' news'
theorem DTurn.intro {h₀ : Heap} {L : Addr} {J : (PySem.Str → Option Value) → List (Addr × Obj) → Prop} {own : List (Addr × Obj)} {s : Shared} {h' : Heap} {tk' : Nat} {m' : PySem.Str → Option Value} {news' : List (Addr × Obj)}
    (F : Fr h₀ L h' m') (N : News h₀ L h' (own ++ news')) (ha : ∀ p ∈ news', ∀ q ∈ own, p.1 ≠ q.1) (hj : J m' news') : DTurn h₀ L J own s .next { s with heap := h', toks := tk' } := ⟨rfl, h', tk', m', news', rfl, F, N, ha, hj⟩
theorem loop_D {h₀ : Heap} {L a : Addr} {name : PySem.Str} {scope : Scope} {cd : Value} {x : PySem.Str} {px : Pos} {body : List Stmt} {r : Addr} {b e : Int} {n : Nat} {t u v : Tok} {m₀ : PySem.Str → Option Value} {news : List (Addr × Obj)} {Q : Flow → Shared → Prop} {E : Value → Shared → Prop}
    (J : Nat → (PySem.Str → Option Value) → List (Addr × Obj) → Prop) (hh : A.handled = none) (hr : IsRange s.heap r b e 1 t u v) (hsm : Builtin.Range.small b e 1 = true) (hn : Builtin.Range.rangeSize b e 1 = (n : Int))
    (F : Fr h₀ L s.heap m₀) (N : News h₀ L s.heap news) (hj : J 0 m₀ news) (hk : scope.kind = .function) (hl : (envOf name scope L a cd).kindOf x = some .local)
    (turn : ∀ i k m₁ news₁ h tk own, i < n → J i m₁ news₁ → (∀ p ∈ news₁, ∀ q ∈ own, p.1 ≠ q.1) → Fr h₀ L h (fun y => if y = x then some (.int (b + (i : Int)) k) else m₁ y) → News h₀ L h (own ++ news₁) →
      wpD (model prog w) A (execs body (envOf name scope L a cd)) (DTurn h₀ L (J (i + 1)) own { s with heap := h, toks := tk }) Nope { s with heap := h, toks := tk })
    (done : ∀ m₁ news₁ h tk, J n m₁ news₁ → Fr h₀ L h m₁ → News h₀ L h news₁ → Q .next { s with heap := h, toks := tk }) :
    wpAny (model prog w) A (pyIter (.ref r)) (fun it s₂ => codeD (model prog w) A (.forLoop (.Name x px) it body [] (envOf name scope L a cd)) (fun r s' => match r with | .ok f => Q f s' | .error _ => False) s₂) E s := by
  refine wpAny_pyIter_range hr hsm ?_
  generalize hI : s.heap.objs.size = I
  have W := Walks.range (prog := prog) (w := w) hh I b 1 n
  have hLI : L ≠ I := fun e => by have := F.ns.lt; rw [e, hI] at this; exact Nat.lt_irrefl _ this
  have h0I : h₀.get? I = none := by rw [← hI]; exact next_is_new F
  have other : ∀ {h h' : Heap} {m : PySem.Str → Option Value} {nw : List (Addr × Obj)}, Fr h₀ L h m → News h₀ L h nw → (∀ p ∈ nw, p.1 ≠ I) → (∀ x o, x ∉ [I] → h.get? x = some o → h'.get? x = some o) → Fr h₀ L h' m ∧ News h₀ L h' nw := by
    intro h h' m nw F N hne hk'
    refine ⟨Mine.Fr.but F (fun x o hx hg => hk' x o (by simpa using hx) hg) hLI h0I, fun p hp => ⟨hk' _ _ (by simpa using hne p hp) (N p hp).1, (N p hp).2⟩⟩
  refine codeD_for (fun k s' => ∃ i h tk m₁ news₁, k = n - i ∧ i ≤ n ∧ s' = { s with heap := h, toks := tk } ∧ IsRangeIter h I (b + (i : Nat) * 1) ((n : Int) - (i : Nat)) 1 ∧ Fr h₀ L h m₁ ∧ News h₀ L h news₁ ∧ (∀ p ∈ news₁, p.1 ≠ I) ∧ J i m₁ news₁) ?_ (fun _ => rfl) n _ ?_
  · rintro k s' ⟨i, h, tk, m₁, news₁, hk1, hi, rfl, hit, F₁, N₁, hne, hJ⟩
    rcases Nat.lt_or_ge i n with hlt | hge
    · refine W.item i _ _ _ hlt hit ?_
      rintro v h' tk' ⟨kt, rfl⟩ hit' hk'
      have ⟨F₂, N₂⟩ := other F₁ N₁ hne hk'
      dsimp only
      have N₃ : News h₀ L h' ([(I, _)] ++ news₁) := fun p hp => by
        rcases List.mem_cons.mp hp with rfl | hp
        · exact ⟨hit', Ne.symm hLI, h0I⟩
        · exact N₂ p hp
      have ei : (b + (i : Int) * 1) = b + (i : Int) := by omega
      rw [ei]
      refine wpAny_assign_Name (stN F₂ N₃ (fun h'' F₃ N₄ => ?_) hk hl)
      refine wpD_mono (turn i kt m₁ news₁ h'' _ _ hlt hJ (fun p hp q hq => by rw [List.mem_singleton.mp hq]; exact hne p hp) F₃ N₄) (fun f s₃ hd => ?_) fun _ _ e => e
      obtain ⟨rfl, h3, tk3, m3, n3, rfl, F5, N5, ha5, hJ'⟩ := hd
      exact ⟨n - (i + 1), by omega, i + 1, h3, tk3, m3, n3, rfl, by omega, rfl, (N5 _ (.head _)).1, F5, fun p hp => N5 p (List.mem_cons_of_mem _ hp), fun p hp => ha5 p hp _ (.head _), hJ'⟩
    · have : i = n := by omega
      subst this
      refine W.done _ _ _ hit ?_
      intro h' tk' hk'
      have ⟨F₂, N₂⟩ := other F₁ N₁ hne hk'
      exact done _ _ _ _ hJ F₂ N₂
  · refine ⟨0, _, s.toks, m₀, news, by omega, Nat.zero_le _, rfl, ?_, F.push _, fun p hp => ⟨Heap.get?_push_of_some _ (N p hp).1, (N p hp).2⟩, fun p hp => ?_, hj⟩
    · rw [hn, ← hI]; simpa using Heap.get?_push_size _ rfl
    · rw [← hI]; exact Nat.ne_of_lt (Heap.lt_size (N p hp).1)
theorem plainAttrs_ba : PlainAttrs "bytearray" :=
  ⟨⟨"bytearray.__getattribute__", by rw [typeLookup_type, builtinLookup_eq_fast]; kernel_rfl, by decide +kernel⟩, by rw [typeLookup_type, builtinLookup_eq_fast]; kernel_rfl⟩
theorem type_ba_append : typeOf (.builtin "bytearray.append") = pure (.type "method_descriptor") := by first | rfl | kernel_rfl
theorem type_ba_extend : typeOf (.builtin "bytearray.extend") = pure (.type "method_descriptor") := by first | rfl | kernel_rfl
noncomputable def AppArg (h₀ : Heap) (L o : Addr) (m : PySem.Str → Option Value) (pre post : List (Addr × Obj)) (bs : Array UInt8) (Q : Value → Shared → Prop) (v : Value) (s₁ : Shared) : Prop :=
  ∃ (c : Nat) (t : Tok), v = .int (c : Int) t ∧ c < 256 ∧ Fr h₀ L s₁.heap m ∧ News h₀ L s₁.heap (pre ++ (o, baObj bs) :: post) ∧
      ∀ h' tk', Fr h₀ L h' m → News h₀ L h' (pre ++ (o, baObj (bs.push c.toUInt8)) :: post) → Q .none { s₁ with heap := h', toks := tk' }
noncomputable def AppOut (prog : Program) (w : World) (A : Around) (h₀ : Heap) (L o : Addr) (pre post : List (Addr × Obj)) (bs : Array UInt8) (t : Sem Value) (P : Value → Shared → Prop) (ov : Value) (s₁ : Shared) : Prop :=
  ov = .ref o ∧ s₁.heap.get? o = some (baObj bs) ∧ wpAny (model prog w) A t P Nope s₁
/-- out.append(e) at clean places -/
theorem append_D {h₀ : Heap} {L a o : Addr} {name : PySem.Str} {scope : Scope} {cd : Value} {x : PySem.Str} {xp apos pos : Pos} {e : PySem.Expr} {m : PySem.Str → Option Value} {pre post : List (Addr × Obj)} {bs : Array UInt8} {Q : Value → Shared → Prop}
    (_F : Fr h₀ L s.heap m) (hd : ∀ p ∈ pre ++ post, p.1 ≠ o) (hb : bs.size ≤ 100000)
    (hbase : attributeBase (.Name x xp) (PySem.Str.ofString "append") (envOf name scope L a cd) (eval (.Name x xp) (envOf name scope L a cd)) = eval (.Name x xp) (envOf name scope L a cd))
    (hfew : ((backTo pos (starEach [e] (envOf name scope L a cd))).all (fun x => !x.1) && (backToKw pos (keywordEach [] (envOf name scope L a cd))).all (fun x => x.1.isSome)
      && decide ([e].length + ([] : List Keyword).length + (if ([] : List Keyword).isEmpty then 0 else 1) < 30)) = true)
    (hline : (apos.endLine == pos.line) = true) (he : backTo pos (starEach [e] (envOf name scope L a cd)) = [(false, eval e (envOf name scope L a cd))])
    (h : wpAny (model prog w) A (eval (.Name x xp) (envOf name scope L a cd)) (AppOut prog w A h₀ L o pre post bs (eval e (envOf name scope L a cd)) (AppArg h₀ L o m pre post bs Q)) Nope s) :
    wpD (model prog w) A (eval (.Call (.Attribute (.Name x xp) (PySem.Str.ofString "append") apos) [e] [] pos) (envOf name scope L a cd)) Q Nope s := by
  refine wpD_Call_method hbase hfew hline plainAttrs_ba slot_ba_append type_ba_append (wpAny_mono h (fun ov s₁ ho => ?_) fun _ _ e => e)
  obtain ⟨rfl, hg, h⟩ := ho
  refine ⟨⟨_, hg, rfl⟩, fun a' q => by cases q; exact ⟨_, hg, rfl⟩, ?_⟩
  rw [he]
  refine wpD_callWith (k := .machine) rfl (.inr rfl) (wpD_evalArgs (wpD_spliced_cons (wpD_of_any (wpAny_mono h (fun v s₁ h₁ => wpD_spliced_nil ?_) fun _ _ e => e))))
  obtain ⟨c, t, rfl, hc, F', N', hq⟩ := h₁
  have hmem : (o, baObj bs) ∈ pre ++ (o, baObj bs) :: post := List.mem_append_right _ (.head _)
  refine wpAny_pure ⟨rfl, ?_⟩
  refine wpD_weak (ba_append (N' _ hmem).1 hc hb ?_)
  intro h'' tk'' ho hk _
  have hne : ∀ p : Addr × Obj, p ∈ pre ++ post → p.1 ≠ o := hd
  refine hq h'' tk'' (Mine.Fr.but F' (fun b ob hb => hk b ob hb) (fun e => (N' _ hmem).2.1 e.symm) (N' _ hmem).2.2) fun p hp => ?_
  rcases List.mem_append.mp hp with hp | hp
  · exact ⟨hk _ _ (hne p (List.mem_append_left _ hp)) (N' p (List.mem_append_left _ hp)).1, (N' p (List.mem_append_left _ hp)).2⟩
  · rcases List.mem_cons.mp hp with rfl | hp
    · exact ⟨ho, (N' _ hmem).2⟩
    · exact ⟨hk _ _ (hne p (List.mem_append_right _ hp)) (N' p (List.mem_append_right _ (List.mem_cons_of_mem _ hp))).1, (N' p (List.mem_append_right _ (List.mem_cons_of_mem _ hp))).2⟩
end
local macro_rules | `(tactic| walk_at "mine enterD") => `(tactic| (k_dflt (refine' enterD (by assumption) _ _ _ _ _ _ _ _ _ _; walk_at "mine in"); intro L' h' F' N' X' T'; (try dsimp only); (try k_fold)))
section
variable {prog : Program} {w : World} {A : Around} {s : Shared} {mean : ExcName → Option Value} {mg mb : PySem.Str → Option Value}
noncomputable def U (n : Nat) : List UInt8 := (List.replicate n [(0 : UInt8), 233]).flatten
theorem U_len (n : Nat) : (U n).length = 2 * n := by
  induction n with
  | zero => rfl
  | succ n ih => unfold U at *; rw [List.replicate_succ, List.flatten_cons, List.length_append, ih]; simp; omega
theorem U_succ (n : Nat) : U (n + 1) = U n ++ [0, 233] := by
  unfold U
  rw [List.replicate_succ', List.flatten_append]
  rfl
structure U16J (x : PySem.Str) (t : Tok) (o : Addr) (i : Nat) (m : PySem.Str → Option Value) (news : List (Addr × Obj)) : Prop where
  tx : m (PySem.Str.ofString "text") = some (.str x t)
  ou : m (PySem.Str.ofString "out") = some (.ref o)
  nw : news = [(o, baObj (U i).toArray)]
theorem rangeSize_len (b n : Nat) : Builtin.Range.rangeSize (b : Int) ((b + n : Nat) : Int) 1 = (n : Int) := by
  rw [rangeSize_one]; split <;> omega
theorem utf16_does (C : Cx w mean mg mb s.heap) (x : PySem.Str) (b n : Nat) (hx : x.length ≤ 100) (hn : b + n ≤ x.length) (hc : ∀ i, i < n → x.cps.toList[b + i]? = some 233) (t t1 t2 : Tok) :
    DoesD prog w 2 128 [.str x t, .int (b : Int) t1, .int ((b + n : Nat) : Int) t2] s (fun v _ => ∃ t, v = .bytes (U n).toArray t) := by
  intro Q hR
  have hx1 : x.length ≤ 1048576 := by omega
  walk_at "mine fill"
  walk_at "mine enterD"
  refine wpD_execs_cons (wpD_Assign_Name (wpD_Call_Name ?_) rfl)
  walk_at "mine steps"
  rename_i L h1 F N X T
  refine wpD_callWith (k := .machine) rfl (.inr rfl) (wpD_evalArgs0 (wpAny_pure ⟨rfl, wpD_weak (ba_type_call ?_)⟩))
  intro h2 tk2 ho hk _
  have ⟨F2, N2⟩ := Mine.Fr.made F N hk ho (Heap.get?_none_of_le (Nat.le_refl _))
  generalize h1.objs.size = o at *
  refine stN F2 N2 (fun h3 F3 N3 => ?_) rfl rfl
  clear ho hk F2 N2 F N
  show wpD _ _ (execs _ _) _ _ _
  refine wpD_execs_cons (wpD_For ?_ (fun _ => rfl))
  walk_at "mine steps"
  refine loop_D (n := n) (U16J x t o) rfl (by assumption) (range_small (by omega) (by omega) (by omega) (by omega)) (rangeSize_len b n) (by assumption) (by assumption) ⟨rfl, rfl, rfl⟩ rfl rfl ?_ ?_
  · intro i k m₁ news₁ h tk own hi hJ hdis F N
    obtain ⟨htx, hou, rfl⟩ := hJ
    have F := Mine.Fr.named F [(PySem.Str.ofString "text", _), (PySem.Str.ofString "out", _)] (by intro p hp; simp only [List.mem_cons, List.not_mem_nil, or_false] at hp; rcases hp with rfl | rfl; exact htx; exact hou)
    have e : Txt.item x ((b : Int) + (i : Int)) = ⟨#[233]⟩ := by
      obtain ⟨c, hci, e, _⟩ := item_at (x := x) (i := b + i) (by omega)
      rw [hc i hi] at hci
      cases hci
      exact e
    refine wpD_execs_any ?_
    walk_at "mine steps"
    have ec : (((Txt.item x ((b : Int) + (i : Int))).cps.getD 0 0 : Nat) : Int) = 233 := by rw [e]; rfl
    rename_i F5 N5
    rw [ec] at F5
    show wpD _ _ (execs _ _) _ _ _
    refine wpD_execs_any ?_
    walk_at "mine steps"
    show wpD _ _ (execs _ _) _ _ _
    refine wpD_execs_any ?_
    walk_at "mine steps"
    show wpD _ _ (execs _ _) _ _ _
    have hdis0 : ∀ p ∈ [(o, baObj (U (i + 1)).toArray)], ∀ q ∈ own, p.1 ≠ q.1 := fun p hp q hq => by rw [List.mem_singleton.mp hp]; exact hdis _ (.head _) q hq
    have hdis' : ∀ p ∈ own ++ ([] : List (Addr × Obj)), p.1 ≠ o := fun p hp => by simp at hp; exact Ne.symm (hdis _ (.head _) p hp)
    rename_i F6 N6
    refine wpD_execs_cons (wpD_Expr (append_D F6 (pre := own) (post := []) (bs := (U i).toArray) (o := o) hdis' ?_ rfl rfl rfl rfl ?_) rfl rfl)
    · rw [List.size_toArray, U_len]; omega
    walk_at "mine steps"
    refine ⟨rfl, (N6 _ (List.mem_append_right _ (.head _))).1, ?_⟩
    (try dsimp only)
    walk_at "mine steps"
    refine ⟨0, _, rfl, by decide, F6, N6, ?_⟩
    intro h7 tk7 F7 N7
    show wpD _ _ (execs _ _) _ _ _
    dsimp only
    refine wpD_execs_cons (wpD_Expr (append_D F7 (pre := own) (post := []) (bs := (U i).toArray.push (0 : Nat).toUInt8) (o := o) hdis' ?_ rfl rfl rfl rfl ?_) rfl rfl)
    · rw [Array.size_push, List.size_toArray, U_len]; omega
    walk_at "mine steps"
    refine ⟨rfl, (N7 _ (List.mem_append_right _ (.head _))).1, ?_⟩
    (try dsimp only)
    walk_at "mine steps"
    refine ⟨233, _, rfl, by decide, F7, N7, ?_⟩
    intro h8 tk8 F8 N8
    show wpD _ _ (execs _ _) _ _ _
    dsimp only
    refine wpD_execs_nil ?_
    have eU : ((U i).toArray.push (0 : Nat).toUInt8).push (233 : Nat).toUInt8 = (U (i + 1)).toArray := by
      rw [U_succ]; simp
    rw [eU] at N8
    exact DTurn.intro F8 N8 hdis0 ⟨rfl, rfl, rfl⟩
  · intro m₁ news₁ h tk hJ F N
    obtain ⟨htx, hou, rfl⟩ := hJ
    have F := Mine.Fr.named F [(PySem.Str.ofString "text", _), (PySem.Str.ofString "out", _)] (by intro p hp; simp only [List.mem_cons, List.not_mem_nil, or_false] at hp; rcases hp with rfl | rfl; exact htx; exact hou)
    show wpD _ _ (execs _ _) _ _ _
    refine wpD_execs_any ?_
    walk_at "mine steps"
    refine call_bytes_ba (N _ (.head _)).1 (by rw [List.size_toArray, U_len]; omega) ?_
    intro t k
    exact hR _ _ _ F.keep ⟨_, rfl⟩
end
noncomputable def plainC (c : Nat) : Bool := decide (32 ≤ c ∧ c ≤ 126)
noncomputable def runLen (l : List Nat) : Nat := (l.takeWhile (fun c => !plainC c)).length
section
variable {prog : Program} {w : World} {A : Around} {s : Shared} {mean : ExcName → Option Value} {mg mb : PySem.Str → Option Value}
structure RunJ (x : PySem.Str) (t : Tok) (b : Nat) (i : Nat) (m : PySem.Str → Option Value) (news : List (Addr × Obj)) : Prop where
  tx : m (PySem.Str.ofString "text") = some (.str x t)
  en : ∃ t, m (PySem.Str.ofString "end") = some (.int (i : Nat) t)
  ge : b ≤ i ∧ i ≤ x.length ∧ b + runLen (x.cps.toList.drop b) = i + runLen (x.cps.toList.drop i)
  nw : news = []
theorem item_one {x : PySem.Str} {i : Nat} (hi : i < x.length) : ∃ c, x.cps.toList[i]? = some c ∧ Txt.item x (i : Int) = ⟨#[c]⟩ ∧ x.cps.toList.drop i = c :: x.cps.toList.drop (i + 1) := item_at hi
theorem run_behind_does (C : Cx w mean mg mb s.heap) (x : PySem.Str) (hx : x.length ≤ 900000) (b : Nat) (hb : b ≤ x.length) (t t1 : Tok) :
    Does prog w 1 135 [.str x t, .int (b : Int) t1] s (fun v _ => ∃ t, v = .int ((b + runLen (x.cps.toList.drop b) : Nat) : Int) t) (fun _ _ => False) := by
  intro Q E hR hX
  have hx1 : x.length ≤ 1048576 := by omega
  walk_at "mine go"
  refine while_by (RunJ x t b) (fun i => x.length - i) b (by assumption) (by assumption) ⟨rfl, ⟨_, rfl⟩, ⟨Nat.le_refl _, hb, rfl⟩, rfl⟩ ?_
  intro i m₁ news₁ h tk hJ F N
  obtain ⟨htx, ⟨te, hen⟩, ⟨g1, g2, g3⟩, rfl⟩ := hJ
  have F := Mine.Fr.named F [(PySem.Str.ofString "text", _), (PySem.Str.ofString "end", _)] (by intro p hp; simp only [List.mem_cons, List.not_mem_nil, or_false] at hp; rcases hp with rfl | rfl; exact htx; exact hen)
  rcases Nat.lt_or_ge i x.length with hlt | hge
  · obtain ⟨c, hc, e, hd⟩ := item_one hlt
    have eg : (((Txt.item x (i : Int)).cps.getD 0 0 : Nat) : Int) = (c : Int) := by rw [e]; rfl
    walk_at "mine steps"
    all_goals walk_at "mine tidy"
    · have q : 32 ≤ (((Txt.item x (i : Int)).cps.getD 0 0 : Nat) : Int) ∧ (((Txt.item x (i : Int)).cps.getD 0 0 : Nat) : Int) ≤ 126 := by with_reducible assumption
      rw [eg] at q
      refine hR _ _ _ (keepsF (by assumption)) ?_
      rw [g3, hd, runLen, List.takeWhile_cons, show (!plainC c) = false by simp [plainC]; omega]
      exact ⟨_, rfl⟩
    · have q : ¬ (32 ≤ (((Txt.item x (i : Int)).cps.getD 0 0 : Nat) : Int) ∧ (((Txt.item x (i : Int)).cps.getD 0 0 : Nat) : Int) ≤ 126) := by with_reducible assumption
      rw [eg] at q
      refine WNext.intro (i + 1) (by assumption) (by assumption) (by omega) ⟨rfl, ⟨_, rfl⟩, ⟨by omega, by omega, ?_⟩, rfl⟩
      rw [g3, hd, runLen, List.takeWhile_cons, show (!plainC c) = true by simp [plainC]; omega]
      simp only [if_true, List.length_cons]
      show i + (runLen _ + 1) = _
      omega
  · walk_at "mine steps"
    all_goals walk_at "mine tidy"
    refine hR _ _ _ (keepsF F) ?_
    have : i = x.length := by omega
    rw [g3, this, ← len_x, List.drop_length]
    exact ⟨_, rfl⟩
end
local macro_rules | `(tactic| walk_at "call ref") => `(tactic| (k_dflt (refine' use (f := 135) (fun C => run_behind_does C _ (by first | assumption | omega) _ (by first | assumption | omega) _ _) _ _ _ _ _ _ _ _ _; walk_at "mine last"); walk_at "mine use"))
section
variable {prog : Program} {w : World} {A : Around} {s : Shared} {Q E : Value → Shared → Prop} {mean : ExcName → Option Value} {mg mb : PySem.Str → Option Value}
  {name qual : PySem.Str} {params : Arguments} {body : List Stmt} {scope : Scope} {dV kV doc pm cdv ct oc : Value} {an od : Option Addr} {osl : Array (Option Value)} {f : Addr} {args : List Value} {binds : List (PySem.Str × Value)}
/-- a def with cells is entered: the caller's whole heap is the base -/
theorem enterC (C : Cx w mean mg mb s.heap) (ho : (hd.heap_39 w.params).lookup f = some ⟨oc, od, .func (fnOf name qual params body scope dV kV doc pm an cdv ct), osl⟩) (hcd : codeIn (hd.heap_39 w.params) cdv qual = true)
    (hroom : A.depth < recursionLimit) (hbind : BindsTo s (fnOf name qual params body scope dV kV doc pm an cdv ct) ⟨args, []⟩ binds) (hkind : (binds.all fun y => scope.names.lookup y.1 == some .local || scope.names.lookup y.1 == some .cell) = true)
    (hnd : ((cellsFrom 0 scope.names []).map (·.1)).Nodup) (hco : scope.isCoroutine = false) (hgen : scope.isGenerator = false) (hk : scope.kind = .function)
    (h : ∀ L' h₁ tk cells, Fr s.heap L' h₁ (bindL (envOfC qual scope L' f cdv).kindOf binds fun _ => none) → News s.heap L' h₁ cells →
      CellsAre (bindC (envOfC qual scope L' f cdv).kindOf binds fun _ => none) (cellsFrom (L' + 1) scope.names []) cells → (hd.heap_39 w.params).In s.heap → Top hd.view_39 (looseW hd.view_39 [PySem.Str.ofString "PostError"]) mean mg mb s.heap →
      wpAny (model prog w) (A.deeper (envOfC qual scope L' f cdv)) (execs body (envOfC qual scope L' f cdv))
        (fun fl s' => Q (match fl with | .ret v => v | _ => .none) s')
        (fun e s' => wpAny (model prog w) (A.deeper (envOfC qual scope L' f cdv)) (leaving (envOfC qual scope L' f cdv) e) (fun _ s'' => E e s'') (fun e' s'' => E e' s'') s')
        { s with heap := h₁, toks := tk }) :
    wpAny (model prog w) A (call (.ref f) args) Q E s := by
  refine wpAny_call (codeAny_call_function hroom (C.X _ _ ho) rfl hco hgen rfl (codeRec_of C.X hcd) (hbind _ _ _ _ ?_))
  refine wpAny_newFunctionEnv_cells hk (kindsX hkind _) fun env' he s' x => ?_
  subst he
  refine ⟨C.T.nolimit.keeps x.toInCall.keep, codeAny_func ?_⟩
  obtain ⟨h₁, tk, rfl, _⟩ := x.done
  have hk₁ := x.toInCall.keep
  obtain ⟨cells, NC, Y⟩ := Cl.news (h₀ := s.heap) (Nat.le_refl _) fun n c hm => ⟨x.cell n c (lookup_of_mem_nodup (cellsFrom_names scope.names 0 (s.heap.objs.size + 1) [] [] rfl ▸ hnd) hm), x.above n c hm⟩
  exact h s.heap.objs.size h₁ tk cells ⟨x.toInCall.ns, hk₁, Nat.le_refl _⟩ NC Y C.X C.T
end
local macro_rules | `(tactic| walk_at "mine inC") => `(tactic| (walk_at "mine in"; intro L' h' tk' cells' F' N' Y' X' T'; k_cells Y'; (try simp only [List.cons_append, List.nil_append] at N'); (try dsimp only); (try k_fold)))
local macro_rules | `(tactic| walk_at "mine goC") => `(tactic| (walk_at "mine fill"; k_dflt (refine' enterC (by assumption) _ _ _ _ _ _ _ _ _ _); walk_at "mine inC"; walk_at "mine steps"; (all_goals walk_at "mine tidy")))
noncomputable def tot (l : List UInt8) : Int := l.foldl (fun a c => 256 * a + (c.toNat : Int)) 0
theorem tot_succ {b : Array UInt8} {i : Nat} {c : UInt8} (h : b[i]? = some c) : tot (b.toList.take (i + 1)) = 256 * tot (b.toList.take i) + (c.toNat : Int) := by
  have : b.toList[i]? = some c := by simpa using h
  unfold tot
  rw [List.take_add_one, this]
  simp [List.foldl_append]
theorem tot_bound : ∀ (l : List UInt8) (a : Int), 0 ≤ a → 0 ≤ l.foldl (fun a c => 256 * a + (c.toNat : Int)) a ∧ l.foldl (fun a c => 256 * a + (c.toNat : Int)) a < (a + 1) * 256 ^ l.length
  | [], a, h => ⟨h, by simp; omega⟩
  | c :: l, a, h => by
    have hc := c.toNat_lt
    have ih := tot_bound l (256 * a + (c.toNat : Int)) (by omega)
    refine ⟨ih.1, Int.lt_of_lt_of_le ih.2 ?_⟩
    rw [List.length_cons, Int.pow_succ]
    have h1 : (256 * a + (c.toNat : Int) + 1) ≤ (a + 1) * 256 := by omega
    calc (256 * a + (c.toNat : Int) + 1) * 256 ^ l.length ≤ ((a + 1) * 256) * 256 ^ l.length := Int.mul_le_mul_of_nonneg_right h1 (Int.le_of_lt (Int.pow_pos (by decide)))
      _ = (a + 1) * (256 ^ l.length * 256) := by rw [Int.mul_assoc, Int.mul_comm 256]
theorem tot_small {b : Array UInt8} (h : b.size ≤ 3) : 0 ≤ tot (b.toList.take b.size) ∧ tot (b.toList.take b.size) < 16777216 := by
  have hb := tot_bound (b.toList.take b.size) 0 (Int.le_refl _)
  have hl : (b.toList.take b.size).length ≤ 3 := by simp; omega
  refine ⟨hb.1, Int.lt_of_lt_of_le hb.2 ?_⟩
  generalize (b.toList.take b.size).length = n at hl
  have : n = 0 ∨ n = 1 ∨ n = 2 ∨ n = 3 := by omega
  rcases this with rfl | rfl | rfl | rfl <;> decide
section
variable {prog : Program} {w : World} {A : Around} {s : Shared} {mean : ExcName → Option Value} {mg mb : PySem.Str → Option Value}
structure GcJ (o al : Array UInt8) (t t1 : Tok) (c1 c2 : Addr) (o1 : Obj) (i : Nat) (m : PySem.Str → Option Value) (news : List (Addr × Obj)) : Prop where
  oc : m (PySem.Str.ofString "octets") = some (.bytes o t)
  nw : ∃ o2 tk, news = [(c2, o2), (c1, o1)] ∧ o2.data = .cell (some (.int (tot (o.toList.take i)) tk))
noncomputable def gC (o al : Array UInt8) (i : Nat) : Int := (KBw.bInts al).getD (Builtin.bitAnd ((tot (o.toList.take o.size) * 2 ^ (6 * ((o.size : Int) + 1) - 8 * (o.size : Int)).toNat).fdiv (2 ^ (6 * ((o.size : Int) + 1 - 1 + (i : Int) * -1)).toNat)) 63).toNat 0
theorem and63 (z : Int) : 0 ≤ Builtin.bitAnd z 63 ∧ Builtin.bitAnd z 63 < 64 := by
  rcases Int.lt_or_le z 0 with h | h
  · rw [bitAnd_np (by omega) (by decide)]
    have h1 : ((63 : Int).toNat &&& (Builtin.bitNot z).toNat) ≤ 63 := Nat.and_le_left
    have h2 : ((63 : Int).toNat : Int) = 63 := rfl
    omega
  · rw [bitAnd_pp h (by decide)]
    have h1 : (z.toNat &&& (63 : Int).toNat) ≤ 63 := Nat.and_le_right
    omega
theorem intsAre_list : ∀ {ys : List Value} {ns : List Int}, ys.length = ns.length → (∀ i, i < ns.length → ∃ n t, ns[i]? = some n ∧ ys[i]? = some (.int n t)) → IntsAre ys ns
  | [], [], _, _ => .nil
  | [], _ :: _, h, _ => by cases h
  | _ :: _, [], h, _ => by cases h
  | y :: ys, n :: ns, h, hy => by
    obtain ⟨n', t, e, e'⟩ := hy 0 (by simp)
    simp only [List.getElem?_cons_zero, Option.some.injEq] at e e'
    subst e; subst e'
    refine .cons _ _ (intsAre_list (by simpa using h) fun i hi => ?_)
    obtain ⟨n', t, e, e'⟩ := hy (i + 1) (by simpa using hi)
    exact ⟨n', t, by simpa using e, by simpa using e'⟩
theorem intsAre_of {ys : List Value} {g : Nat → Int} {n : Nat} (hl : ys.length = n) (hy : ∀ i, i < n → ∃ t, ys[i]? = some (.int (g i) t)) : IntsAre ys ((List.range n).map g) :=
  intsAre_list (by simp [hl]) fun i hi => by
    have hi' : i < n := by simpa using hi
    obtain ⟨t, e⟩ := hy i hi'
    exact ⟨g i, t, by simp [hi'], e⟩
theorem group_codes_does (C : Cx w mean mg mb s.heap) (o al : Array UInt8) (ho : o.size ≤ 3) (ha : al.size = 64) (t t1 : Tok) :
    DoesN prog w 1 76 [.bytes o t, .bytes al t1] s (fun v nw => ∃ a ys, v = .ref a ∧ nw = [(a, LCg.lst ys)] ∧ IntsAre ys ((List.range (o.size + 1)).map (gC o al))) (fun _ _ => False) := by
  intro Q E hR hX
  walk_at "mine goC"
  refine loop_bytes (GcJ o al t t1 _ _ _) rfl (by assumption) (by assumption) ⟨rfl, ⟨_, _, rfl, by first | assumption | rfl⟩⟩ ?_ ?_
  · intro i c k m₁ news₁ h tk own hi ha' hoff hJ F N
    obtain ⟨hoc, o2, tk2, rfl, hd2⟩ := hJ
    have F := Mine.Fr.named F [(PySem.Str.ofString "octets", _)] (by intro p hp; simp only [List.mem_cons, List.not_mem_nil, or_false] at hp; rcases hp with rfl; exact hoc)
    walk_at "mine steps"
    all_goals walk_at "mine tidy"
    rename_i q
    rw [← tot_succ hi] at q
    refine InvEndN.intro (by assumption) (by assumption) ⟨rfl, ⟨_, _, rfl, q⟩⟩ rfl (fun _ hp => List.mem_append_left _ hp) (fun _ hp => List.mem_append_right _ hp)
  · intro m₁ news₁ h tk hJ F N
    obtain ⟨hoc, o2, tk2, rfl, hd2⟩ := hJ
    have F := Mine.Fr.named F [(PySem.Str.ofString "octets", _)] (by intro p hp; simp only [List.mem_cons, List.not_mem_nil, or_false] at hp; rcases hp with rfl; exact hoc)
    have hT := tot_small ho
    walk_at "mine steps"
    all_goals walk_at "mine tidy"
    have hr1 : Builtin.Range.rangeSize ((o.size : Int) + 1 - 1) (-1) (-1) = ((o.size + 1 : Nat) : Int) := by rw [rangeSize_downNat]; omega
    refine compIter_range (n := o.size + 1) (fun i y => ∃ t, y = .int (gC o al i) t) rfl (by assumption) (small_down (by omega) (by omega) (by omega) (by omega)) hr1 (by assumption) (by assumption) (by rw [sizeLine_eq]; omega) ?_ ?_
    · intro i k I oI C oC D m₂ ys h tk E' hi hC hx F N off ne
      walk_at "mine steps"
      have hl : (KBw.bInts al).length = 64 := by rw [KBw.ints_length]; exact ha
      refine KBw.item_K rfl (by rw [hl]; decide) (and63 _).1 (by rw [hl]; exact (and63 _).2) ?_
      intro t' k' g0 g1
      exact CTurn.intro F N (fun _ hp => hp) ⟨_, rfl⟩
    · intro D ys h tk F N hl hy
      walk_at "mine tidy"
      refine hR _ _ _ _ (keepsF F) (madeOf (nw := [(D, LCg.lst ys)]) fun p hp => N p (by rw [List.mem_singleton.mp hp]; exact .head _)) ⟨_, _, rfl, rfl, intsAre_of hl fun i hi => ?_⟩
      obtain ⟨y, e, t, rfl⟩ := hy i hi
      exact ⟨t, e⟩
end
local macro_rules | `(tactic| walk_at "call ref") => `(tactic| (k_dflt (refine' useN (f := 76) (fun C => group_codes_does C _ _ (by first | assumption | omega) (by assumption) _ _) _ _ _ _ _ _ _ _ _; walk_at "mine last"); intro v' nw' h' tk' F' N' k' r'; obtain ⟨a', ys', r'⟩ := r'; obtain ⟨r', r2'⟩ := r'; obtain ⟨r2', i'⟩ := r2'; subst r'; subst r2'; walk_at "mine useN"))
noncomputable def totI (ks : List Int) : Int := ks.foldl (fun a c => 256 * a + c) 0
theorem tot_I (o : Array UInt8) : tot (o.toList.take o.size) = totI (KBw.bInts o) := by
  rw [List.take_of_length_le (by simp)]
  unfold tot totI KBw.bInts
  rw [List.foldl_map]
noncomputable def gCi (ks : List Int) (al : Array UInt8) (i : Nat) : Int := (KBw.bInts al).getD (Builtin.bitAnd ((totI ks * 2 ^ (6 * ((ks.length : Int) + 1) - 8 * (ks.length : Int)).toNat).fdiv (2 ^ (6 * ((ks.length : Int) + 1 - 1 + (i : Int) * -1)).toNat)) 63).toNat 0
theorem gC_I (o al : Array UInt8) (i : Nat) : gC o al i = gCi (KBw.bInts o) al i := by
  unfold gC gCi
  rw [tot_I, KBw.ints_length]
noncomputable def grp (ks : List Int) (i : Nat) : List Int := (ks.drop (3 * i)).take 3
noncomputable def grpC (ks : List Int) (al : Array UInt8) (i : Nat) : List Int := (List.range ((grp ks i).length + 1)).map (gCi (grp ks i) al)
noncomputable def peI (ks : List Int) (al : Array UInt8) (n : Nat) : List Int := (List.range n).flatMap (grpC ks al)
theorem peI_succ (ks : List Int) (al : Array UInt8) (n : Nat) : peI ks al (n + 1) = peI ks al n ++ grpC ks al n := by unfold peI; rw [List.range_succ, List.flatMap_append]; simp
theorem intsAre_app : ∀ {vs ws : List Value} {xs ys : List Int}, IntsAre vs xs → IntsAre ws ys → IntsAre (vs ++ ws) (xs ++ ys)
  | _, _, _, _, .nil, h => h
  | _, _, _, _, .cons _ _ h, h' => .cons _ _ (intsAre_app h h')
section
variable {prog : Program} {w : World} {A : Around} {s : Shared} {Q E : Value → Shared → Prop} {mean : ExcName → Option Value} {mg mb : PySem.Str → Option Value} {f : Addr} {args : List Value}
/-- as useN, and what was made is none of the made before -/
theorem useN2 {n : Nat} {R : Value → List (Addr × Obj) → Prop} {X : Value → Heap → Prop} {h₀ : Heap} {L : Addr} {m : PySem.Str → Option Value} {news : List (Addr × Obj)}
    (D : Cx w mean mg mb s.heap → DoesN prog w n f args s R X) (F : Fr h₀ L s.heap m) (N : News h₀ L s.heap news) (X₀ : (hd.heap_39 w.params).In h₀)
    (T : Top hd.view_39 (looseW hd.view_39 [PySem.Str.ofString "PostError"]) mean mg mb h₀) (h1 : A.handled = none) (h2 : A.depth ≤ 900 - 10 * n) (h3 : A.units ≤ 9000 - 100 * n)
    (hR : ∀ v nw h' tk', Fr h₀ L h' m → News h₀ L h' (nw ++ news) → (∀ p ∈ nw, ∀ q ∈ news, p.1 ≠ q.1) → R v nw → Q v { s with heap := h', toks := tk' })
    (hX : ∀ e h' tk', Fr h₀ L h' m → News h₀ L h' news → Keeps s.heap h' → X e h' → E e { s with heap := h', toks := tk' }) :
    wpAny (model prog w) A (call (.ref f) args) Q E s :=
  to_lev (D ⟨X₀.keeps F.keep, T.keeps F.keep⟩ Q E (fun v nw h' tk' k z r => hR v nw h' tk' (Mine.Fr.grow F k) (fun p hp => by
    rcases List.mem_append.mp hp with hp | hp
    · refine ⟨(z p hp).1, fun e => ?_, ?_⟩
      · obtain ⟨o, _, _, e', _⟩ := F.ns
        rw [← e, (z p hp).2] at e'
        cases e'
      · cases hg : h₀.get? p.1 with
        | none => rfl
        | some o => have := F.keep _ _ hg; rw [(z p hp).2] at this; cases this
    · exact Mine.News.grow N k p hp) (fun p hp q hq e => by have := (N q hq).1; rw [← e, (z p hp).2] at this; cases this) r) fun e h' tk' k x => hX e h' tk' (Mine.Fr.grow F k) (Mine.News.grow N k) k x) h1 h2 h3
end
theorem grpC_len (ks : List Int) (al : Array UInt8) (i : Nat) : (grpC ks al i).length ≤ 4 := by rw [grpC, List.length_map, List.length_range, grp, List.length_take]; omega
theorem peI_len (ks : List Int) (al : Array UInt8) : ∀ n, (peI ks al n).length ≤ 4 * n
  | 0 => by simp [peI]
  | n + 1 => by
    have := peI_len ks al n
    have := grpC_len ks al n
    rw [peI_succ, List.length_append]; omega
theorem peI_byte (ks : List Int) (al : Array UInt8) (n : Nat) : ∀ x ∈ peI ks al n, 0 ≤ x ∧ x < 256 := by
  intro x hx
  obtain ⟨i, _, hi⟩ := List.mem_flatMap.mp hx
  obtain ⟨j, _, rfl⟩ := List.mem_map.mp hi
  exact KBw.getD_in fun k hk => KBw.ints_in hk
theorem rangeSize_3 (n : Nat) : Builtin.Range.rangeSize 0 (n : Int) 3 = (((n + 2) / 3 : Nat) : Int) := by
  unfold Builtin.Range.rangeSize
  rw [if_pos (by decide)]
  split <;> omega
theorem fitsL {z : Int} (h0 : -100000 ≤ z) (h1 : z ≤ 100000) : Builtin.Range.rangeFitsLong z = true := by
  unfold Builtin.Range.rangeFitsLong
  rw [Bool.and_eq_true]
  exact ⟨decide_eq_true (by omega), decide_eq_true (by omega)⟩
theorem small_3 {n : Nat} (h : n ≤ 1000) : Builtin.Range.small 0 (n : Int) 3 = true := by
  unfold Builtin.Range.small
  rw [rangeSize_3, if_pos (by decide), fitsL (by omega) (by omega), fitsL (by omega) (by omega), fitsL (by omega) (by omega), fitsL (by omega) (by omega), fitsL (by omega) (by omega), Bool.or_true]
  rfl
theorem clip_at {n : Nat} {z : Int} {k : Nat} (h : z = (k : Int)) : clipAt n z = min k n := by
  subst h
  simp only [clipAt]
  rw [if_neg (by omega)]
  rcases Nat.le_total k n with q | q
  · rw [Int.min_eq_left (Int.ofNat_le.mpr q), Int.max_eq_right (Int.natCast_nonneg k), Nat.min_eq_left q]; rfl
  · rw [Int.min_eq_right (Int.ofNat_le.mpr q), Int.max_eq_right (Int.natCast_nonneg n), Nat.min_eq_right q]; rfl
section
variable {prog : Program} {w : World} {A : Around} {s : Shared} {mean : ExcName → Option Value} {mg mb : PySem.Str → Option Value}
structure PeJ (o al : Array UInt8) (t t1 : Tok) (a : Addr) (i : Nat) (m : PySem.Str → Option Value) (news : List (Addr × Obj)) : Prop where
  oc : m (PySem.Str.ofString "octets") = some (.bytes o t)
  al' : m (PySem.Str.ofString "alphabet") = some (.bytes al t1)
  co : m (PySem.Str.ofString "codes") = some (.ref a)
  nw : ∃ its k, news = [(a, W.listOf its k)] ∧ IntsAre its.toList (peI (KBw.bInts o) al i)
theorem part_encoded_does (C : Cx w mean mg mb s.heap) (o al : Array UInt8) (ho : o.size ≤ 30) (ha : al.size = 64) (t t1 : Tok) :
    Does prog w 2 88 [.bytes o t, .bytes al t1] s (fun v _ => ∃ t, v = .bytes (byteArr (peI (KBw.bInts o) al ((o.size + 2) / 3))) t) (fun _ _ => False) := by
  intro Q E hR hX
  walk_at "mine go"
  refine loop_range (n := (o.size + 2) / 3) (PeJ o al t t1 _) rfl (by assumption) ?_ ?_ (by assumption) (by assumption) ⟨rfl, rfl, rfl, ⟨_, _, rfl, .nil⟩⟩ ?_ ?_
  · exact small_3 (by omega)
  · exact rangeSize_3 _
  · intro i k m₁ news₁ h tk own hi ha' hoff hJ F N
    obtain ⟨h1, h2, h3, its, k', rfl, hI⟩ := hJ
    have F := Mine.Fr.named F [(PySem.Str.ofString "octets", _), (PySem.Str.ofString "alphabet", _), (PySem.Str.ofString "codes", _)] (by intro p hp; simp only [List.mem_cons, List.not_mem_nil, or_false] at hp; rcases hp with rfl | rfl | rfl; exact h1; exact h2; exact h3)
    obtain ⟨ks, hks⟩ : ∃ ks, KBw.bInts o = ks := ⟨_, rfl⟩
    have hkl : ks.length = o.size := by rw [← hks, KBw.ints_length]
    have hk30 : ks.length ≤ 30 := by omega
    repeat' (
    (fail_if_success (with_reducible show wpAny _ _ (call (Value.ref 76) _ _) _ _ _))
    first | (k_unfold; (try dsimp only)) | walk1 | (dsimp only; walk1) | (leave1; (try dsimp only)) | fail "no step")
    rename_i F5 N5 kK
    have h3i : 3 * i < ks.length := by omega
    have hg : KBw.bInts (KBy.picked o (some (0 + (i : Int) * 3)) (some (0 + (i : Int) * 3 + 3))) = grp ks i := by
      rw [kK, clip_at (by omega : (0 + (i : Int) * 3) = ((3 * i : Nat) : Int)), clip_at (by omega : (0 + (i : Int) * 3 + 3) = ((3 * i + 3 : Nat) : Int)), Nat.min_eq_left (Nat.le_of_lt h3i), grp]
      by_cases q : 3 * i + 3 ≤ ks.length
      · rw [Nat.min_eq_left q]; congr 1; omega
      · rw [Nat.min_eq_right (by omega), List.take_of_length_le (by simp), List.take_of_length_le (by simp; omega)]
    have hgs : (KBy.picked o (some (0 + (i : Int) * 3)) (some (0 + (i : Int) * 3 + 3))).size ≤ 3 := by
      rw [← KBw.ints_length, hg, grp, List.length_take]; omega
    k_dflt (refine' useN2 (fun C => group_codes_does C _ al hgs ha _ _) F5 N5 (by assumption) (by assumption) rfl (Nat.le_of_ble_eq_true rfl) (Nat.le_of_ble_eq_true rfl) ?_ (fun _ _ _ _ _ _ hf => hf.elim))
    clear kK
    intro v' nw' h' tk' F6 N6 k6 r6
    obtain ⟨a6, ys, rfl, rfl, hI6⟩ := r6
    rw [show (List.range ((KBy.picked o (some (0 + (i : Int) * 3)) (some (0 + (i : Int) * 3 + 3))).size + 1)).map (gC (KBy.picked o (some (0 + (i : Int) * 3)) (some (0 + (i : Int) * 3 + 3))) al) = grpC ks al i by
      rw [← KBw.ints_length, hg, grpC]
      exact List.map_congr_left fun j _ => by rw [gC_I, hg]] at hI6
    simp only [List.cons_append, List.nil_append] at N6
    have hIl : ys.length ≤ 4 := by
      have := hI6.length
      rw [this, grpC, List.length_map, List.length_range, grp, List.length_take]; omega
    have hil : its.size ≤ 100 := by
      have h1 := hI.length
      have h2 := peI_len (KBw.bInts o) al i
      rw [Array.length_toList] at h1
      omega
    walk_at "mine steps"
    have hoff' : ∀ p ∈ own, p.1 ≠ _ := fun p hp => hoff p hp _ (.head _)
    obtain ⟨li⟩ := its
    refine PyProof.Rows.extend_in (own := [(a6, LCg.lst ys)]) (ys := li) (its2 := ys.toArray) (n2 := ys.length) F6 N6 (fun p hp => by rw [List.mem_singleton.mp hp]; exact k6 _ (.head _) _ (.head _)) hoff' (N6 _ (.head _)).1 ?_ (by simp at hil ⊢; rw [sizeLine_eq]; omega)
    intro h7 n7 F7 N7
    walk_at "mine steps"
    refine InvEndN.intro (nx := [(_, W.listOf (li ++ ys).toArray n7)]) F7 (fun p hp => N7 p (List.mem_cons_of_mem _ hp)) ⟨rfl, rfl, rfl, ⟨_, _, rfl, ?_⟩⟩ rfl (fun p hp => by rw [List.mem_singleton.mp hp]; exact .head _) (fun p hp => List.mem_cons_of_mem _ hp)
    rw [peI_succ, hks]
    rw [hks] at hI
    simpa using intsAre_app hI hI6
  · intro m₁ news₁ h tk hJ F N
    obtain ⟨h1, h2, h3, its, k', rfl, hI⟩ := hJ
    have F := Mine.Fr.named F [(PySem.Str.ofString "octets", _), (PySem.Str.ofString "alphabet", _), (PySem.Str.ofString "codes", _)] (by intro p hp; simp only [List.mem_cons, List.not_mem_nil, or_false] at hp; rcases hp with rfl | rfl | rfl; exact h1; exact h2; exact h3)
    walk_at "mine steps"
    have hb := peI_byte (KBw.bInts o) al ((o.size + 2) / 3)
    have hlen := peI_len (KBw.bInts o) al ((o.size + 2) / 3)
    refine call_bytes_ints (vs := its.toList) ⟨_, (N _ (.head _)).1, rfl, k', by show Data.seq its k' = _; rw [Array.toArray_toList]⟩ hI hb (by rw [hI.length, sizeLine_eq]; omega) rfl ?_
    intro h' t' k hk
    walk_at "mine tidy"
    exact hR _ _ _ (fun b o e => hk b o (F.keep b o e)) ⟨_, rfl⟩
end
section
variable {M : Model} {A : Around} {E : Value → Shared → Prop} {s : Shared} {env : Env}
theorem wpD_If {test : PySem.Expr} {body orelse : List Stmt} {pos : Pos} {Q : Flow → Shared → Prop}
    (h : wpAny M A (isTrue test env (eval test env)) (fun b s₁ => if b = true then wpD M A (execs body env) Q E s₁ else wpD M A (execs orelse env) Q E s₁) E s) :
    wpD M A (exec (.If test body orelse pos) env) Q E s := by
  rw [arm_exec_If]
  refine wpD_bindAny (wpAny_standAt (wpD_bindAny (wpAny_mono h (fun b s₁ h₁ => ?_) fun _ _ e => e)))
  cases b with
  | true => simpa using h₁
  | false => simpa using h₁
theorem wpD_callWithK {pos : Pos} {f : Value} {P : Heap → Prop} {first : List Value} {args : List (Bool × Sem Value)} {Q : Value → Shared → Prop} (hplain : args.any (·.1) = false)
    (hk : ∀ h, P h → ∃ k, (k = Keeper.frame ∨ k = Keeper.machine ∨ k = Keeper.boundFrame) ∧ Looks M h (keeperOf f) k)
    (h : wpD M A (evalArgs f true args []) (fun a s₁ => P s₁.heap ∧ wpD M A (call f (first ++ a.pos) a.kw) Q E s₁) E s) :
    wpD M A (callWith pos f first args []) Q E s := by
  unfold callWith
  refine wpD_bind (wpD_holding (wpD_mono h (fun a s₁ h₁ => wpD_bindAny (wpAny_standAt ?_)) fun _ _ x => x))
  simp only [hplain, List.any_nil, Bool.or_false]
  obtain ⟨k, hk', L⟩ := hk _ h₁.1
  have h₂ := h₁.2
  refine wpD_bindAny (L.here ?_)
  have tail : ∀ {t : Sem Value}, wpD M A t Q E s₁ → wpD M A (t >>= fun r => holding [r] point >>= fun _ => pure r) Q E s₁ :=
    fun ht => wpD_bind (wpD_mono ht (fun r s₃ hr => wpD_bindAny (wpAny_holding (wpAny_point (wpD_pure hr)))) fun _ _ x => x)
  have marked (mk : Value) : wpD M A (callMarked mk f (first ++ a.pos) a.kw) Q E s₁ := by unfold callMarked; exact wpD_keep h₂
  rcases hk' with rfl | rfl | rfl
  · dsimp only
    split
    · exact tail h₂
    · exact tail (marked _)
  · exact tail h₂
  · dsimp only
    split
    · exact tail h₂
    · exact tail (marked _)
end
section
variable {prog : Program} {w : World} {A : Around} {s : Shared} {h₀ : Heap} {env : Env} {test : PySem.Expr} {body : List Stmt} {Q : Flow → Shared → Prop}
noncomputable def DNext {ι : Type} (h₀ : Heap) (L : Addr) (J : ι → (PySem.Str → Option Value) → List (Addr × Obj) → Prop) (μ : ι → Nat) (i : ι) (s : Shared) (f : Flow) (s' : Shared) : Prop := f = .next ∧ WNext h₀ L J μ i s s'
theorem while_D {ι : Type} {pos : Pos} {m : PySem.Str → Option Value} {news : List (Addr × Obj)} (J : ι → (PySem.Str → Option Value) → List (Addr × Obj) → Prop) (μ : ι → Nat) (i : ι)
    (F : Fr h₀ env.locals s.heap m) (N : News h₀ env.locals s.heap news) (hj : J i m news)
    (turn : ∀ j m₁ news₁ h tk, J j m₁ news₁ → Fr h₀ env.locals h m₁ → News h₀ env.locals h news₁ →
      wpAny (model prog w) A (isTrue test env (eval test env)) (fun b s₂ => if b = true then wpD (model prog w) A (execs body env) (DNext h₀ env.locals J μ j s) Nope s₂ else Q .next s₂) Nope { s with heap := h, toks := tk }) :
    wpD (model prog w) A (exec (.While test body [] pos) env) Q Nope s := by
  refine wpD_While (codeD_while (fun n s' => ∃ j h tk m₁ news₁, n = μ j ∧ s' = { s with heap := h, toks := tk } ∧ J j m₁ news₁ ∧ Fr h₀ env.locals h m₁ ∧ News h₀ env.locals h news₁) ?_ (μ i) s ⟨i, s.heap, s.toks, m, news, rfl, rfl, hj, F, N⟩)
  rintro n s' ⟨j, h, tk, m₁, news₁, rfl, rfl, hJ, F₁, N₁⟩
  refine wpAny_mono (turn j m₁ news₁ h tk hJ F₁ N₁) (fun b s₂ h₂ => ?_) fun _ _ e => e
  cases b with
  | false => simpa using h₂
  | true =>
    simp only [if_true] at h₂ ⊢
    refine wpD_mono h₂ (fun f s₃ hn => ?_) fun _ _ e => e
    obtain ⟨rfl, j', h', tk', m', news', rfl, F', N', hm, hj'⟩ := hn
    exact ⟨μ j', hm, j', h', tk', m', news', rfl, rfl, hj', F', N'⟩
end
section
variable {prog : Program} {w : World} {A : Around} {s : Shared}
noncomputable def ExtArg (h₀ : Heap) (L o : Addr) (m : PySem.Str → Option Value) (pre post : List (Addr × Obj)) (bs : Array UInt8) (Q : Value → Shared → Prop) (v : Value) (s₁ : Shared) : Prop :=
  ∃ (c : Array UInt8) (t : Tok), v = .bytes c t ∧ c.size ≤ 100000 ∧ Fr h₀ L s₁.heap m ∧ News h₀ L s₁.heap (pre ++ (o, baObj bs) :: post) ∧
      ∀ h' tk', Fr h₀ L h' m → News h₀ L h' (pre ++ (o, baObj (bs ++ c)) :: post) → Q .none { s₁ with heap := h', toks := tk' }
noncomputable def ExtOut (prog : Program) (w : World) (A : Around) (h₀ : Heap) (L o : Addr) (pre post : List (Addr × Obj)) (bs : Array UInt8) (t : Sem Value) (P : Value → Shared → Prop) (ov : Value) (s₁ : Shared) : Prop :=
  ov = .ref o ∧ s₁.heap.get? o = some (baObj bs) ∧ wpD (model prog w) A t P Nope s₁
/-- out.extend(e) at clean places -/
theorem extend_D {h₀ : Heap} {L a o : Addr} {name : PySem.Str} {scope : Scope} {cd : Value} {x : PySem.Str} {xp apos pos : Pos} {e : PySem.Expr} {m : PySem.Str → Option Value} {pre post : List (Addr × Obj)} {bs : Array UInt8} {Q : Value → Shared → Prop}
    (_F : Fr h₀ L s.heap m) (hd : ∀ p ∈ pre ++ post, p.1 ≠ o) (hb : bs.size ≤ 100000)
    (hbase : attributeBase (.Name x xp) (PySem.Str.ofString "extend") (envOf name scope L a cd) (eval (.Name x xp) (envOf name scope L a cd)) = eval (.Name x xp) (envOf name scope L a cd))
    (hfew : ((backTo pos (starEach [e] (envOf name scope L a cd))).all (fun x => !x.1) && (backToKw pos (keywordEach [] (envOf name scope L a cd))).all (fun x => x.1.isSome)
      && decide ([e].length + ([] : List Keyword).length + (if ([] : List Keyword).isEmpty then 0 else 1) < 30)) = true)
    (hline : (apos.endLine == pos.line) = true) (he : backTo pos (starEach [e] (envOf name scope L a cd)) = [(false, eval e (envOf name scope L a cd))])
    (h : wpAny (model prog w) A (eval (.Name x xp) (envOf name scope L a cd)) (ExtOut prog w A h₀ L o pre post bs (eval e (envOf name scope L a cd)) (ExtArg h₀ L o m pre post bs Q)) Nope s) :
    wpD (model prog w) A (eval (.Call (.Attribute (.Name x xp) (PySem.Str.ofString "extend") apos) [e] [] pos) (envOf name scope L a cd)) Q Nope s := by
  refine wpD_Call_method hbase hfew hline plainAttrs_ba slot_ba_extend type_ba_extend (wpAny_mono h (fun ov s₁ ho => ?_) fun _ _ e => e)
  obtain ⟨rfl, hg, h⟩ := ho
  refine ⟨⟨_, hg, rfl⟩, fun a' q => by cases q; exact ⟨_, hg, rfl⟩, ?_⟩
  rw [he]
  refine wpD_callWith (k := .machine) rfl (.inr rfl) (wpD_evalArgs (wpD_spliced_cons (wpD_mono h (fun v s₁ h₁ => wpD_spliced_nil ?_) fun _ _ e => e)))
  obtain ⟨c, t, rfl, hc, F', N', hq⟩ := h₁
  have hmem : (o, baObj bs) ∈ pre ++ (o, baObj bs) :: post := List.mem_append_right _ (.head _)
  refine wpAny_pure ⟨rfl, ?_⟩
  refine wpD_weak (ba_extend (N' _ hmem).1 hb hc ?_)
  intro h'' tk'' ho hk _
  have hne : ∀ p : Addr × Obj, p ∈ pre ++ post → p.1 ≠ o := hd
  refine hq h'' tk'' (Mine.Fr.but F' (fun b ob hb => hk b ob hb) (fun e => (N' _ hmem).2.1 e.symm) (N' _ hmem).2.2) fun p hp => ?_
  rcases List.mem_append.mp hp with hp | hp
  · exact ⟨hk _ _ (hne p (List.mem_append_left _ hp)) (N' p (List.mem_append_left _ hp)).1, (N' p (List.mem_append_left _ hp)).2⟩
  · rcases List.mem_cons.mp hp with rfl | hp
    · exact ⟨ho, (N' _ hmem).2⟩
    · exact ⟨hk _ _ (hne p (List.mem_append_right _ hp)) (N' p (List.mem_append_right _ (List.mem_cons_of_mem _ hp))).1, (N' p (List.mem_append_right _ (List.mem_cons_of_mem _ hp))).2⟩
end
noncomputable def SH : Array UInt8 := ("ABCDEFGHIJKLMNOPQRSTUVWXYZabcdefghijklmnopqrstuvwxyz0123456789+,".toList.map fun c => c.toNat.toUInt8).toArray
theorem SH_size : SH.size = 64 := by decide +kernel
noncomputable def enc (n : Nat) : Array UInt8 := byteArr (peI (KBw.bInts (U n).toArray) SH (((U n).toArray.size + 2) / 3))
noncomputable def u7 : List Nat → List UInt8
  | [] => []
  | c :: r => if plainC c = true then c.toUInt8 :: u7 r else 38 :: ((enc (runLen r + 1)).toList ++ 45 :: u7 (r.drop (runLen r)))
termination_by l => l.length
decreasing_by all_goals (simp; try omega)
structure U7J (x : PySem.Str) (t : Tok) (o : Addr) (j : Nat × Array UInt8) (m : PySem.Str → Option Value) (news : List (Addr × Obj)) : Prop where
  tx : m (PySem.Str.ofString "text") = some (.str x t)
  ou : m (PySem.Str.ofString "out") = some (.ref o)
  at' : ∃ t, m (PySem.Str.ofString "at") = some (.int (j.1 : Nat) t)
  nw : news = [(o, baObj j.2)]
  le : j.1 ≤ x.length ∧ j.2.size ≤ 20 * j.1 ∧ j.2.toList ++ u7 (x.cps.toList.drop j.1) = u7 x.cps.toList
theorem enc_size (n : Nat) : (enc n).size ≤ 4 * ((2 * n + 2) / 3) := by
  unfold enc
  rw [byteArr_size, List.size_toArray, U_len]
  exact peI_len _ _ _
theorem wpD_evalArgsB {M : Model} {A : Around} {E : Value → Shared → Prop} {s : Shared} {f : Value} {xs : List (Bool × Sem Value)} {Q : Args → Shared → Prop} (hc : ∃ x rest, xs = (false, x) :: rest)
    (h : wpAny M A (spliced xs) (fun vs s' => Q ⟨vs, []⟩ s') E s) : wpD M A (evalArgs f true xs []) Q E s := by
  obtain ⟨x, rest, rfl⟩ := hc
  exact wpD_of_any (Calls.evalArgs_plain h)
theorem run_codes {l : List Nat} (hc : ∀ (i c : Nat), l[i]? = some c → (plainC c = true ∧ c ≠ 38) ∨ c = 233) {i : Nat} : ∀ j, j < runLen (l.drop i) → l[i + j]? = some 233 := by
  intro j hj
  have h1 : ((l.drop i).takeWhile (fun c => !plainC c))[j]? = l[i + j]? := by
    have e := List.takeWhile_append_dropWhile (p := fun c => !plainC c) (l := l.drop i)
    have : (l.drop i)[j]? = ((l.drop i).takeWhile (fun c => !plainC c))[j]? := by
      conv => lhs; rw [← e]
      exact List.getElem?_append_left hj
    rw [← this, List.getElem?_drop]
  have hm : ((l.drop i).takeWhile (fun c => !plainC c))[j]? = some (((l.drop i).takeWhile (fun c => !plainC c))[j]'hj) := List.getElem?_eq_getElem hj
  rw [← h1, hm]
  have hp := List.all_takeWhile (p := fun c => !plainC c) (l := l.drop i)
  have hq := List.all_eq_true.mp hp _ (List.getElem_mem hj)
  rw [h1] at hm
  rcases hc _ _ hm with ⟨a, _⟩ | a
  · rw [a] at hq; cases hq
  · rw [a]
section
variable {prog : Program} {w : World} {A : Around} {s : Shared} {mean : ExcName → Option Value} {mg mb : PySem.Str → Option Value}
theorem utf7_octets_does (C : Cx w mean mg mb s.heap) (x : PySem.Str) (hx : x.length ≤ 100) (hc : ∀ (i c : Nat), x.cps.toList[i]? = some c → (plainC c = true ∧ c ≠ 38) ∨ c = 233) (hr : ∀ i, runLen (x.cps.toList.drop i) ≤ 15) (t : Tok) :
    DoesD prog w 3 142 [.str x t] s (fun v _ => ∃ t, v = .bytes (u7 x.cps.toList).toArray t) := by
  intro Q hR
  have hx1 : x.length ≤ 900000 := by omega
  walk_at "mine fill"
  walk_at "mine enterD"
  refine wpD_execs_cons (wpD_Assign_Name (wpD_Call_Name ?_) rfl)
  walk_at "mine steps"
  rename_i L h1 F N X T
  refine wpD_callWith (k := .machine) rfl (.inr rfl) (wpD_evalArgs0 (wpAny_pure ⟨rfl, wpD_weak (ba_type_call ?_)⟩))
  intro h2 tk2 ho hk _
  have ⟨F2, N2⟩ := Mine.Fr.made F N hk ho (Heap.get?_none_of_le (Nat.le_refl _))
  generalize h1.objs.size = o at *
  refine stN F2 N2 (fun h3 F3 N3 => ?_) rfl rfl
  clear ho hk F2 N2 F N
  show wpD _ _ (execs _ _) _ _ _
  refine wpD_execs_any ?_
  walk_at "mine steps"
  show wpD _ _ (execs _ _) _ _ _
  refine wpD_execs_cons (while_D (U7J x t o) (fun j => x.length - j.1) (0, #[]) (by assumption) (by assumption) ⟨rfl, rfl, ⟨_, rfl⟩, rfl, by simp⟩ ?_)
  intro j m₁ news₁ h tk hJ F N
  obtain ⟨i, bs⟩ := j
  obtain ⟨htx, hou, ⟨ta, hat⟩, rfl, h1, h2, h3⟩ := hJ
  dsimp only at hat h1 h2 h3
  have N : News s.heap L h [(o, baObj bs)] := N
  have F := Mine.Fr.named F [(PySem.Str.ofString "text", _), (PySem.Str.ofString "out", _), (PySem.Str.ofString "at", _)] (by intro p hp; simp only [List.mem_cons, List.not_mem_nil, or_false] at hp; rcases hp with rfl | rfl | rfl; exact htx; exact hou; exact hat)
  rcases Nat.lt_or_ge i x.length with hlt | hge
  · obtain ⟨c, hci, e, hdr⟩ := item_one hlt
    have eg : (((Txt.item x (i : Int)).cps.getD 0 0 : Nat) : Int) = (c : Int) := by rw [e]; rfl
    have hcc := hc i c hci
    walk_at "mine steps"
    refine wpD_execs_any ?_
    walk_at "mine steps"
    rename_i F5 N5
    rw [eg] at F5
    show wpD _ _ (execs _ _) _ _ _
    refine wpD_execs_cons (wpD_If ?_)
    walk_at "mine steps"
    · rename_i F6 N6 q
      have hp : plainC c = true := by simp [plainC]; omega
      have hc38 : ¬ (c : Int) = 38 := by rcases hcc with ⟨_, a⟩ | a <;> omega
      have e7 : u7 (x.cps.toList.drop i) = c.toUInt8 :: u7 (x.cps.toList.drop (i + 1)) := by rw [hdr, u7, if_pos hp]
      refine wpD_execs_cons (wpD_Expr (append_D F6 (pre := []) (post := []) (bs := bs) (o := o) (fun p hp => by cases hp) (by omega) rfl rfl rfl rfl ?_) rfl rfl)
      walk_at "mine steps"
      refine ⟨rfl, (N6 _ (.head _)).1, ?_⟩
      (try dsimp only)
      walk_at "mine steps"
      refine ⟨c, _, rfl, by omega, F6, N6, ?_⟩
      intro h7 tk7 F7 N7
      have N7 : News s.heap L h7 [(o, baObj (bs.push c.toUInt8))] := N7
      show wpD _ _ (execs _ _) _ _ _
      dsimp only
      refine wpD_execs_any ?_
      walk_at "mine steps"
      · exfalso
        omega
      refine wpD_execs_any ?_
      walk_at "mine steps"
      rename_i F8 N8
      refine wpD_execs_nil ?_
      show wpD _ _ (execs _ _) _ _ _
      refine wpD_execs_nil ⟨rfl, WNext.intro (i + 1, bs.push c.toUInt8) F8 N8 (by show _ - _ < _ - _; omega) ⟨rfl, rfl, ⟨_, rfl⟩, rfl, ⟨by show i + 1 ≤ _; omega, by show (bs.push _).size ≤ 20 * (i + 1); rw [Array.size_push]; omega, ?_⟩⟩⟩
      show (bs.push c.toUInt8).toList ++ u7 (x.cps.toList.drop (i + 1)) = _
      rw [← h3, e7]; simp
    · rename_i F6 N6 q
      have hp : ¬ plainC c = true := by simp [plainC]; omega
      have hc33 : c = 233 := by rcases hcc with ⟨a, _⟩ | a; exact absurd a hp; exact a
      refine wpD_execs_any ?_
      walk_at "mine steps"
      rename_i F7 N7
      have hrl : runLen (x.cps.toList.drop i) = runLen (x.cps.toList.drop (i + 1)) + 1 := by
        rw [hdr, runLen, List.takeWhile_cons, if_pos (by simpa using hp), List.length_cons]; rfl
      have hr15 := hr i
      have hle : i + runLen (x.cps.toList.drop i) ≤ x.length := by
        have h5 : runLen (x.cps.toList.drop i) ≤ (x.cps.toList.drop i).length := (List.takeWhile_sublist _).length_le
        rw [List.length_drop, len_x] at h5
        omega
      have e7 : u7 (x.cps.toList.drop i) = 38 :: ((enc (runLen (x.cps.toList.drop i))).toList ++ 45 :: u7 (x.cps.toList.drop (i + runLen (x.cps.toList.drop i)))) := by
        have e8 : (x.cps.toList.drop (i + 1)).drop (runLen (x.cps.toList.drop (i + 1))) = x.cps.toList.drop (i + (runLen (x.cps.toList.drop (i + 1)) + 1)) := by
          rw [List.drop_drop]
          exact congrArg (fun m => x.cps.toList.drop m) (by omega)
        rw [hrl]
        conv => lhs; rw [hdr, u7, if_neg hp, e8]
      have hcod := run_codes hc (i := i)
      generalize runLen (x.cps.toList.drop i) = n at *
      have hes := enc_size n
      show wpD _ _ (execs _ _) _ _ _
      (try dsimp only)
      refine wpD_execs_cons (wpD_Expr (append_D F7 (pre := []) (post := []) (bs := bs) (o := o) (fun p hp => by cases hp) (by omega) rfl rfl rfl rfl ?_) rfl rfl)
      walk_at "mine steps"
      refine ⟨rfl, (N7 _ (.head _)).1, ?_⟩
      (try dsimp only)
      walk_at "mine steps"
      refine ⟨38, _, rfl, by decide, F7, N7, ?_⟩
      intro h8 tk8 F8 N8
      have N8 : News s.heap L h8 [(o, baObj (bs.push 38))] := N8
      show wpD _ _ (execs _ _) _ _ _
      (try dsimp only)
      refine wpD_execs_cons (wpD_Expr (extend_D F8 (pre := []) (post := []) (bs := bs.push 38) (o := o) (fun p hp => by cases hp) (by rw [Array.size_push]; omega) rfl rfl rfl rfl ?_) rfl rfl)
      walk_at "mine steps"
      refine ⟨rfl, (N8 _ (.head _)).1, ?_⟩
      (try dsimp only)
      refine wpD_Call_Name ?_
      walk_at "mine steps"
      refine wpD_callWithK (P := (hd.heap_39 w.params).In) rfl (keeps_K rfl) (wpD_evalArgs (wpD_spliced_cons (wpD_Call_Name ?_)))
      walk_at "mine steps"
      refine wpD_callWithK (P := (hd.heap_39 w.params).In) rfl (keeps_K rfl) ?_
      refine wpD_evalArgsB ⟨_, _, rfl⟩ ?_
      walk_at "mine steps"
      show wpD _ _ (call _ _ _) _ _ _
      refine useD (fun C' => utf16_does C' x i n hx (by omega) hcod _ _ _) F8 N8 X T rfl (Nat.le_of_ble_eq_true rfl) (Nat.le_of_ble_eq_true rfl) ?_
      rintro _ h9 tk9 F9 N9 k9 ⟨t9, rfl⟩
      have hu9 : (U n).toArray.size ≤ 30 := by rw [List.size_toArray, U_len]; omega
      show wpD _ _ (spliced _) _ _ _
      refine wpD_of_any ?_
      walk_at "mine steps"
      show wpD _ _ (call _ _ _) _ _ _
      refine wpD_of_any (use (fun C' => part_encoded_does C' (U n).toArray SH hu9 SH_size _ _) F9 N9 X T rfl (Nat.le_of_ble_eq_true rfl) (Nat.le_of_ble_eq_true rfl) ?_ (fun _ _ _ _ _ _ hf => hf.elim))
      rintro _ h11 tk11 F11 N11 k11 ⟨t11, rfl⟩
      refine ⟨enc n, _, rfl, by omega, F11, N11, ?_⟩
      intro h12 tk12 F12 N12
      show wpD _ _ (execs _ _) _ _ _
      (try dsimp only)
      refine wpD_execs_cons (wpD_Expr (append_D F12 (pre := []) (post := []) (bs := bs.push 38 ++ enc n) (o := o) (fun p hp => by cases hp) (by rw [Array.size_append, Array.size_push]; omega) rfl rfl rfl rfl ?_) rfl rfl)
      walk_at "mine steps"
      refine ⟨rfl, (N12 _ (.head _)).1, ?_⟩
      (try dsimp only)
      walk_at "mine steps"
      refine ⟨45, _, rfl, by decide, F12, N12, ?_⟩
      intro h13 tk13 F13 N13
      have N13 : News s.heap L h13 [(o, baObj ((bs.push 38 ++ enc n).push 45))] := N13
      show wpD _ _ (execs _ _) _ _ _
      (try dsimp only)
      refine wpD_execs_any ?_
      walk_at "mine steps"
      rename_i F14 N14
      show wpD _ _ (execs _ _) _ _ _
      refine wpD_execs_nil ?_
      show wpD _ _ (execs _ _) _ _ _
      refine wpD_execs_nil ⟨rfl, WNext.intro (i + n, (bs.push 38 ++ enc n).push 45) F14 N14 (by show _ - _ < _ - _; omega) ⟨rfl, rfl, ⟨_, rfl⟩, rfl, ⟨hle, by show ((bs.push 38 ++ enc n).push 45).size ≤ 20 * (i + n); rw [Array.size_push, Array.size_append, Array.size_push]; omega, ?_⟩⟩⟩
      show ((bs.push 38 ++ enc n).push 45).toList ++ u7 (x.cps.toList.drop (i + n)) = _
      rw [← h3, e7]; simp
  · walk_at "mine steps"
    refine wpD_execs_any ?_
    walk_at "mine steps"
    refine call_bytes_ba (N _ (.head _)).1 (by omega) ?_
    intro t k
    have : i = x.length := by omega
    rw [this, ← len_x, List.drop_length, u7, List.append_nil] at h3
    exact hR _ _ _ F.keep ⟨_, by rw [← h3]⟩
end
section
open Builtin
/-- a list has no name "keys" -/
theorem getAttr?_keys_list {prog : Program} {w : World} {A : Around} {E : Value → Shared → Prop} {s : Shared} {a : Addr} {xs : Array Value} {k : Nat} {Q : Option Value → Shared → Prop}
    (hx : s.heap.get? a = some { cls := .type "list", data := .seq xs k }) (hA : A.handled = none)
    (h : ∀ h' tk, (∀ b o, s.heap.get? b = some o → h'.get? b = some o) → Q none { s with heap := h', toks := tk }) :
    wpAny (model prog w) A (getAttr? (.ref a) "keys") Q E s := by
  obtain ⟨hp, g, d, tk, os⟩ := s
  have hT : ∀ tk', (⟨hp, g, d, tk', os⟩ : Shared).TypeIs (.ref a) "list" := fun _ => ⟨_, hx, rfl⟩
  have f1 := sub_AttributeError
  have f3 := F.slot_list_getattribute.lookup
  have f4 := F.slot_list_getattribute.bind (.ref a)
  have f5 := am_list_getattr_none
  have hmiss : typeLookup (.type "list") (PySem.Str.ofString "keys") = pure none := by rw [typeLookup_type, builtinLookup_eq_fast]; kernel_rfl
  unfold getAttr? getAttrBy? getAttrBy
  repeat (any_goals (first | assumption | exact hT _ | ((with_reducible show wpAny _ _ (call (Value.builtin "list.__getattribute__") _ _) _ _ _); refine call_meets F.slot_list_getattribute (hT _) am_entry_list_getattribute (F.args_list_getattribute_2 _ _) (meets_getattribute_miss_list a xs k #[] _ _ hmiss (by decide +kernel) (by decide +kernel)) ⟨hx, hA, fun h' tk' e hx' => ?_⟩) | wp_step))
  obtain ⟨t', u', he⟩ := hx'.there
  show wpAny _ _ (getattributeRaised _ _ _ _ _ _ _) _ _ _
  unfold getattributeRaised
  repeat (any_goals (first | assumption | wp_step))
  all_goals first | exact h _ _ hx'.keeps | skip
end
section
open Builtin
variable {prog : Program} {w : World} {A : Around} {E : Value → Shared → Prop} {s : Shared} {R : Result → Shared → Prop}
theorem plain_update_loop : plainId "dict.update.loop" = true := by decide +kernel
theorem entry_update_loop : entryFor table "dict.update.loop" = some Builtin.«dict.update.loop» := entryFor_of_tree (by kernel_rfl)
noncomputable def pairObj (k : Int) (t : Tok) (v : Value) (n : Nat) : Obj := { cls := .type "tuple", data := .seq #[.int k t, v] n }
theorem stored_fresh {ps : List (Int × Value)} {k : Int} {v : Value} (h : k ∉ ps.map (·.1)) : stored ps k v = ps ++ [(k, v)] := by
  unfold stored
  rw [if_neg]
  intro q
  obtain ⟨p, hp, e⟩ := List.any_eq_true.mp q
  exact h (List.mem_map.mpr ⟨p, hp, of_decide_eq_true e⟩)
theorem not_mem_take {l : List Int} (h : l.Nodup) {i : Nat} (hi : i < l.length) : l[i] ∉ l.take i := by
  have e : l = l.take i ++ (l[i] :: l.drop (i + 1)) := by rw [← List.drop_eq_getElem_cons hi, List.take_append_drop]
  intro q
  rw [e] at h
  exact (List.nodup_append.mp h).2.2 _ q _ (.head _) rfl
theorem codeAny_update_pairs {d I l : Addr} {items : Array Value} {ps : List (Int × Value)} (hdI : d ≠ I) (hdl : d ≠ l) (hIl : I ≠ l) (hsz : ps.length ≤ sizeLine) (hh : A.handled = none) (hlen : items.size = ps.length) (hnd : (ps.map (·.1)).Nodup) :
    ∀ (k i : Nat) (s : Shared), ps.length - i = k → i ≤ ps.length → s.heap.IsListIter I l i → s.heap.IsList l items → s.heap.DictOf (intKind prog w) d (ps.take i) →
      (∀ (j : Nat) (p : Int × Value), ps[j]? = some p → ∃ (a : Addr) (t : Tok) (n : Nat), items[j]? = some (Value.ref a) ∧ s.heap.get? a = some (pairObj p.1 t p.2 n) ∧ a ≠ d ∧ a ≠ I) →
      (∀ h' tk', h'.DictOf (intKind prog w) d ps → (∀ b o, b ≠ d → b ≠ I → s.heap.get? b = some o → h'.get? b = some o) → R (.ok (.ret .none)) { s with heap := h', toks := tk' }) →
      codeAny (model prog w) A (.builtin "dict.update.loop" ⟨[.ref d, .ref I, .int (i : Nat) 0, .none], []⟩) R s := by
  intro k
  induction k with
  | zero =>
    intro i s hk hi hit hl hd hp hR
    have hin : i = ps.length := by omega
    subst hin
    rw [List.take_of_length_le (Nat.le_refl _)] at hd
    refine codeAny_builtin entry_update_loop ?_
    rw [Around.under_plainId plain_update_loop _]
    show wpAny _ A.in1 (pyNext (.ref I) >>= _) _ _ s
    refine wpAny_bind (wpAny_pyNext_list_end hh hit hl (by rw [Array.getElem?_eq_none_iff]; omega) fun h' hx => ?_)
    show wpAny _ A.in1 (Builtin.Dict.addKeywords d [] >>= fun _ => ret .none) _ _ _
    refine wpAny_bind (wpAny_pure (wpAny_pure ?_))
    exact hR h' s.toks (hd.extBut hx hdI) fun b o _ hbI e => hx b o hbI e
  | succ k ih =>
    intro i s hk hi hit hl hd hp hR
    have hlt : i < ps.length := by omega
    obtain ⟨a, t, n, hia, hga, had, haI⟩ := hp i _ (List.getElem?_eq_getElem hlt)
    refine codeAny_builtin entry_update_loop ?_
    rw [Around.under_plainId plain_update_loop _]
    show wpAny _ A.in1 (pyNext (.ref I) >>= _) _ _ s
    refine wpAny_bind (wpAny_pyNext_list_item hit hl hia fun h' hit' hs' => ?_)
    have hga' : h'.get? a = some (pairObj _ t _ n) := (hs'.2 a haI).trans hga
    refine wpAny_bind (wpAny_holding ?_)
    refine wpAny_bind (wpAny_tryCatch ?_)
    unfold Builtin.Dict.pairItems
    refine wpAny_bind (wpAny_typeOf (show Shared.TypeIs _ (.ref a) "tuple" from ⟨_, hga', rfl⟩) ?_)
    rw [if_pos (by decide)]
    refine wpAny_bind (wpAny_seqItems hga' rfl (wpAny_pure ?_))
    show wpAny _ A.in1 (holding _ (dictSet d _ _)) _ _ _
    refine wpAny_holding ?_
    have hd' : h'.DictOf (intKind prog w) d (ps.take i) := hd.sameBut hs' hdI
    refine wpAny_dictSet_pairs (intKind_is prog w _ t) hd' (fun h'' hd'' hs'' => ?_) (by rw [List.length_take]; omega)
    have e : stored (ps.take i) ps[i].1 ps[i].2 = ps.take (i + 1) := by
      rw [stored_fresh, List.take_add_one, List.getElem?_eq_getElem hlt]
      · rfl
      · rw [List.map_take]
        have := not_mem_take hnd (i := i) (by simpa using hlt)
        simpa using this
    rw [e] at hd''
    refine wpAny_pure ⟨plainId_quiet plain_update_loop _, ?_⟩
    refine ih (i + 1) _ (by omega) (by omega) ?_ ?_ hd'' ?_ ?_
    · obtain ⟨o, q, r⟩ := hit'
      exact ⟨o, (hs''.2 _ (Ne.symm hdI)).trans q, r⟩
    · obtain ⟨o, q, r⟩ := hl
      exact ⟨o, (hs''.2 _ (Ne.symm hdl)).trans ((hs'.2 _ (Ne.symm hIl)).trans q), r⟩
    · intro j p hj
      obtain ⟨a, t, n, x1, x2, x3, x4⟩ := hp j p hj
      exact ⟨a, t, n, x1, (hs''.2 _ x3).trans ((hs'.2 _ x4).trans x2), x3, x4⟩
    · intro h3 tk3 hd3 hk3
      exact hR h3 tk3 hd3 fun b o b1 b2 e => hk3 b o b1 b2 ((hs''.2 _ b1).trans ((hs'.2 _ b2).trans e))
end
section
open Builtin
variable {prog : Program} {w : World} {A : Around} {E : Value → Shared → Prop} {s : Shared}
/-- dict(list of pairs) -/
theorem call_dict_pairs {l : Addr} {items : Array Value} {n : Nat} {ps : List (Int × Value)} {Q : Value → Shared → Prop} (hsz : ps.length ≤ sizeLine) (hh : A.handled = none) (hx : s.heap.get? l = some { cls := .type "list", data := .seq items n })
    (hlen : items.size = ps.length) (hnd : (ps.map (·.1)).Nodup)
    (hp : ∀ (j : Nat) (p : Int × Value), ps[j]? = some p → ∃ (a : Addr) (t : Tok) (n : Nat), items[j]? = some (Value.ref a) ∧ s.heap.get? a = some (pairObj p.1 t p.2 n))
    (h : ∀ h' tk' d, h'.DictOf (intKind prog w) d ps → s.heap.get? d = none → d = s.heap.objs.size → (∀ b o, s.heap.get? b = some o → h'.get? b = some o) → Q (.ref d) { s with heap := h', toks := tk' }) :
    wpAny (model prog w) A (call (.type "dict") [.ref l]) Q E s := by
  refine callType_codes (Q₁ := fun obj s₁ => obj = .ref s.heap.objs.size ∧ s₁ = { s with heap := s.heap.push { cls := .type "dict", data := .dict #[] } }) F.kt_called_dict (F.kt_typeCall_dict_1 _) F.entry_dict_init (kt_code_dict_new _ ⟨rfl, rfl⟩) ?_
  rintro obj s₁ ⟨rfl, rfl⟩
  have hnew : (s.heap.push { cls := .type "dict", data := .dict #[] }).DictOf (intKind prog w) s.heap.objs.size [] := Heap.DictOf.new s.heap
  have hx' := Heap.get?_push_of_some { cls := .type "dict", data := .dict #[] } hx
  have hT : ∀ tk, ({ s with heap := s.heap.push { cls := .type "dict", data := .dict #[] }, toks := tk } : Shared).TypeIs (.ref l) "list" := fun _ => ⟨_, hx', rfl⟩
  have hlt := Heap.lt_size hx
  refine ⟨hnew.typeIs, F.args_dict_init_2 _ _, ?_⟩
  unfold Builtin.«dict.__init__»
  refine wpAny_bind ?_
  unfold Builtin.Dict.selfAndRest
  refine wpAny_bind (wpAny_notOrdered_dict hnew.typeIs ?_)
  show wpAny _ _ (pure (s.heap.objs.size, [Value.ref l])) _ _ _
  refine wpAny_pure ?_
  show wpAny _ _ (Builtin.Dict.updateFrom "dict.__init__" s.heap.objs.size (.ref l) [] .none) _ _ _
  unfold Builtin.Dict.updateFrom
  refine wpAny_bind (wpAny_typeOf (hT _) ?_)
  rw [if_pos (by decide)]
  refine wpAny_bind (getAttr?_keys_list hx' hh fun h2 tk2 k2 => ?_)
  simp only [Option.isNone_none, if_true]
  refine wpAny_bind (wpAny_rule ?_)
  refine wpAny_bind (wpAny_pyIter_list (items := items) ⟨_, k2 _ _ hx', rfl, _, rfl⟩ ?_)
  have hd2 : h2.DictOf (intKind prog w) s.heap.objs.size [] := hnew.keep k2
  have hlt2 : ∀ b o, (s.heap.push { cls := .type "dict", data := .dict #[] }).get? b = some o → b < h2.objs.size := fun b o e => Heap.lt_size (k2 b o e)
  have hdn : s.heap.objs.size < h2.objs.size := by
    obtain ⟨o, ho, _⟩ := Heap.dictOf_iff.mp hd2
    exact Heap.lt_size ho
  have hl2 := hlt2 _ _ hx'
  show wpAny _ _ (pure _) _ _ _
  refine wpAny_pure ⟨plainId_quiet plain_update_loop _, ?_⟩
  show codeAny (model prog w) A.in1 (.builtin "dict.update.loop" ⟨[.ref s.heap.objs.size, .ref h2.objs.size, .int ((0:Nat):Int) 0, .none], []⟩) _ _
  refine codeAny_update_pairs (A := A.in1) (d := s.heap.objs.size) (I := h2.objs.size) (Nat.ne_of_lt hdn) (Ne.symm (Nat.ne_of_lt hlt)) (Ne.symm (Nat.ne_of_lt hl2)) hsz hh hlen hnd ps.length 0 _ (by omega) (Nat.zero_le _) ?_ ?_ ?_ ?_ ?_
  · exact ⟨_, Heap.get?_push_size _ rfl, rfl, rfl⟩
  · exact ⟨_, Heap.get?_push_of_some _ (k2 _ _ hx'), rfl, _, rfl⟩
  · rw [List.take_zero]; exact hd2.push _
  · intro j p hj
    obtain ⟨a, t, n, e1, e2⟩ := hp j p hj
    have e3 := Heap.get?_push_of_some { cls := .type "dict", data := .dict #[] } e2
    exact ⟨a, t, n, e1, Heap.get?_push_of_some _ (k2 _ _ e3), Nat.ne_of_lt (Heap.lt_size e2), Nat.ne_of_lt (hlt2 _ _ e3)⟩
  · intro h3 tk3 hd3 k3
    refine ⟨rfl, h h3 tk3 _ hd3 (Heap.get?_none_of_le (Nat.le_refl _)) rfl fun b o e => ?_⟩
    have e3 := Heap.get?_push_of_some { cls := .type "dict", data := .dict #[] } e
    exact k3 b o (Nat.ne_of_lt (Heap.lt_size e)) (Nat.ne_of_lt (hlt2 _ _ e3)) (Heap.get?_push_of_some _ (k2 _ _ e3))
end
theorem off3_app {I C D : Addr} : ∀ {a b : List (Addr × Obj)}, LCg.Off3 I C D a → LCg.Off3 I C D b → LCg.Off3 I C D (a ++ b)
  | [], _, _, h => h
  | _ :: _, _, ⟨x, y⟩, h => ⟨x, off3_app y h⟩
section
variable {prog : Program} {w : World} {A : Around} {E : Value → Shared → Prop} {s : Shared} {h₀ : Heap} {L : Addr} {m : PySem.Str → Option Value} {env : Env}
  {elt : PySem.Expr} {x : PySem.Str} {scope : Scope} {cl : List (PySem.Str × Addr)} {Q : Value → Shared → Prop}
/-- an element's end, where the element makes objects of its own -/
noncomputable def CTurnM (h₀ : Heap) (L : Addr) (m : PySem.Str → Option Value) (s₂ : Shared) (I C D : Addr) (led : List (Addr × Obj)) (G : Value → List (Addr × Obj) → Prop) (y : Value) (s' : Shared) : Prop :=
  ∃ h' tk' nw own, s' = { s₂ with heap := h', toks := tk' } ∧ Fr h₀ L h' m ∧ News h₀ L h' nw ∧ (∀ p ∈ led, p ∈ nw) ∧ (∀ p ∈ own, p ∈ nw) ∧ LCg.Off3 I C D own ∧ G y own
theorem CTurnM.intro {s₂ : Shared} {I C D : Addr} {led nw : List (Addr × Obj)} (own : List (Addr × Obj)) {G : Value → List (Addr × Obj) → Prop} {y : Value} {h' : Heap} {tk' : Nat} (F : Fr h₀ L h' m) (N : News h₀ L h' nw) (hs : ∀ p ∈ led, p ∈ nw) (ho : ∀ p ∈ own, p ∈ nw) (off : LCg.Off3 I C D own) (g : G y own) :
    CTurnM h₀ L m s₂ I C D led G y { s₂ with heap := h', toks := tk' } := ⟨h', tk', nw, own, rfl, F, N, hs, ho, off, g⟩
noncomputable def CompIterM (prog : Program) (w : World) (A : Around) (h₀ : Heap) (L : Addr) (m : PySem.Str → Option Value) (env : Env) (elt : PySem.Expr) (x : PySem.Str) (scope : Scope) (cl : List (PySem.Str × Addr)) (Q : Value → Shared → Prop) (it : Value) (s₂ : Shared) : Prop :=
  ∃ (I : Addr) (fp : List Addr) (n : Nat) (P : Nat → Value → Prop) (St : Nat → Heap → Prop) (news : List (Addr × Obj)) (G : Nat → Value → List (Addr × Obj) → Prop),
    it = .ref I ∧ Walks prog w A I fp [I] n P St ∧ n ≤ sizeLine ∧ (∀ i h, St i h → ∃ o, h.get? I = some o) ∧
    (∀ i h h' o nw, St i h → h.get? I = some o → h'.get? I = some o → (∀ b o, h₀.get? b = some o → h'.get? b = some o) → News h₀ L h' nw → (∀ p ∈ news, p ∈ nw) → St i h') ∧
    St 0 s₂.heap ∧ (∀ b ∈ fp, b < s₂.heap.objs.size) ∧ Fr h₀ L s₂.heap m ∧ News h₀ L s₂.heap news ∧ L ≠ I ∧ h₀.get? I = none ∧ (∀ p ∈ news, p.1 ≠ I) ∧
    (∀ i v I oI C oC D m₂ ys h tk own (E' : Value → Shared → Prop), i < n → P i v → LCg.NsObj oC m₂ → m₂ x = some v → Fr h₀ L h m → News h₀ L h ((I, oI) :: (C, oC) :: (D, LCg.lst ys) :: (news ++ own)) → LCg.Off3 I C D (news ++ own) →
      ((@Ne Nat I C) ∧ (@Ne Nat I D) ∧ (@Ne Nat C D)) →
      wpAny (model prog w) A (eval elt (compEnvC scope cl C env)) (CTurnM h₀ L m s₂ I C D ((I, oI) :: (C, oC) :: (D, LCg.lst ys) :: (news ++ own)) (G i)) E' { s₂ with heap := h, toks := tk }) ∧
    (∀ D ys h tk own, Fr h₀ L h m → News h₀ L h ((D, LCg.lst ys) :: (news ++ own)) → LCg.Off1 D (news ++ own) → ys.length = n → (∀ i, i < n → ∃ y o, ys[i]? = some y ∧ (∀ p ∈ o, p ∈ own) ∧ G i y o) → Q (.ref D) { s₂ with heap := h, toks := tk })
theorem compRest_ofM {s₂ : Shared} {n : Nat} {P : Nat → Value → Prop} {news : List (Addr × Obj)} {G : Nat → Value → List (Addr × Obj) → Prop} {Fin : List Value → List (Addr × Obj) → Prop}
    (turn : ∀ i v I oI C oC D m₂ ys h tk own (E' : Value → Shared → Prop), i < n → P i v → LCg.NsObj oC m₂ → m₂ x = some v → Fr h₀ L h m → News h₀ L h ((I, oI) :: (C, oC) :: (D, LCg.lst ys) :: (news ++ own)) → LCg.Off3 I C D (news ++ own) →
      ((@Ne Nat I C) ∧ (@Ne Nat I D) ∧ (@Ne Nat C D)) →
      wpAny (model prog w) A (eval elt (compEnvC scope cl C env)) (CTurnM h₀ L m s₂ I C D ((I, oI) :: (C, oC) :: (D, LCg.lst ys) :: (news ++ own)) (G i)) E' { s₂ with heap := h, toks := tk })
    (fin : ∀ ys own, ys.length = n → (∀ i, i < n → ∃ y o, ys[i]? = some y ∧ (∀ p ∈ o, p ∈ own) ∧ G i y o) → Fin ys (news ++ own)) :
    ∀ (k i : Nat) (ys : List Value) (own : List (Addr × Obj)), i + k = n → ys.length = i → (∀ j, j < i → ∃ y o, ys[j]? = some y ∧ (∀ p ∈ o, p ∈ own) ∧ G j y o) →
      LCg.CompRest prog w A h₀ L m env elt x scope cl s₂ (fun nw => ∀ p ∈ news, p ∈ nw) P Fin k i ys (news ++ own) := by
  intro k
  induction k with
  | zero =>
    intro i ys own hi hl hy
    have : i = n := by omega
    subst this
    exact LCg.CompRest.zero (fin ys own hl hy)
  | succ k ih =>
    intro i ys own hi hl hy
    refine LCg.CompRest.succ ?_
    intro v I oI C oC D m₂ h tk E' hv hC hx F N off ne
    refine wpAny_mono (turn i v I oI C oC D m₂ ys h tk own E' (by omega) hv hC hx F N off ne) (fun y s₂ hq => ?_) fun _ _ e => e
    obtain ⟨h', tk', nw, own', rfl, F', N', hs, ho, off', g⟩ := hq
    have e : news ++ (own ++ own') = (news ++ own) ++ own' := (List.append_assoc _ _ _).symm
    refine ⟨h', tk', news ++ (own ++ own'), rfl, F', fun p hp => ?_, ?_, fun _ hp => List.mem_append_left _ hp, ?_⟩
    · rw [e] at hp
      rcases List.mem_cons.mp hp with rfl | hp
      · exact N' _ (hs _ (.head _))
      rcases List.mem_cons.mp hp with rfl | hp
      · exact N' _ (hs _ (.tail _ (.head _)))
      rcases List.mem_cons.mp hp with rfl | hp
      · exact N' _ (hs _ (.tail _ (.tail _ (.head _))))
      rcases List.mem_append.mp hp with hp | hp
      · exact N' _ (hs _ (.tail _ (.tail _ (.tail _ hp))))
      · exact N' _ (ho _ hp)
    · rw [e]; exact off3_app off off'
    · refine ih (i + 1) _ _ (by omega) (by simp [hl]) fun j hj => ?_
      by_cases q : j < i
      · obtain ⟨z, o, hz, sz, gz⟩ := hy j q
        refine ⟨z, o, ?_, fun p hp => List.mem_append_left _ (sz p hp), gz⟩
        rw [List.getElem?_append_left (by omega)]
        exact hz
      · have : j = i := by omega
        subst this
        exact ⟨y, own', by rw [List.getElem?_append_right (by omega)]; simp [hl], fun p hp => List.mem_append_right _ hp, g⟩
theorem listComp_anyM {iter : PySem.Expr} {px : Pos} {pos : Pos} (_F₀ : Fr h₀ L s.heap m)
    (hclos : closureFor scope env = pure cl) (hcell : ∀ y ∈ scope.names, y.2 ≠ .cell) (hkind : scope.kind = .function)
    (hnames : ∀ y ∈ scope.names, y.2 = .local → scope.names.lookup y.1 = some .local) (hx : scope.names.lookup x = some .local)
    (h : wpAny (model prog w) A (eval iter env) (fun xv s₁ => wpAny (model prog w) A (pyIter xv) (CompIterM prog w A h₀ L m env elt x scope cl Q) E s₁) E s)
    (hs : ∀ x, foldedSetIterable iter env x = pure x) :
    wpAny (model prog w) A (eval (.ListComp elt [⟨.Name x px, iter, [], 0⟩] scope pos) env) Q E s := by
  rw [eval_ListComp]
  refine wpAny_comprehension_free (use := none) rfl hs hclos hkind hnames (wpAny_mono h (fun xv s₁ h₁ => wpAny_mono h₁ (fun it s₂ h₂ => ?_) fun _ _ e => e) fun _ _ e => e)
  obtain ⟨I, fp, n, P, St, news, G, rfl, W, hsz, hIo, hSt, hst, hfp, F, N, hLI, hI0, off, turn, fin⟩ := h₂
  have R := compRest_ofM (Fin := fun ys nw => ∃ own, nw = news ++ own ∧ ys.length = n ∧ ∀ i, i < n → ∃ y o, ys[i]? = some y ∧ (∀ p ∈ o, p ∈ own) ∧ G i y o) turn (fun ys own hl hy => ⟨own, rfl, hl, hy⟩) n 0 [] [] (by omega) rfl (fun j hj => absurd hj (Nat.not_lt_zero _))
  rw [List.append_nil] at R
  refine LCg.block_U (S := fun nw => ∀ p ∈ news, p ∈ nw) W hsz hIo (fun i h h' o nw a b c d e f => hSt i h h' o nw a b c d e f) hcell hkind hx hst hfp F N hLI hI0 off (fun _ hp => hp) R ?_
  intro D C h tk m' ys news' F' N' o1 hn hC₀ hD₀ hCL hDL hCD offC fn
  obtain ⟨own, rfl, hl, hy⟩ := fn
  refine ⟨m', hn, fun h'' hs'' => fin D ys h'' tk own (F'.change hs'' hCL hC₀) (fun p hp => ?_) o1 hl hy⟩
  refine ⟨hs''.extBut _ _ ?_ (N' p hp).1, (N' p hp).2⟩
  rcases List.mem_cons.mp hp with rfl | hp
  · exact Ne.symm hCD
  · exact offC p hp
theorem compIter_rangeM {r : Addr} {a b c : Int} {t u v : Tok} {n : Nat} {news : List (Addr × Obj)} (G : Nat → Value → List (Addr × Obj) → Prop) (hh : A.handled = none) (hr : IsRange s.heap r a b c t u v) (hsm : Builtin.Range.small a b c = true)
    (hn : Builtin.Range.rangeSize a b c = ((n : Nat) : Int)) (F : Fr h₀ L s.heap m) (N : News h₀ L s.heap news) (hsz : n ≤ sizeLine)
    (turn : ∀ i k I oI C oC D m₂ ys h tk own (E' : Value → Shared → Prop), i < n → LCg.NsObj oC m₂ → m₂ x = some (.int (a + (i : Int) * c) k) → Fr h₀ L h m → News h₀ L h ((I, oI) :: (C, oC) :: (D, LCg.lst ys) :: (news ++ own)) → LCg.Off3 I C D (news ++ own) →
      ((@Ne Nat I C) ∧ (@Ne Nat I D) ∧ (@Ne Nat C D)) →
      wpAny (model prog w) A (eval elt (compEnvC scope cl C env)) (CTurnM h₀ L m s I C D ((I, oI) :: (C, oC) :: (D, LCg.lst ys) :: (news ++ own)) (G i)) E' { s with heap := h, toks := tk })
    (done : ∀ D ys h tk own, Fr h₀ L h m → News h₀ L h ((D, LCg.lst ys) :: (news ++ own)) → ys.length = n → (∀ i, i < n → ∃ y o, ys[i]? = some y ∧ (∀ p ∈ o, p ∈ own) ∧ G i y o) → Q (.ref D) { s with heap := h, toks := tk }) :
    wpAny (model prog w) A (pyIter (.ref r)) (CompIterM prog w A h₀ L m env elt x scope cl Q) E s := by
  refine wpAny_pyIter_range hr hsm ?_
  refine ⟨_, _, _, _, _, news, G, rfl, Walks.range hh s.heap.objs.size a c n, hsz, (fun i h st => ⟨_, st⟩), (fun i h h' o nw st e e' _ _ _ => by have st' : h.get? s.heap.objs.size = some _ := st; show h'.get? _ = some _; rw [e', ← e]; exact st'),
    (by show IsRangeIter _ _ _ _ _; rw [hn]; simpa using Heap.get?_push_size _ rfl), ?_, F.push _, ?_, Nat.ne_of_lt F.ns.lt, next_is_new F, (fun p hp => Nat.ne_of_lt (Heap.lt_size (N p hp).1)), ?_, ?_⟩
  · intro b hb
    rw [List.mem_singleton.mp hb]
    show s.heap.objs.size < (s.heap.push _).objs.size
    rw [Heap.size_push]
    exact Nat.lt_succ_self _
  · exact fun p hp => ⟨Heap.get?_push_of_some _ (N p hp).1, (N p hp).2⟩
  · intro i v I oI C oC D m₂ ys h tk own E' hi hv hC hm F' N' off ne
    obtain ⟨k, rfl⟩ := hv
    exact turn i k I oI C oC D m₂ ys h tk own E' hi hC hm F' N' off ne
  · exact fun D ys h tk own F' N' _ hl hy => done D ys h tk own F' N' hl hy
end
section
open Builtin
variable {prog : Program} {w : World} {A : Around} {E : Value → Shared → Prop} {s : Shared}
theorem gives_in_bytes (b : Array UInt8) (k : Int) (t u : Tok) (h0 : 0 ≤ k) (h1 : k < 256) : Gives («bytes.__contains__» ⟨[.bytes b t, .int k u], []⟩) (.val (.bool (b.contains k.toNat.toUInt8))) := by
  refine .of_wp fun M A E s Q hq => ?_
  show wpAny M A (Bytes.containsIn "bytes.__contains__" (.bytes b t) (.int k u) >>= fun r => ret (.bool r)) _ E s
  refine wpAny_bind ?_
  unfold Bytes.containsIn
  rw [KBy.buffer_eq]
  show wpAny M A (if (decide (k < 0) || decide (k ≥ 256)) = true then _ else _) _ E s
  rw [if_neg (by simp; omega)]
  exact wpAny_pure (wpAny_pure ⟨_, rfl, hq⟩)
theorem in_bytes {b : Array UInt8} {k : Int} {t u : Tok} {r : Bool} {Q : Value → Shared → Prop} (h0 : 0 ≤ k) (h1 : k < 256) (e : b.contains k.toNat.toUInt8 = r) (h : Q (.bool r) s) : wpAny (model prog w) A (compareOp .In (.int k u) (.bytes b t)) Q E s :=
  in_gives (typeIs_bytes s b t) FB.slot_bytes_contains FB.entry_bytes_contains (FB.args_bytes_contains_2 _ _) (e ▸ gives_in_bytes b k t u h0 h1) h
theorem bInts_at {o : Array UInt8} {i : Nat} {c : UInt8} (h : o[i]? = some c) : (KBw.bInts o).getD i 0 = (c.toNat : Int) := by
  have h' : o.toList[i]? = some c := by simpa using h
  unfold KBw.bInts
  rw [List.getD_eq_getElem?_getD, List.getElem?_map, h']
  rfl
theorem byte_back (c : UInt8) : ((c.toNat : Int)).toNat.toUInt8 = c := by
  show UInt8.ofNat c.toNat = c
  exact UInt8.ofNat_toNat
end
section
variable {prog : Program} {w : World} {A : Around} {s : Shared} {mean : ExcName → Option Value} {mg mb : PySem.Str → Option Value}
structure SbJ (o : Array UInt8) (t : Tok) (b e : Nat) (i : Nat) (m : PySem.Str → Option Value) (news : List (Addr × Obj)) : Prop where
  tx : m (PySem.Str.ofString "octets") = some (.bytes o t)
  en : ∃ t, m (PySem.Str.ofString "end") = some (.int (i : Nat) t)
  ge : b ≤ i ∧ i ≤ e
  nw : news = []
theorem shift_behind_does (C : Cx w mean mg mb s.heap) (o : Array UInt8) (ho : o.size ≤ 10000) (b e : Nat) (hb : b ≤ e) (he : o[e]? = some 45) (hs : ∀ j c, b ≤ j → j < e → o[j]? = some c → SH.contains c = true) (t t1 : Tok) :
    Does prog w 1 149 [.bytes o t, .int (b : Int) t1] s (fun v _ => ∃ t, v = .int (e : Int) t) (fun _ _ => False) := by
  intro Q E hR hX
  have hes : e < o.size := (Array.getElem?_eq_some_iff.mp he).1
  obtain ⟨ks, hks⟩ : ∃ ks, KBw.bInts o = ks := ⟨_, rfl⟩
  have hkl : ks.length = o.size := by rw [← hks, KBw.ints_length]
  have hk30 : ks.length ≤ 10000 := by omega
  walk_at "mine go"
  refine while_by (SbJ o t b e) (fun i => e - i) b (by assumption) (by assumption) ⟨rfl, ⟨_, rfl⟩, ⟨Nat.le_refl _, hb⟩, rfl⟩ ?_
  intro i m₁ news₁ h tk hJ F N
  obtain ⟨htx, ⟨te, hen⟩, ⟨g1, g2⟩, rfl⟩ := hJ
  have F := Mine.Fr.named F [(PySem.Str.ofString "octets", _), (PySem.Str.ofString "end", _)] (by intro p hp; simp only [List.mem_cons, List.not_mem_nil, or_false] at hp; rcases hp with rfl | rfl; exact htx; exact hen)
  rcases Nat.lt_or_ge i e with hlt | hge
  · obtain ⟨c, hc⟩ : ∃ c, o[i]? = some c := ⟨_, Array.getElem?_eq_getElem (by omega)⟩
    have hk : ks.getD ((i : Int)).toNat 0 = (c.toNat : Int) := by rw [← hks]; exact bInts_at hc
    have hm := hs i c g1 hlt hc
    walk_at "mine steps"
    all_goals walk_at "mine tidy"
    refine in_bytes (b := SH) (r := true) (by assumption) (by assumption) ?_ ?_
    · rw [hk, byte_back]
      exact hm
    walk_at "mine steps"
    all_goals walk_at "mine tidy"
    refine WNext.intro (i + 1) (by assumption) (by assumption) (by omega) ⟨rfl, ⟨_, rfl⟩, ⟨by omega, by omega⟩, rfl⟩
  · have hie : i = e := by omega
    subst hie
    have hk : ks.getD ((i : Int)).toNat 0 = 45 := by rw [← hks]; exact bInts_at he
    walk_at "mine steps"
    all_goals walk_at "mine tidy"
    refine in_bytes (b := SH) (r := false) (by assumption) (by assumption) ?_ ?_
    · rw [hk]
      decide +kernel
    walk_at "mine steps"
    all_goals walk_at "mine tidy"
    · exfalso; omega
    · exfalso; omega
    refine hR _ _ _ (keepsF (by assumption)) ⟨_, rfl⟩
end
section
local macro_rules | `(tactic| walk_at "eval ListComp") => `(tactic| (k_here; k_dflt (refine' listComp_anyM _ _ _ _ _ _ _ _; walk_at "mine comp")))
theorem valueAt_nth : ∀ {ps : List (Int × Value)} {i : Nat} {p : Int × Value}, (ps.map (·.1)).Nodup → ps[i]? = some p → valueAt ps p.1 = some p.2
  | [], _, _, _, h => by cases h
  | q :: ps, 0, p, _, h => by
    simp only [List.getElem?_cons_zero, Option.some.injEq] at h
    subst h
    simp [valueAt]
  | q :: ps, i + 1, p, hn, h => by
    simp only [List.getElem?_cons_succ] at h
    simp only [List.map_cons, List.nodup_cons] at hn
    have hne : q.1 ≠ p.1 := fun e => hn.1 (by rw [e]; exact List.mem_map.mpr ⟨p, List.mem_of_getElem? h, rfl⟩)
    have := valueAt_nth hn.2 h
    unfold valueAt at *
    rw [List.find?_cons_of_neg (by simpa using hne)]
    exact this
/-- what the table of worths holds -/
structure Worths (ps : List (Int × Value)) : Prop where
  at' : ∀ i, i < 64 → ∃ t, valueAt ps ((KBw.bInts SH).getD i 0) = some (.int (i : Int) t)
noncomputable def wkeys : List Int := (List.range 64).map fun i => (KBw.bInts SH).getD i 0
theorem wkeys_nodup : wkeys.Nodup := by decide +kernel
theorem Worths.intro (f : Nat → Tok) : Worths ((List.range 64).map fun i => ((KBw.bInts SH).getD i 0, Value.int (i : Int) (f i))) where
  at' := fun i hi => ⟨f i, by
    have hm : (((List.range 64).map fun i => ((KBw.bInts SH).getD i 0, Value.int (i : Int) (f i))).map (·.1)) = wkeys := by
      rw [List.map_map]; rfl
    exact valueAt_nth (p := ((KBw.bInts SH).getD i 0, Value.int (i : Int) (f i))) (i := i) (by rw [hm]; exact wkeys_nodup) (by simp [hi])⟩
section
variable {prog : Program} {w : World} {A : Around} {s : Shared} {mean : ExcName → Option Value} {mg mb : PySem.Str → Option Value}
theorem worth_table_does (C : Cx w mean mg mb s.heap) (t1 : Tok) :
    DoesN prog w 1 71 [.bytes SH t1] s (fun v nw => ∃ d o ps, v = .ref d ∧ nw = [(d, o)] ∧ (d == sysModules) = false ∧ o.IsDictOf (intKind prog w) ps ∧ Worths ps) (fun _ _ => False) := by
  intro Q E hR hX
  have hbig := C.T.nolimit
  walk_at "mine goC"
  have hl : (KBw.bInts SH).length = 64 := by rw [KBw.ints_length]; exact SH_size
  have hs64 : (SH.size : Int) = 64 := by rw [SH_size]; rfl
  refine compIter_rangeM (n := 64) (fun i y own => ∃ a t n t', y = .ref a ∧ own = [(a, pairObj ((KBw.bInts SH).getD i 0) t (.int (i : Int) t') n)]) rfl (by assumption) ?_ ?_ (by assumption) (by assumption) (by rw [sizeLine_eq]; omega) ?_ ?_
  · rw [hs64]; decide
  · rw [hs64]; decide
  · intro i k I oI C oC D m₂ ys h tk own E' hi hC hx F N off ne
    have e0 : (0 : Int) + (i : Int) * 1 = (i : Int) := by omega
    rw [e0] at hx
    walk_at "mine steps"
    refine KBw.item_K rfl (by rw [hl]; decide) (by omega) (by rw [hl]; omega) ?_
    intro t' k' g0 g1
    walk_at "mine steps"
    all_goals walk_at "mine tidy"
    rename_i D' h' F' N' l'
    refine CTurnM.intro [(D', _)] F' N' (fun _ hp => .tail _ hp) (fun p hp => by rw [List.mem_singleton.mp hp]; exact .head _) ⟨⟨Nat.ne_of_gt l'.1, Nat.ne_of_gt l'.2.1, Nat.ne_of_gt l'.2.2.1⟩, trivial⟩ ⟨D', t', 0, k, rfl, rfl⟩
  · intro D ys h tk own F N hl' hy
    walk_at "mine steps"
    have hex : ∀ i, ∃ q : Addr × Tok × Nat × Tok, i < 64 → ys[i]? = some (.ref q.1) ∧ (q.1, pairObj ((KBw.bInts SH).getD i 0) q.2.1 (.int (i : Int) q.2.2.2) q.2.2.1) ∈ own := by
      intro i
      by_cases hi : i < 64
      · obtain ⟨y, o, e1, e2, a, t, n, t', rfl, rfl⟩ := hy i hi
        exact ⟨⟨a, t, n, t'⟩, fun _ => ⟨e1, e2 _ (.head _)⟩⟩
      · exact ⟨⟨0, (0 : Nat), 0, (0 : Nat)⟩, fun h => absurd h hi⟩
    obtain ⟨q, hq⟩ := Classical.axiomOfChoice hex
    refine call_dict_pairs (ps := (List.range 64).map fun i => ((KBw.bInts SH).getD i 0, Value.int (i : Int) (q i).2.2.2)) (by rw [sizeLine_eq]; simp) rfl (N _ (.head _)).1 (by simp [hl']) (by rw [List.map_map]; exact wkeys_nodup) ?_ ?_
    · intro j p hj
      have hj' : j < 64 := by
        have := List.getElem?_eq_some_iff.mp hj
        obtain ⟨h', _⟩ := this
        simpa using h'
      simp only [List.getElem?_map, List.getElem?_range hj', Option.map_some, Option.some.injEq] at hj
      subst hj
      obtain ⟨e1, e2⟩ := hq j hj'
      exact ⟨_, (q j).2.1, (q j).2.2.1, by simpa using e1, (N _ (.tail _ (List.mem_append_right _ e2))).1⟩
    · intro h' tk' d hd hnone hsz hk
      obtain ⟨o, ho, hdo⟩ := Heap.dictOf_iff.mp hd
      refine hR _ _ _ _ ?_ ?_ ⟨d, o, _, rfl, rfl, (by rw [hsz]; exact F.notModules (modules_low hbig)), hdo, Worths.intro fun i => (q i).2.2.2⟩
      · exact fun b o e => hk b o (F.keep b o e)
      · intro p hp
        rw [List.mem_singleton.mp hp]
        refine ⟨ho, ?_⟩
        cases hg : s.heap.get? d with
        | none => rfl
        | some o => have := F.keep _ _ hg; rw [hnone] at this; cases this
end
end
noncomputable def wv (c : UInt8) : Int := ((KBw.bInts SH).idxOf ((c.toNat : Nat) : Int) : Nat)
theorem wv_all : ∀ n : Fin 256, SH.contains (UInt8.ofNat n.val) = true → (KBw.bInts SH).idxOf ((n.val : Nat) : Int) < 64 ∧ (KBw.bInts SH).getD ((KBw.bInts SH).idxOf ((n.val : Nat) : Int)) 0 = ((n.val : Nat) : Int) := by decide +kernel
theorem wv_ok {c : UInt8} (h : SH.contains c = true) : ∃ i : Nat, i < 64 ∧ wv c = (i : Int) ∧ (KBw.bInts SH).getD i 0 = ((c.toNat : Nat) : Int) := by
  have := wv_all ⟨c.toNat, c.toNat_lt⟩ (by simpa using h)
  exact ⟨_, this.1, rfl, this.2⟩
theorem Worths.of {ps : List (Int × Value)} (W : Worths ps) {c : UInt8} (h : SH.contains c = true) : ∃ t, valueAt ps ((c.toNat : Nat) : Int) = some (.int (wv c) t) := by
  obtain ⟨i, hi, e1, e2⟩ := wv_ok h
  obtain ⟨t, e⟩ := W.at' i hi
  rw [e2] at e
  exact ⟨t, by rw [e, e1]⟩
section
variable {prog : Program} {w : World} {A : Around} {s : Shared} {mean : ExcName → Option Value} {mg mb : PySem.Str → Option Value}
structure PnJ (o : Array UInt8) (t : Tok) (d a : Addr) (i : Nat) (m : PySem.Str → Option Value) (news : List (Addr × Obj)) : Prop where
  si : m (PySem.Str.ofString "signs") = some (.bytes o t)
  wo : m (PySem.Str.ofString "worths") = some (.ref d)
  ro : m (PySem.Str.ofString "worth_row") = some (.ref a)
  nw : ∃ its k, news = [(a, W.listOf its k)] ∧ IntsAre its.toList ((o.toList.take i).map wv)
theorem part_numbers_does (C : Cx w mean mg mb s.heap) (o : Array UInt8) (ho : o.size ≤ 1000) (hc : ∀ c, c ∈ o.toList → SH.contains c = true) (t : Tok) (d : Addr) (ps : List (Int × Value)) (hd : s.heap.DictOf (intKind prog w) d ps) (hW : Worths ps) (lo : (d == sysModules) = false) :
    DoesN prog w 1 95 [.bytes o t, .ref d] s (fun v nw => ∃ a its k, v = .ref a ∧ nw = [(a, W.listOf its k)] ∧ IntsAre its.toList (o.toList.map wv)) (fun _ _ => False) := by
  intro Q E hR hX
  obtain ⟨ks, hks⟩ : ∃ ks, KBw.bInts o = ks := ⟨_, rfl⟩
  have hkl : ks.length = o.size := by rw [← hks, KBw.ints_length]
  have hk30 : ks.length ≤ 10000 := by omega
  walk_at "mine go"
  refine loop_upto (n := ks.length) (PnJ o t d _) rfl (by assumption) (by omega) (by assumption) (by assumption) ⟨rfl, rfl, rfl, ⟨_, _, rfl, .nil⟩⟩ ?_ ?_
  · intro i k m₁ news₁ h tk own hi ha' hoff hJ F N
    obtain ⟨h1, h2, h3, its, k', rfl, hI⟩ := hJ
    have F := Mine.Fr.named F [(PySem.Str.ofString "signs", _), (PySem.Str.ofString "worths", _), (PySem.Str.ofString "worth_row", _)] (by intro p hp; simp only [List.mem_cons, List.not_mem_nil, or_false] at hp; rcases hp with rfl | rfl | rfl; exact h1; exact h2; exact h3)
    have hil : its.size ≤ 1000 := by
      have h1 := hI.length
      rw [Array.length_toList, List.length_map, List.length_take] at h1
      omega
    have hi : i < o.size := by omega
    have hci : SH.contains o[i] = true := hc _ (by simp)
    obtain ⟨tw, hval⟩ := hW.of hci
    have hk : ks.getD ((i : Int)).toNat 0 = ((o[i].toNat : Nat) : Int) := by rw [← hks]; exact bInts_at (Array.getElem?_eq_getElem hi)
    have hks0 := hk
    walk_at "mine steps"
    have hD : h.DictOf (intKind prog w) d ps := hd.keep F.keep
    (try dsimp only)
    refine wpAny_notIn_of (knd := intKind prog w) (intKind_is _ _ _ _) lo hD.mapOf ?_
    rw [hk, hval]
    simp only [Option.isSome_some, Bool.not_true]
    walk_at "mine steps"
    (try dsimp only)
    have hD : h.DictOf (intKind prog w) d ps := hd.keep F.keep
    refine subscriptTail_builtin hD.typeIs slot_dict_getitem.lookup (wpAny_getItem_of (intKind_is _ _ _ _) hD.mapOf (by rw [hk]; exact hval) ?_) (by with_unfolding_all rfl) (by intro _; with_unfolding_all rfl)
    walk_at "mine steps"
    rename_i F5 N5
    refine InvEndN.intro (nx := [(_, W.listOf (its.push (Value.int (wv o[i]) tw)) (k' + 1))]) F5 N5 ⟨rfl, rfl, rfl, ⟨_, _, rfl, ?_⟩⟩ rfl (fun p hp => by rw [List.mem_singleton.mp hp]; exact .head _) (fun p hp => List.mem_cons_of_mem _ hp)
    have hoi : o.toList[i]? = some o[i] := by simp [hi]
    rw [Array.toList_push, List.take_add_one, hoi, List.map_append]
    exact intsAre_app hI (.cons _ _ .nil)
  · intro m₁ news₁ h tk hJ F N
    obtain ⟨h1, h2, h3, its, k', rfl, hI⟩ := hJ
    have F := Mine.Fr.named F [(PySem.Str.ofString "signs", _), (PySem.Str.ofString "worths", _), (PySem.Str.ofString "worth_row", _)] (by intro p hp; simp only [List.mem_cons, List.not_mem_nil, or_false] at hp; rcases hp with rfl | rfl | rfl; exact h1; exact h2; exact h3)
    walk_at "mine steps"
    all_goals walk_at "mine tidy"
    refine hR _ _ _ _ (keepsF F) (madeOf N) ⟨_, _, _, rfl, rfl, ?_⟩
    rw [List.take_of_length_le (by simp; omega)] at hI
    exact hI
end
noncomputable def goTot (ks : List Int) : Int := ks.foldl (fun a c => 64 * a + c) 0
theorem intsAre_get : ∀ {vs : List Value} {ks : List Int} {i : Nat} {v : Value}, IntsAre vs ks → vs[i]? = some v → ∃ k t, ks[i]? = some k ∧ v = .int k t
  | _, _, i, v, .nil, h => by cases h
  | _, _, 0, v, .cons k t _, h => by
    simp only [List.getElem?_cons_zero, Option.some.injEq] at h
    exact ⟨_, _, rfl, h.symm⟩
  | _, _, i + 1, v, .cons _ _ r, h => by
    simp only [List.getElem?_cons_succ] at h ⊢
    exact intsAre_get r h
theorem goTot_succ {ks : List Int} {i : Nat} {c : Int} (h : ks[i]? = some c) : goTot (ks.take (i + 1)) = 64 * goTot (ks.take i) + c := by
  unfold goTot
  rw [List.take_add_one, h]
  simp [List.foldl_append]
theorem goTot_bound : ∀ (l : List Int) (a : Int), 0 ≤ a → (∀ k ∈ l, 0 ≤ k ∧ k < 64) → 0 ≤ l.foldl (fun a c => 64 * a + c) a ∧ l.foldl (fun a c => 64 * a + c) a < (a + 1) * 64 ^ l.length
  | [], a, h, _ => ⟨h, by simp; omega⟩
  | c :: l, a, h, hk => by
    have hc := hk c (.head _)
    have ih := goTot_bound l (64 * a + c) (by omega) fun k q => hk k (.tail _ q)
    refine ⟨ih.1, Int.lt_of_lt_of_le ih.2 ?_⟩
    rw [List.length_cons, Int.pow_succ]
    have h1 : (64 * a + c + 1) ≤ (a + 1) * 64 := by omega
    calc (64 * a + c + 1) * 64 ^ l.length ≤ ((a + 1) * 64) * 64 ^ l.length := Int.mul_le_mul_of_nonneg_right h1 (Int.le_of_lt (Int.pow_pos (by decide)))
      _ = (a + 1) * (64 ^ l.length * 64) := by rw [Int.mul_assoc, Int.mul_comm 64]
theorem goTot_small {ks : List Int} (h : ks.length ≤ 4) (hk : ∀ k ∈ ks, 0 ≤ k ∧ k < 64) : 0 ≤ goTot ks ∧ goTot ks < 16777216 := by
  have hb := goTot_bound ks 0 (Int.le_refl _) hk
  refine ⟨hb.1, Int.lt_of_lt_of_le hb.2 ?_⟩
  generalize ks.length = n at h
  have : n = 0 ∨ n = 1 ∨ n = 2 ∨ n = 3 ∨ n = 4 := by omega
  rcases this with rfl | rfl | rfl | rfl | rfl <;> decide
noncomputable def goB (ks : List Int) (i : Nat) : Int := Builtin.bitAnd (((goTot ks).fdiv (2 ^ (6 * (ks.length : Int) - 8 * ((ks.length : Int) - 1)).toNat)).fdiv (2 ^ (8 * ((ks.length : Int) - 1 - 1 + (i : Int) * -1)).toNat)) 255
theorem and255 (z : Int) : 0 ≤ Builtin.bitAnd z 255 ∧ Builtin.bitAnd z 255 < 256 := by
  rcases Int.lt_or_le z 0 with h | h
  · rw [bitAnd_np (by omega) (by decide)]
    have h1 : ((255 : Int).toNat &&& (Builtin.bitNot z).toNat) ≤ 255 := Nat.and_le_left
    have h2 : ((255 : Int).toNat : Int) = 255 := rfl
    omega
  · rw [bitAnd_pp h (by decide)]
    have h1 : (z.toNat &&& (255 : Int).toNat) ≤ 255 := Nat.and_le_right
    omega
noncomputable def goS (ks : List Int) : Int := Builtin.bitAnd (goTot ks) (1 * 2 ^ (6 * (ks.length : Int) - 8 * ((ks.length : Int) - 1)).toNat - 1)
section
variable {prog : Program} {w : World} {A : Around} {s : Shared} {mean : ExcName → Option Value} {mg mb : PySem.Str → Option Value}
structure GoJ (ks : List Int) (a : Addr) (c1 : Addr) (o1 : Obj) (i : Nat) (m : PySem.Str → Option Value) (news : List (Addr × Obj)) : Prop where
  wr : m (PySem.Str.ofString "worth_row") = some (.ref a)
  to : ∃ t, m (PySem.Str.ofString "total") = some (.int (goTot (ks.take i)) t)
  nw : news = [(c1, o1)]
theorem group_octets_does (C : Cx w mean mg mb s.heap) (a : Addr) (its : Array Value) (ks : List Int) (hl : s.heap.IsList a its) (hI : IntsAre its.toList ks) (h2 : 2 ≤ ks.length) (h4 : ks.length ≤ 4) (hk : ∀ k ∈ ks, 0 ≤ k ∧ k < 64) :
    DoesN prog w 1 81 [.ref a] s (fun v nw => ∃ a t1 t2, v = .ref a ∧ nw = [(a, tupleOf #[.bytes (byteArr ((List.range (ks.length - 1)).map (goB ks))) t1, .int (goS ks) t2])]) (fun _ _ => False) := by
  intro Q E hR hX
  have hsz : its.size = ks.length := by rw [← hI.length, Array.length_toList]
  walk_at "mine goC"
  refine loop_list (GoJ ks a _ _) rfl hl (by assumption) (by assumption) ⟨rfl, ⟨_, rfl⟩, rfl⟩ ?_ ?_
  · intro i v m₁ news₁ h tk own hv ha' hoff hJ F N
    obtain ⟨h1, ⟨t2, h2'⟩, rfl⟩ := hJ
    obtain ⟨kk, tv, hkk, rfl⟩ := intsAre_get hI (i := i) (v := v) (by simpa using hv)
    have F := Mine.Fr.named F [(PySem.Str.ofString "worth_row", _), (PySem.Str.ofString "total", _)] (by intro p hp; simp only [List.mem_cons, List.not_mem_nil, or_false] at hp; rcases hp with rfl | rfl; exact h1; exact h2')
    walk_at "mine steps"
    all_goals walk_at "mine tidy"
    refine InvEndN.intro (by assumption) (by assumption) ⟨rfl, ⟨_, by rw [goTot_succ hkk]; rfl⟩, rfl⟩ rfl (fun _ hp => List.mem_append_left _ hp) (fun _ hp => List.mem_append_right _ hp)
  · intro m₁ news₁ h tk hJ F N
    obtain ⟨h1, ⟨t2, h2'⟩, rfl⟩ := hJ
    have F := Mine.Fr.named F [(PySem.Str.ofString "worth_row", _), (PySem.Str.ofString "total", _)] (by intro p hp; simp only [List.mem_cons, List.not_mem_nil, or_false] at hp; rcases hp with rfl | rfl; exact h1; exact h2')
    have hT := goTot_small h4 hk
    rw [List.take_of_length_le (by omega)] at F
    walk_at "mine steps"
    all_goals walk_at "mine tidy"
    have hr1 : Builtin.Range.rangeSize ((ks.length : Int) - 1 - 1) (-1) (-1) = ((ks.length - 1 : Nat) : Int) := by rw [rangeSize_downNat]; omega
    refine compIter_range (n := ks.length - 1) (fun i y => ∃ t, y = .int (goB ks i) t) rfl (by assumption) (small_down (by omega) (by omega) (by omega) (by omega)) hr1 (by assumption) (by assumption) (by rw [sizeLine_eq]; omega) ?_ ?_
    · intro i k I oI C oC D m₂ ys h tk E' hi hC hx F N off ne
      walk_at "mine steps"
      all_goals walk_at "mine tidy"
      exact CTurn.intro F N (fun _ hp => hp) ⟨_, rfl⟩
    · intro D ys h tk F N hl hy
      walk_at "mine steps"
      all_goals walk_at "mine tidy"
      have hIy : IntsAre ys ((List.range (ks.length - 1)).map (goB ks)) := intsAre_of hl fun i hi => by
        obtain ⟨y, e, t, rfl⟩ := hy i hi
        exact ⟨t, e⟩
      refine call_bytes_ints (vs := ys) ⟨_, (N _ (.head _)).1, rfl, _, rfl⟩ hIy (fun n hn => by
        obtain ⟨j, _, rfl⟩ := List.mem_map.mp hn
        exact and255 _) (by rw [hl, sizeLine_eq]; omega) rfl ?_
      intro h' t' k' hk'
      have F := Mine.Fr.grow F hk'
      have N := Mine.News.grow N hk'
      walk_at "mine steps"
      all_goals walk_at "mine tidy"
      rename_i F9 N9 l9
      refine hR _ _ _ _ (keepsF F9) (madeOf (nw := [(_, _)]) fun p hp => N9 p (by rw [List.mem_singleton.mp hp]; exact .head _)) ⟨_, _, _, rfl, rfl⟩
end
section
open Builtin Builtin.Bytes
variable {prog : Program} {w : World} {A : Around} {E : Value → Shared → Prop} {s : Shared}
theorem slot_bytes_join : Slot "bytes" "join" "bytes.join" :=
  .of (owner := "bytes") (n := "join") (by rw [typeLookup_type, builtinLookup_eq_fast]; kernel_rfl) (by decide +kernel) (by decide +kernel) (by decide +kernel)
    (by first | exact .inl (by decide +kernel) | exact .inr (by decide +kernel)) (by rw [isSubtype_type]; kernel_rfl)
theorem type_bytes_join : typeOf (.builtin "bytes.join") = pure (.type "method_descriptor") := by show builtinType _ = _; rw [builtinType_eq_fast]; kernel_rfl
theorem entry_bytes_join : entryFor table "bytes.join" = some Builtin.«bytes.join» := entryFor_of_tree (by kernel_rfl)
theorem args_bytes_join (a b : Value) : argsOk "bytes.join" ⟨[a, b], []⟩ := by unfold argsOk; kernel_rfl
theorem method_bytes_join {M : Model} {b : Array UInt8} {t : Tok} {pl : Sem Bool} {Q : Value × List Value → Shared → Prop} (h : Q (.builtin "bytes.join", [.bytes b t]) s) : wpAny M A (getMethod (.bytes b t) "join" pl) Q E s :=
  getMethod_builtin (typeIs_bytes _ _ _) FB.plainAttrs_bytes slot_bytes_join type_bytes_join (fun _ e => nomatch e) h
noncomputable def bvals (bs : List (Array UInt8 × Tok)) : List Value := bs.map fun p => .bytes p.1 p.2
noncomputable def btake (bs : List (Array UInt8 × Tok)) : List (Value × Option Value) := bs.map fun p => (.bytes p.1 p.2, none)
theorem btake_any (bs : List (Array UInt8 × Tok)) : (btake bs).any (·.1.onHeap) = false := by
  unfold btake
  rw [List.any_map, List.any_eq_false]
  intro x _
  simp [Value.onHeap]
theorem joinLetGo_pure {M : Model} : ∀ (bs : List (Array UInt8 × Tok)) (keep : List Value) (s : Shared) {Q : Unit → Shared → Prop}, Q () s → wpAny M A (joinLetGo (btake bs) keep) Q E s
  | [], keep, s, Q, h => wpAny_pure h
  | p :: bs, keep, s, Q, h => by
    show wpAny M A (joinLetGo ((Value.bytes p.1 p.2, none) :: btake bs) keep) Q E s
    unfold joinLetGo
    dsimp only
    refine wpAny_bind (wpAny_letGo ?_)
    exact joinLetGo_pure bs keep s h
theorem call_bytes_join {l : Addr} {n : Nat} {t : Tok} {bs : List (Array UInt8 × Tok)} {Q : Value → Shared → Prop} (hl : s.heap.get? l = some { cls := .type "list", data := .seq (bvals bs).toArray n })
    (hsz : (bs.map (·.1)).toArray.foldl (fun (n : Nat) (b : Array UInt8) => n + b.size) 0 ≤ 1000000) (hj : (joined #[] (bs.map (·.1))).size ≤ 1000000) (h : ∀ t' k, Q (.bytes (joined #[] (bs.map (·.1))) t') { s with toks := k }) :
    wpAny (model prog w) A (call (.builtin "bytes.join") [.bytes #[] t, .ref l]) Q E s := by
  have hT : s.TypeIs (.bytes #[] t) "bytes" := typeIs_bytes _ _ _
  have hTl : s.TypeIs (.ref l) "list" := ⟨_, hl, rfl⟩
  refine wpAny_call (codeAny_call_builtin slot_bytes_join.plain entry_bytes_join (slot_bytes_join.check _ _ _ _ _ _ _ _ hT (args_bytes_join _ _) ?_))
  unfold Builtin.«bytes.join» joinM
  dsimp only
  refine wpAny_bind (wpAny_pure ?_)
  refine wpAny_bind ?_
  unfold joinItems
  refine wpAny_bind (wpAny_typeOf hTl ?_)
  rw [if_pos (by decide)]
  refine wpAny_pure ?_
  refine wpAny_bind (wpAny_seqItems hl rfl ?_)
  have comb : ∀ {P G : Prop}, (P → G) → P → G := fun f x => f x
  refine comb (P := ?P) (fun key => ?main) ?pf
  case main =>
    rcases hbs : bs with _ | ⟨p, _ | ⟨q, r⟩⟩
    rotate_left
    · show wpAny _ _ (rule "bytes.join.one-item" >>= fun _ => ret (.bytes p.1 p.2)) _ _ _
      refine wpAny_bind (wpAny_rule (wpAny_pure ?_))
      subst hbs
      have := h p.2 s.toks
      have e : joined #[] [p.1] = p.1 := by unfold joined; simp
      rw [show ([p] : List (Array UInt8 × Tok)).map (·.1) = [p.1] from rfl, e] at this
      exact this
    all_goals (
      refine wpAny_bind ?_
      rw [Std.Legacy.Range.forIn_eq_forIn_range']
      simp only [Std.Legacy.Range.size, Nat.sub_zero, Nat.add_sub_cancel, Nat.div_one]
      rw [← hbs]
      clear hbs
      exact key)
  case pf =>
    have hn : (bvals bs).toArray.size = bs.length := by simp [bvals]
    rw [hn]
    refine wpAny_forIn_list _ (fun rest b s' => ∃ i, s' = s ∧ rest = List.range' i (bs.length - i) ∧ i ≤ bs.length ∧ b = (((bs.take i).map (·.1)).toArray, btake (bs.take i))) _ ?_ ?_ _ _ ⟨0, rfl, rfl, Nat.zero_le _, rfl⟩
    · rintro x rest b s' ⟨i, rfl, hr, hi, rfl⟩
      have hlt : i < bs.length := by
        rcases Nat.lt_or_ge i bs.length with h | h
        · exact h
        · rw [Nat.sub_eq_zero_of_le h] at hr; simp at hr
      obtain ⟨rfl, hrest⟩ : x = i ∧ rest = List.range' (i + 1) (bs.length - (i + 1)) := by
        have e : bs.length - i = (bs.length - (i + 1)) + 1 := by omega
        rw [e, List.range'_succ] at hr
        injection hr with h1 h2
        exact ⟨h1, h2⟩
      refine wpAny_bind (wpAny_seqItems hl rfl ?_)
      have hx : (bvals bs).toArray.getD x Value.none = .bytes bs[x].1 bs[x].2 := by
        simp [bvals, Array.getD, hlt]
      dsimp only
      rw [btake_any, hx]
      show wpAny _ _ (holding _ (takeBufferQuiet? _ (.bytes bs[x].1 bs[x].2) 0) >>= _) _ _ _
      refine wpAny_bind (wpAny_holding ?_)
      rw [bytes_take']
      refine wpAny_pure ?_
      dsimp only
      refine wpAny_bind (wpAny_seqItems hl rfl ?_)
      dsimp only
      rw [hn, if_neg (by simp)]
      refine wpAny_pure ⟨x + 1, rfl, hrest, hlt, ?_⟩
      have e1 : bs.take (x + 1) = bs.take x ++ [bs[x]] := by rw [List.take_add_one, List.getElem?_eq_getElem hlt]; rfl
      rw [e1]
      unfold btake
      rw [List.map_append, List.map_append, List.push_toArray]
      rfl
    · rintro b s' ⟨i, rfl, hr, hi, rfl⟩
      have hin : i = bs.length := by
        rcases Nat.lt_or_ge i bs.length with h | h
        · rw [show bs.length - i = (bs.length - (i + 1)) + 1 by omega, List.range'_succ] at hr
          cases hr
        · omega
      subst hin
      rw [List.take_length]
      dsimp only
      unfold payload payload?
      refine wpAny_bind (wpAny_bind (wpAny_pure (wpAny_pure ?_)))
      rw [show (#[] : Array UInt8).size = 0 from rfl, Nat.zero_mul, if_neg (by unfold tooLong; rw [sizeLine_eq]; exact fun e => absurd (of_decide_eq_true e) (by omega))]
      refine wpAny_bind (wpAny_mkBytes ?_ (by rw [sizeLine_eq]; omega))
      refine wpAny_bind (wpAny_holding (wpAny_point ?_))
      refine wpAny_bind (joinLetGo_pure _ _ _ ?_)
      exact wpAny_pure (h _ _)
end
theorem joined_fold : ∀ (ps : List (Array UInt8)) (k : Nat) (acc : Array UInt8), ((ps.zipIdx k).foldl (fun out (p, i) => (if i > 0 then out ++ (#[] : Array UInt8) else out) ++ p) acc).toList = acc.toList ++ ps.flatMap Array.toList
  | [], k, acc => by simp
  | p :: ps, k, acc => by
    rw [List.zipIdx_cons, List.foldl_cons, joined_fold ps]
    simp
theorem joined_list (ps : List (Array UInt8)) : (Builtin.Bytes.joined #[] ps).toList = ps.flatMap Array.toList := by
  unfold Builtin.Bytes.joined
  rw [joined_fold]
  rfl
noncomputable def gr (ns : List Int) (j : Nat) : List Int := (ns.drop (4 * j)).take 4
theorem gr_slice (ns : List Int) (i : Nat) : List.take (min (0 + (i : Int) * 4 + 4).toNat ns.length - (0 + (i : Int) * 4).toNat) (List.drop (0 + (i : Int) * 4).toNat ns) = gr ns i := by
  rw [show (0 + (i : Int) * 4).toNat = 4 * i by omega, show (0 + (i : Int) * 4 + 4).toNat = 4 * i + 4 by omega, gr]
  by_cases q : 4 * i + 4 ≤ ns.length
  · rw [Nat.min_eq_left q, Nat.add_sub_cancel_left]
  · rw [Nat.min_eq_right (by omega), List.take_of_length_le (by simp), List.take_of_length_le (by simp; omega)]
theorem gr_ne1 {ns : List Int} {i : Nat} (h : 4 * i + 2 ≤ ns.length) : ¬ ((List.take (min (0 + (i : Int) * 4 + 4).toNat ns.length - (0 + (i : Int) * 4).toNat) (List.drop (0 + (i : Int) * 4).toNat ns)).length : Int) = 1 := by
  rw [gr_slice, gr, List.length_take, List.length_drop]
  omega
noncomputable def pdB (ns : List Int) (j : Nat) : Array UInt8 := byteArr ((List.range ((gr ns j).length - 1)).map (goB (gr ns j)))
noncomputable def pdR (ns : List Int) : Array UInt8 := Builtin.Bytes.joined #[] ((List.range ((ns.length + 3) / 4)).map (pdB ns))
theorem rangeSize_4 (n : Nat) : Builtin.Range.rangeSize 0 (n : Int) 4 = (((n + 3) / 4 : Nat) : Int) := by
  unfold Builtin.Range.rangeSize
  rw [if_pos (by decide)]
  split <;> omega
theorem small_4 {n : Nat} (h : n ≤ 1000) : Builtin.Range.small 0 (n : Int) 4 = true := by
  unfold Builtin.Range.small
  rw [rangeSize_4, if_pos (by decide), fitsL (by omega) (by omega), fitsL (by omega) (by omega), fitsL (by omega) (by omega), fitsL (by omega) (by omega), fitsL (by omega) (by omega), Bool.or_true]
  rfl
theorem fold_sizes : ∀ (l : List (Array UInt8)) (a : Nat), (∀ b ∈ l, b.size ≤ 3) → l.foldl (fun (n : Nat) (b : Array UInt8) => n + b.size) a ≤ a + 3 * l.length
  | [], a, _ => by simp
  | b :: l, a, h => by
    have h1 := h b (.head _)
    have := fold_sizes l (a + b.size) fun c hc => h c (.tail _ hc)
    rw [List.foldl_cons, List.length_cons]
    omega
theorem flat_sizes : ∀ (l : List (Array UInt8)), (∀ b ∈ l, b.size ≤ 3) → (l.flatMap Array.toList).length ≤ 3 * l.length
  | [], _ => by simp
  | b :: l, h => by
    have h1 := h b (.head _)
    have := flat_sizes l fun c hc => h c (.tail _ hc)
    rw [List.flatMap_cons, List.length_append, Array.length_toList, List.length_cons]
    omega
section
variable {prog : Program} {w : World} {A : Around} {s : Shared} {mean : ExcName → Option Value} {mg mb : PySem.Str → Option Value}
structure PdJ (ns : List Int) (r f : Addr) (its : Array Value) (k : Nat) (tl : List (Addr × Obj)) (i : Nat) (m : PySem.Str → Option Value) (news : List (Addr × Obj)) : Prop where
  wr : m (PySem.Str.ofString "worth_row") = some (.ref r)
  fo : m (PySem.Str.ofString "found") = some (.ref f)
  nw : ∃ bs k2, news = (f, W.listOf (bvals bs).toArray k2) :: (r, W.listOf its k) :: tl ∧ bs.map (·.1) = (List.range i).map (pdB ns)
theorem part_decoded_does (C : Cx w mean mg mb s.heap) (o : Array UInt8) (ho : o.size ≤ 40) (hc : ∀ c, c ∈ o.toList → SH.contains c = true) (hok : ∀ j, j < (o.size + 3) / 4 → 2 ≤ (gr (o.toList.map wv) j).length ∧ goS (gr (o.toList.map wv) j) = 0) (t t1 : Tok) :
    Does prog w 2 102 [.bytes o t, .bytes SH t1] s (fun v _ => ∃ t, v = .bytes (pdR (o.toList.map wv)) t) (fun _ _ => False) := by
  intro Q E hR hX
  obtain ⟨ns, hns⟩ : ∃ ns, o.toList.map wv = ns := ⟨_, rfl⟩
  have hnl : ns.length = o.size := by rw [← hns]; simp
  have hn40 : ns.length ≤ 40 := by omega
  have hns64 : ∀ k ∈ ns, 0 ≤ k ∧ k < 64 := by
    intro k hk
    rw [← hns] at hk
    obtain ⟨c, hc', rfl⟩ := List.mem_map.mp hk
    obtain ⟨j, hj, e, _⟩ := wv_ok (hc c hc')
    rw [e]; omega
  rw [hns] at hok hR
  walk_at "mine fill"
  walk_at "mine enter"
  repeat' (
    (fail_if_success (with_reducible show wpAny _ _ (call (Value.ref 71) _ _) _ _ _))
    first | (k_unfold; (try dsimp only)) | walk1 | (dsimp only; walk1) | (leave1; (try dsimp only)) | fail "no step")
  rename_i h5 F5 N5 X5 T5
  k_dflt (refine' useN2 (fun C => worth_table_does C _) F5 N5 (by assumption) (by assumption) rfl (Nat.le_of_ble_eq_true rfl) (Nat.le_of_ble_eq_true rfl) ?_ (fun _ _ _ _ _ _ hf => hf.elim))
  intro v6 nw6 h6 tk6 F6 N6 k6 r6
  obtain ⟨d, od, ps, rfl, rfl, hlo, hdo, hW⟩ := r6
  simp only [List.cons_append, List.nil_append] at N6
  walk_at "mine steps"
  k_dflt (refine' useN2 (fun C => part_numbers_does C o (by omega) hc _ d ps (kda_dict N6 (.head _) hdo) hW hlo) F6 N6 (by assumption) (by assumption) rfl (Nat.le_of_ble_eq_true rfl) (Nat.le_of_ble_eq_true rfl) ?_ (fun _ _ _ _ _ _ hf => hf.elim))
  intro v8 nw8 h8 tk8 F8 N8 k8 r8
  obtain ⟨a8, its, k8', rfl, rfl, hI⟩ := r8
  rw [hns] at hI
  simp only [List.cons_append, List.nil_append] at N8
  have hsz : its.size = ns.length := by rw [← hI.length, Array.length_toList]
  walk_at "mine steps"
  all_goals walk_at "mine tidy"
  rename a8 < _ ∧ d < _ => hlt10
  refine loop_range (n := (ns.length + 3) / 4) (PdJ ns a8 _ its k8' [(d, od)]) rfl (by assumption) (small_4 (by omega)) (rangeSize_4 _) (by assumption) (by assumption) ⟨rfl, rfl, ⟨[], _, rfl, rfl⟩⟩ ?_ ?_
  · intro i k m₁ news₁ h tk own hi ha' hoff hJ F N
    obtain ⟨h1, h2, bs, k2, rfl, hB⟩ := hJ
    have F := Mine.Fr.named F [(PySem.Str.ofString "worth_row", _), (PySem.Str.ofString "found", _)] (by intro p hp; simp only [List.mem_cons, List.not_mem_nil, or_false] at hp; rcases hp with rfl | rfl; exact h1; exact h2)
    have h4i : 4 * i < ns.length := by omega
    have hbl : bs.length = i := by have := congrArg List.length hB; simpa using this
    obtain ⟨hg2, hg0⟩ := hok i (by omega)
    have hgl : (gr ns i).length = min 4 (ns.length - 4 * i) := by rw [gr, List.length_take, List.length_drop]
    have hn2 : 4 * i + 2 ≤ ns.length := by omega
    have hbl2 : (bvals bs).length ≤ 40 := by rw [bvals, List.length_map]; omega
    repeat' (
    (fail_if_success (with_reducible show wpAny _ _ (call (Value.ref 81) _ _) _ _ _))
    first | (k_unfold; (try dsimp only)) | walk1 | (dsimp only; walk1) | (leave1; (try dsimp only)) | fail "no step")
    · exact absurd (by with_reducible assumption) (gr_ne1 hn2)
    rename_i D ws _ _ _ hlt9 hI9 _ _ _ F9 N9 _
    rw [gr_slice] at hI9
    have hgk : ∀ k ∈ gr ns i, 0 ≤ k ∧ k < 64 := fun k hk => hns64 k (List.mem_of_mem_drop (List.mem_of_mem_take hk))
    k_dflt (refine' useN2 (fun C => group_octets_does C D ws.toArray (gr ns i) ⟨_, (N9 _ (.head _)).1, rfl, _, rfl⟩ hI9 hg2 (by rw [hgl]; exact Nat.min_le_left _ _) hgk) F9 N9 (by assumption) (by assumption) rfl (Nat.le_of_ble_eq_true rfl) (Nat.le_of_ble_eq_true rfl) ?_ (fun _ _ _ _ _ _ hf => hf.elim))
    intro v7 nw7 h7 tk7 F7 N7 k7 r7
    obtain ⟨a7, tA, tB, rfl, rfl⟩ := r7
    rw [hg0] at N7
    simp only [List.cons_append, List.nil_append] at N7
    walk_at "mine steps"
    all_goals walk_at "mine tidy"
    rename_i F10 N10 _
    refine PyProof.Rows.append_in (own := [(a7, _), (D, _)]) (ys := bvals bs) F10 N10 ?_ ?_ ?_ (by rw [sizeLine_eq]; omega)
    · intro p hp
      simp only [List.mem_cons, List.not_mem_nil, or_false] at hp
      rcases hp with rfl | rfl
      · exact k7 _ (.head _) _ (.tail _ (.head _))
      · exact Nat.ne_of_gt (hlt9 _ (.head _))
    · intro p hp
      simp only [List.mem_cons] at hp
      rcases hp with rfl | rfl | hp
      · exact Nat.ne_of_lt hlt10.1
      · exact Nat.ne_of_lt hlt10.2
      · exact hoff p hp _ (.head _)
    intro h11 F11 N11
    walk_at "mine steps"
    all_goals walk_at "mine tidy"
    refine InvEndN.intro (nx := [(_, W.listOf (bvals bs ++ [Value.bytes (pdB ns i) tA]).toArray (k2 + 1)), (_, _), (_, _)]) F11 (fun p hp => N11 p (.tail _ (.tail _ hp))) ⟨rfl, rfl, ⟨bs ++ [(pdB ns i, tA)], k2 + 1, ?_, ?_⟩⟩ rfl (fun p hp => ?_) (fun p hp => ?_)
    · rw [show bvals (bs ++ [(pdB ns i, tA)]) = bvals bs ++ [Value.bytes (pdB ns i) tA] by unfold bvals; rw [List.map_append]; rfl]
    · rw [List.map_append, hB, List.range_succ, List.map_append]
      rfl
    · simp only [List.mem_cons, List.not_mem_nil, or_false] at hp
      rcases hp with rfl | rfl | rfl
      · exact .head _
      · exact .tail _ (.head _)
      · exact .tail _ (.tail _ (.head _))
    · exact .tail _ (.tail _ (.tail _ hp))
  · intro m₁ news₁ h tk hJ F N
    obtain ⟨h1, h2, bs, k2, rfl, hB⟩ := hJ
    have F := Mine.Fr.named F [(PySem.Str.ofString "worth_row", _), (PySem.Str.ofString "found", _)] (by intro p hp; simp only [List.mem_cons, List.not_mem_nil, or_false] at hp; rcases hp with rfl | rfl; exact h1; exact h2)
    walk_at "mine steps"
    refine method_bytes_join ?_
    walk_at "mine steps"
    have ho14 : (ns.length + 3) / 4 ≤ 11 := by omega
    have hBs : ∀ b ∈ bs.map (·.1), b.size ≤ 3 := by
      rw [hB]
      intro b hb
      obtain ⟨j, _, rfl⟩ := List.mem_map.mp hb
      rw [pdB, byteArr_size, List.length_map, List.length_range, gr, List.length_take]
      omega
    have hBl : (bs.map (·.1)).length ≤ 11 := by rw [hB, List.length_map, List.length_range]; exact ho14
    refine call_bytes_join (bs := bs) (N _ (.head _)).1 ?_ ?_ ?_
    · have := fold_sizes (bs.map (·.1)) 0 hBs
      rw [List.foldl_toArray]
      omega
    · have := flat_sizes (bs.map (·.1)) hBs
      rw [← Array.length_toList, joined_list]
      omega
    intro t' k'
    walk_at "mine tidy"
    rw [hB]
    exact hR _ _ _ (keepsF F) ⟨_, rfl⟩
end
noncomputable def jnw (sep : List Nat) : List (List Nat) → List Nat
  | [] => []
  | [x] => x
  | x :: y :: r => x ++ sep ++ jnw sep (y :: r)
theorem str_join_S (sep : List Nat) : ∀ ls : List (List Nat), PySem.Str.join (S sep) (ls.map S) = S (jnw sep ls)
  | [] => rfl
  | [x] => rfl
  | x :: y :: r => by
    have ih := str_join_S sep (y :: r)
    show S x ++ S sep ++ PySem.Str.join (S sep) ((y :: r).map S) = _
    rw [ih, S_app, S_app]
    rfl
theorem txt_join_S (sep : List Nat) (ls : List (List Nat)) : Txt.join (S sep) (ls.map S) = S (jnw sep ls) := by
  unfold Txt.join
  rw [StrLaws.glued_eq_join]
  exact str_join_S sep ls
theorem jnw_nil : ∀ ls : List (List Nat), jnw [] ls = ls.flatten
  | [] => rfl
  | [x] => by simp [jnw]
  | x :: y :: r => by
    rw [jnw, jnw_nil (y :: r)]
    simp
theorem lit_empty : PySem.Str.ofString "" = S [] := by decide +kernel
theorem sum_len_S (ls : List (List Nat)) : ((ls.map S).map (·.length)).sum = ls.flatten.length := by
  induction ls with
  | nil => rfl
  | cons x r ih =>
    rw [List.map_cons, List.map_cons, List.sum_cons, ih, List.flatten_cons, List.length_append, S_len]
theorem jn_w : ∀ ls : List (List Nat), jn ls = jnw [47] ls
  | [] => rfl
  | [x] => rfl
  | x :: y :: r => by rw [jn, jnw, jn_w (y :: r)]; simp
theorem rangeSize_2 (n : Nat) : Builtin.Range.rangeSize 0 ((2 * n : Nat) : Int) 2 = ((n : Nat) : Int) := by
  unfold Builtin.Range.rangeSize
  rw [if_pos (by decide)]
  split <;> omega
theorem small_2 {n : Nat} (h : n ≤ 1000) : Builtin.Range.small 0 ((2 * n : Nat) : Int) 2 = true := by
  unfold Builtin.Range.small
  rw [rangeSize_2, if_pos (by decide), fitsL (by omega) (by omega), fitsL (by omega) (by omega), fitsL (by omega) (by omega), fitsL (by omega) (by omega), fitsL (by omega) (by omega), Bool.or_true]
  rfl
theorem U_at : ∀ {n i : Nat}, i < n → (U n)[2 * i]? = some 0 ∧ (U n)[2 * i + 1]? = some 233
  | 0, _, h => absurd h (Nat.not_lt_zero _)
  | n + 1, 0, _ => by unfold U; rw [List.replicate_succ, List.flatten_cons]; exact ⟨rfl, rfl⟩
  | n + 1, i + 1, h => by
    have := U_at (n := n) (i := i) (by omega)
    unfold U at *
    rw [List.replicate_succ, List.flatten_cons]
    rw [show 2 * (i + 1) = 2 * i + 2 by omega, show 2 * i + 2 + 1 = (2 * i + 1) + 2 by omega]
    exact this
theorem flat_rep (c : Nat) : ∀ n, (List.replicate n [c]).flatten = List.replicate n c
  | 0 => rfl
  | n + 1 => by rw [List.replicate_succ, List.flatten_cons, flat_rep c n]; rfl
section
variable {prog : Program} {w : World} {A : Around} {s : Shared} {mean : ExcName → Option Value} {mg mb : PySem.Str → Option Value}
structure UtJ (raw : Array UInt8) (b : Int) (t tb : Tok) (a : Addr) (i : Nat) (m : PySem.Str → Option Value) (news : List (Addr × Obj)) : Prop where
  ra : m (PySem.Str.ofString "raw") = some (.bytes raw t)
  be : m (PySem.Str.ofString "begin") = some (.int b tb)
  si : m (PySem.Str.ofString "signs") = some (.ref a)
  hi : ∃ t, m (PySem.Str.ofString "high") = some (.int 0 t)
  nw : ∃ its k, news = [(a, W.listOf its k)] ∧ StrsAre its.toList (List.replicate i (S [233]))
theorem units_text_does (C : Cx w mean mg mb s.heap) (n : Nat) (hn : n ≤ 100) (b : Int) (hb : 0 ≤ b) (hb2 : b ≤ 1000) (t tb : Tok) :
    Does prog w 2 156 [.bytes (U n).toArray t, .int b tb] s (fun v _ => ∃ t, v = .str (S (List.replicate n 233)) t) (fun _ _ => False) := by
  intro Q E hR hX
  obtain ⟨raw, hraw⟩ : ∃ raw, (U n).toArray = raw := ⟨_, rfl⟩
  obtain ⟨ks, hks⟩ : ∃ ks, KBw.bInts raw = ks := ⟨_, rfl⟩
  have hkl : ks.length = 2 * n := by rw [← hks, KBw.ints_length, ← hraw, List.size_toArray, U_len]
  have hk30 : ks.length ≤ 10000 := by omega
  rw [hraw]
  walk_at "mine go"
  rw [hkl] at *
  refine loop_range (n := n) (UtJ raw b t tb _) rfl (by assumption) (small_2 (by omega)) (rangeSize_2 _) (by assumption) (by assumption) ⟨rfl, rfl, rfl, ⟨_, rfl⟩, ⟨_, _, rfl, .nil⟩⟩ ?_ ?_
  · intro i k m₁ news₁ h tk own hi ha' hoff hJ F N
    obtain ⟨h1, h2, h3, ⟨th, h4⟩, its, k2, rfl, hS⟩ := hJ
    have F := Mine.Fr.named F [(PySem.Str.ofString "raw", _), (PySem.Str.ofString "begin", _), (PySem.Str.ofString "signs", _), (PySem.Str.ofString "high", _)] (by intro p hp; simp only [List.mem_cons, List.not_mem_nil, or_false] at hp; rcases hp with rfl | rfl | rfl | rfl; exact h1; exact h2; exact h3; exact h4)
    have hil : its.size ≤ 1000 := by have := strsAre_len hS; rw [Array.length_toList, List.length_replicate] at this; omega
    have hkl' : ks.length = 2 * n := by rw [← hks, KBw.ints_length, ← hraw, List.size_toArray, U_len]
    have e1 : ks.getD (0 + (i : Int) * 2).toNat 0 = 0 := by
      rw [← hks, ← hraw, show (0 + (i : Int) * 2).toNat = 2 * i by omega]
      have := bInts_at (o := (U n).toArray) (i := 2 * i) (c := 0) (by simpa using (U_at hi).1)
      simpa using this
    have e2 : ks.getD (0 + (i : Int) * 2 + 1).toNat 0 = 233 := by
      rw [← hks, ← hraw, show (0 + (i : Int) * 2 + 1).toNat = 2 * i + 1 by omega]
      have := bInts_at (o := (U n).toArray) (i := 2 * i + 1) (c := 233) (by simpa using (U_at hi).2)
      simpa using this
    walk_at "mine steps"
    all_goals walk_at "mine tidy"
    rename_i F5 N5
    refine InvEndN.intro (nx := [(_, W.listOf (its.push (Value.str { cps := #[(ks.getD (0 + (i : Int) * 2).toNat 0 * 256 + ks.getD (0 + (i : Int) * 2 + 1).toNat 0).toNat] } _)) (k2 + 1))]) F5 N5 ⟨rfl, rfl, rfl, ⟨_, rfl⟩, ⟨_, k2 + 1, rfl, ?_⟩⟩ rfl (fun p hp => by rw [List.mem_singleton.mp hp]; exact .head _) (fun p hp => List.mem_cons_of_mem _ hp)
    rw [Array.toList_push, List.replicate_succ', e1, e2]
    exact strsAre_app hS (.cons _ _ .nil)
  · intro m₁ news₁ h tk hJ F N
    obtain ⟨h1, h2, h3, ⟨th, h4⟩, its, k2, rfl, hS⟩ := hJ
    have F := Mine.Fr.named F [(PySem.Str.ofString "raw", _), (PySem.Str.ofString "begin", _), (PySem.Str.ofString "signs", _), (PySem.Str.ofString "high", _)] (by intro p hp; simp only [List.mem_cons, List.not_mem_nil, or_false] at hp; rcases hp with rfl | rfl | rfl | rfl; exact h1; exact h2; exact h3; exact h4)
    walk_at "mine steps"
    all_goals walk_at "mine tidy"
    have hS' : StrsAre its.toList ((List.replicate n [233]).map S) := by rw [List.map_replicate]; exact hS
    refine join_list (News.isList N (.head _)) hS' ?_ ?_
    · rw [sum_len_S, flat_rep, List.length_replicate]
      show n + _ * 0 ≤ _
      omega
    intro t' k'
    walk_at "mine tidy"
    rw [lit_empty, txt_join_S, jnw_nil, flat_rep]
    exact hR _ _ _ (keepsF F) ⟨_, rfl⟩
end
theorem enc_facts : ∀ n : Fin 8, (enc n.val).size ≤ 40 ∧ ((enc n.val).toList.all fun c => SH.contains c) = true ∧
    ((List.range (((enc n.val).size + 3) / 4)).all fun j => decide (2 ≤ (gr ((enc n.val).toList.map wv) j).length) && decide (goS (gr ((enc n.val).toList.map wv) j) = 0)) = true ∧
    pdR ((enc n.val).toList.map wv) = (U n.val).toArray := by decide +kernel
theorem enc_ok {n : Nat} (h : n ≤ 7) : (enc n).size ≤ 40 ∧ (∀ c, c ∈ (enc n).toList → SH.contains c = true) ∧
    (∀ j, j < ((enc n).size + 3) / 4 → 2 ≤ (gr ((enc n).toList.map wv) j).length ∧ goS (gr ((enc n).toList.map wv) j) = 0) ∧ pdR ((enc n).toList.map wv) = (U n).toArray := by
  obtain ⟨h1, h2, h3, h4⟩ := enc_facts ⟨n, by omega⟩
  refine ⟨h1, fun c hc => List.all_eq_true.mp h2 c hc, fun j hj => ?_, h4⟩
  have := List.all_eq_true.mp h3 j (List.mem_range.mpr hj)
  rw [Bool.and_eq_true] at this
  exact ⟨of_decide_eq_true this.1, of_decide_eq_true this.2⟩
theorem bInts_inj {a b : Array UInt8} (h : KBw.bInts a = KBw.bInts b) : a = b := by
  apply Array.ext'
  unfold KBw.bInts at h
  have inj : ∀ {x y : List UInt8}, x.map (fun b => (b.toNat : Int)) = y.map (fun b => (b.toNat : Int)) → x = y := by
    intro x
    induction x with
    | nil => intro y h; cases y with
      | nil => rfl
      | cons => cases h
    | cons c x ih => intro y h; cases y with
      | nil => cases h
      | cons d y =>
        simp only [List.map_cons, List.cons.injEq] at h
        have : c.toNat = d.toNat := by omega
        rw [UInt8.toNat_inj.mp this, ih h.2]
  exact inj h
section
variable {prog : Program} {w : World} {A : Around} {s : Shared} {mean : ExcName → Option Value} {mg mb : PySem.Str → Option Value}
theorem shifted_text_does (C : Cx w mean mg mb s.heap) (o : Array UInt8) (ho : o.size ≤ 1000) (b e n : Nat) (hn : n ≤ 7) (hbe : b ≤ e) (heo : e ≤ o.size) (hsl : (o.toList.drop b).take (e - b) = (enc n).toList) (t tb te : Tok) :
    Does prog w 3 163 [.bytes o t, .int (b : Int) tb, .int (e : Int) te] s (fun v _ => ∃ t, v = .str (S (List.replicate n 233)) t) (fun _ _ => False) := by
  intro Q E hR hX
  obtain ⟨ks, hks⟩ : ∃ ks, KBw.bInts o = ks := ⟨_, rfl⟩
  have hkl : ks.length = o.size := by rw [← hks, KBw.ints_length]
  have hk30 : ks.length ≤ 10000 := by omega
  walk_at "mine fill"
  walk_at "mine enter"
  repeat' (
    (fail_if_success (with_reducible show wpAny _ _ (call (Value.ref 102) _ _) _ _ _))
    first | (k_unfold; (try dsimp only)) | walk1 | (dsimp only; walk1) | (leave1; (try dsimp only)) | fail "no step")
  rename KBw.bInts (KBy.picked o _ _) = _ => hpk
  rename_i F5 N5
  have hp : KBy.picked o (some (b : Int)) (some (e : Int)) = enc n := by
    apply bInts_inj
    rw [hpk, Nat.min_eq_left (by omega : e ≤ ks.length), Nat.min_eq_left (by omega : b ≤ ks.length), ← hks]
    unfold KBw.bInts
    rw [← hsl, List.map_take, List.map_drop]
  obtain ⟨g1, g2, g3, g4⟩ := enc_ok hn
  rw [hp]
  clear hpk
  k_dflt (refine' use (fun C => part_decoded_does C (enc n) g1 g2 g3 _ _) F5 N5 (by assumption) (by assumption) rfl (Nat.le_of_ble_eq_true rfl) (Nat.le_of_ble_eq_true rfl) ?_ (fun _ _ _ _ _ _ hf => hf.elim))
  rintro v6 h6 tk6 F6 N6 k6 ⟨t6, rfl⟩
  rw [g4]
  have hU : (U n).toArray.size = 2 * n := by rw [List.size_toArray, U_len]
  repeat' (
    (fail_if_success (with_reducible show wpAny _ _ (call (Value.ref 156) _ _) _ _ _))
    first | (k_unfold; (try dsimp only)) | walk1 | (dsimp only; walk1) | (leave1; (try dsimp only)) | fail "no step")
  · exfalso
    rename Int.fmod _ _ = 1 => hm
    rw [hU, Int.fmod_eq_emod_of_nonneg _ (by decide)] at hm
    omega
  rename_i F7 N7 _ _
  k_dflt (refine' use (fun C => units_text_does C n (by omega) (b : Int) (by omega) (by omega) _ _) F7 N7 (by assumption) (by assumption) rfl (Nat.le_of_ble_eq_true rfl) (Nat.le_of_ble_eq_true rfl) ?_ (fun _ _ _ _ _ _ hf => hf.elim))
  rintro v8 h8 tk8 F8 N8 k8 ⟨t8, rfl⟩
  walk_at "mine tidy"
  exact hR _ _ _ (keepsF F8) ⟨_, rfl⟩
end
theorem drop_at {l : List Nat} {i c : Nat} (h : l[i]? = some c) : l.drop i = c :: l.drop (i + 1) := by
  obtain ⟨hi, e⟩ := List.getElem?_eq_some_iff.mp h
  rw [List.drop_eq_getElem_cons hi, e]
theorem run_at {l : List Nat} {i c : Nat} (h : l[i]? = some c) (hp : ¬ plainC c = true) : runLen (l.drop i) = runLen (l.drop (i + 1)) + 1 := by
  rw [drop_at h, runLen, List.takeWhile_cons, if_pos (by simpa using hp), List.length_cons]; rfl
theorem u7_plain {l : List Nat} {i c : Nat} (h : l[i]? = some c) (hp : plainC c = true) : u7 (l.drop i) = c.toUInt8 :: u7 (l.drop (i + 1)) := by
  rw [drop_at h, u7, if_pos hp]
theorem u7_run {l : List Nat} {i c : Nat} (h : l[i]? = some c) (hp : ¬ plainC c = true) :
    u7 (l.drop i) = 38 :: ((enc (runLen (l.drop i))).toList ++ 45 :: u7 (l.drop (i + runLen (l.drop i)))) := by
  have e8 : (l.drop (i + 1)).drop (runLen (l.drop (i + 1))) = l.drop (i + (runLen (l.drop (i + 1)) + 1)) := by
    rw [List.drop_drop]
    exact congrArg (fun m => l.drop m) (by omega)
  rw [run_at h hp]
  conv => lhs; rw [drop_at h, u7, if_neg hp, e8]
theorem run_le (l : List Nat) : runLen l ≤ l.length := (List.takeWhile_sublist _).length_le
theorem run_stop : ∀ (l : List Nat) (c : Nat), l[runLen l]? = some c → plainC c = true
  | [], c, h => by cases h
  | d :: l, c, h => by
    by_cases q : plainC d = true
    · rw [runLen, List.takeWhile_cons, if_neg (by simpa using q)] at h
      simp only [List.length_nil, List.getElem?_cons_zero, Option.some.injEq] at h
      rw [← h]; exact q
    · rw [runLen, List.takeWhile_cons, if_pos (by simpa using q), List.length_cons, List.getElem?_cons_succ] at h
      exact run_stop l c h
theorem run_stop_at {l : List Nat} {i c : Nat} (h : l[i + runLen (l.drop i)]? = some c) : plainC c = true :=
  run_stop (l.drop i) c (by rw [List.getElem?_drop]; exact h)
theorem run_take {l : List Nat} {i : Nat} (hc : ∀ (i c : Nat), l[i]? = some c → (plainC c = true ∧ c ≠ 38) ∨ c = 233) : (l.drop i).take (runLen (l.drop i)) = List.replicate (runLen (l.drop i)) 233 := by
  have hle := run_le (l.drop i)
  refine List.ext_getElem? fun j => ?_
  rcases Nat.lt_or_ge j (runLen (l.drop i)) with hj | hj
  · have := run_codes hc (i := i) j hj
    rw [List.getElem?_take_of_lt hj, List.getElem?_drop, this, List.getElem?_replicate, if_pos hj]
  · rw [List.getElem?_eq_none (by rw [List.length_take]; omega), List.getElem?_eq_none (by rw [List.length_replicate]; omega)]
theorem u7_len : ∀ (k : Nat) (l : List Nat), l.length ≤ k → (u7 l).length ≤ 20 * l.length
  | k, [], _ => by rw [u7]; exact Nat.zero_le _
  | 0, c :: r, h => by simp at h
  | k + 1, c :: r, h => by
    rw [List.length_cons] at h
    rw [u7]
    split
    · have := u7_len k r (by omega)
      rw [List.length_cons, List.length_cons]; omega
    · have h1 := u7_len k (r.drop (runLen r)) (by rw [List.length_drop]; omega)
      have h2 := run_le r
      have h3 := enc_size (runLen r + 1)
      rw [List.length_drop] at h1
      rw [List.length_cons, List.length_append, List.length_cons, Array.length_toList, List.length_cons]
      omega
theorem enc_pos : ∀ n : Fin 8, 1 ≤ n.val → 1 ≤ (enc n.val).size := by decide +kernel
theorem enc_pos' {n : Nat} (h1 : 1 ≤ n) (h : n ≤ 7) : 1 ≤ (enc n).size := enc_pos ⟨n, by omega⟩ h1
section
variable {prog : Program} {w : World} {A : Around} {s : Shared} {mean : ExcName → Option Value} {mg mb : PySem.Str → Option Value}
structure UxJ (o : Array UInt8) (t : Tok) (a : Addr) (l : List Nat) (j : Nat × Nat × List (List Nat) × Int) (m : PySem.Str → Option Value) (news : List (Addr × Obj)) : Prop where
  oc : m (PySem.Str.ofString "octets") = some (.bytes o t)
  pi : m (PySem.Str.ofString "pieces") = some (.ref a)
  at' : ∃ t, m (PySem.Str.ofString "at") = some (.int (j.2.1 : Nat) t)
  se : ∃ t, m (PySem.Str.ofString "shift_end") = some (.int j.2.2.2 t)
  nw : ∃ its k, news = [(a, W.listOf its k)] ∧ StrsAre its.toList (j.2.2.1.map S)
  le : j.1 ≤ l.length ∧ o.toList.drop j.2.1 = u7 (l.drop j.1) ∧ j.2.2.1.flatten = l.take j.1 ∧ j.2.2.1.length ≤ j.1 ∧ j.2.2.2 ≤ j.2.1 ∧ j.2.1 ≤ o.size ∧ -1 ≤ j.2.2.2
  st : j.2.2.2 = j.2.1 → ∀ c, l[j.1]? = some c → plainC c = true
theorem utf7_text_does (C : Cx w mean mg mb s.heap) (o : Array UInt8) (ho : o.size ≤ 1000) (l : List Nat) (hl : o.toList = u7 l) (hll : l.length ≤ 100) (hc : ∀ (i c : Nat), l[i]? = some c → (plainC c = true ∧ c ≠ 38) ∨ c = 233) (hr : ∀ i, runLen (l.drop i) ≤ 7) (t : Tok) :
    Does prog w 4 170 [.bytes o t] s (fun v _ => ∃ t, v = .str (S l) t) (fun _ _ => False) := by
  intro Q E hR hX
  obtain ⟨ks, hks⟩ : ∃ ks, KBw.bInts o = ks := ⟨_, rfl⟩
  have hkl : ks.length = o.size := by rw [← hks, KBw.ints_length]
  have hk30 : ks.length ≤ 10000 := by omega
  walk_at "mine go"
  refine while_by (UxJ o t _ l) (fun j => l.length - j.1) (0, 0, [], -1) (by assumption) (by assumption) ⟨rfl, rfl, ⟨_, rfl⟩, ⟨_, rfl⟩, ⟨_, _, rfl, .nil⟩, ⟨Nat.zero_le _, hl, rfl, Nat.le_refl _, by decide, Nat.zero_le _, by decide⟩, fun e => by cases e⟩ ?_
  intro j m₁ news₁ h tk hJ F N
  obtain ⟨i, p, xs, se⟩ := j
  obtain ⟨h1, h2, ⟨t3, h3⟩, ⟨t4, h4⟩, ⟨its, k2, rfl, hS⟩, ⟨g1, g2, g3, g4, g5, g6, g7⟩, hst⟩ := hJ
  dsimp only at h3 h4 hS g1 g2 g3 g4 g5 g6 g7 hst
  have F := Mine.Fr.named F [(PySem.Str.ofString "octets", _), (PySem.Str.ofString "pieces", _), (PySem.Str.ofString "at", _), (PySem.Str.ofString "shift_end", _)] (by intro p hp; simp only [List.mem_cons, List.not_mem_nil, or_false] at hp; rcases hp with rfl | rfl | rfl | rfl; exact h1; exact h2; exact h3; exact h4)
  have hil : its.size ≤ 1000 := by have := strsAre_len hS; rw [Array.length_toList, List.length_map] at this; omega
  rcases Nat.lt_or_ge i l.length with hlt | hge
  · obtain ⟨c, hci⟩ : ∃ c, l[i]? = some c := ⟨_, List.getElem?_eq_getElem hlt⟩
    have hcc := hc i c hci
    by_cases hp : plainC c = true
    · have hc38 : c ≠ 38 := by rcases hcc with ⟨_, a⟩ | a; exact a; rw [a] at hp; cases hp
      have hcr : 32 ≤ c ∧ c ≤ 126 := by simpa [plainC] using hp
      have e7 := u7_plain hci hp
      rw [e7] at g2
      have hop : o[p]? = some c.toUInt8 := by
        have : (o.toList.drop p)[0]? = some c.toUInt8 := by rw [g2]; rfl
        simpa using this
      have hpo : p < o.size := (Array.getElem?_eq_some_iff.mp hop).1
      have hk : ks.getD ((p : Int)).toNat 0 = (c : Int) := by
        rw [← hks, show ((p : Int)).toNat = p by omega, bInts_at hop]
        have : c.toUInt8.toNat = c := by show c % 256 = c; omega
        rw [this]
      walk_at "mine steps"
      all_goals walk_at "mine tidy"
      rotate_left
      · exfalso
        omega
      rename_i F5 N5
      show WNext _ _ _ _ _ _ _
      refine WNext.intro (i + 1, p + 1, xs ++ [[c]], se) F5 N5 (by show _ - _ < _ - _; omega) ⟨rfl, rfl, ⟨_, rfl⟩, ⟨_, rfl⟩, ⟨_, _, rfl, ?_⟩, ⟨by show i + 1 ≤ _; omega, ?_, ?_, ?_, by show se ≤ ((p + 1 : Nat) : Int); omega, by show p + 1 ≤ _; omega, g7⟩, fun e => ?_⟩
      · rw [Array.toList_push, List.map_append, hk, Int.toNat_natCast]
        exact strsAre_app hS (.cons _ _ .nil)
      · show o.toList.drop (p + 1) = u7 (l.drop (i + 1))
        have := congrArg (List.drop 1) g2
        rw [List.drop_drop] at this
        simpa using this
      · show (xs ++ [[c]]).flatten = l.take (i + 1)
        rw [List.flatten_append, g3, List.take_add_one, hci]
        simp
      · show (xs ++ [[c]]).length ≤ i + 1
        rw [List.length_append, List.length_singleton]; omega
      · exfalso
        have e : se = ((p + 1 : Nat) : Int) := e
        omega
    · have hc33 : c = 233 := by rcases hcc with ⟨a, _⟩ | a; exact absurd a hp; exact a
      have e7 := u7_run hci hp
      rw [e7] at g2
      have hop : o[p]? = some 38 := by
        have : (o.toList.drop p)[0]? = some 38 := by rw [g2]; rfl
        simpa using this
      have hpo : p < o.size := (Array.getElem?_eq_some_iff.mp hop).1
      have hk : ks.getD ((p : Int)).toNat 0 = 38 := by rw [← hks]; exact bInts_at hop
      repeat' (
      (fail_if_success (with_reducible show wpAny _ _ (call (Value.ref 149) _ _) _ _ _))
      first | (k_unfold; (try dsimp only)) | walk1 | (dsimp only; walk1) | (leave1; (try dsimp only)) | fail "no step")
      · exfalso
        omega
      rename Fr _ _ _ _ => F5
      rename News _ _ _ _ => N5
      have hn7 := hr i
      have hn1 : 1 ≤ runLen (l.drop i) := by rw [run_at hci hp]; omega
      have hstop := fun c' => run_stop_at (l := l) (i := i) (c := c')
      have htk := run_take hc (i := i)
      have hrl := run_le (l.drop i)
      rw [List.length_drop] at hrl
      generalize runLen (l.drop i) = n at *
      obtain ⟨k1, k2', k3, k4⟩ := enc_ok hn7
      have k5 := enc_pos' hn1 hn7
      have gd : o.toList.drop (p + 1) = (enc n).toList ++ 45 :: u7 (l.drop (i + n)) := by
        have := congrArg (List.drop 1) g2
        rw [List.drop_drop] at this
        simpa using this
      obtain ⟨e, he⟩ : ∃ e, e = p + 1 + (enc n).size := ⟨_, rfl⟩
      have ho1 : o.size = p + 1 + ((enc n).size + (1 + (u7 (l.drop (i + n))).length)) := by
        have := congrArg List.length gd
        rw [List.length_drop, List.length_append, List.length_cons, Array.length_toList, Array.length_toList] at this
        omega
      have hat : ∀ k : Nat, o[p + 1 + k]? = ((enc n).toList ++ 45 :: u7 (l.drop (i + n)))[k]? := by
        intro k
        rw [← gd, List.getElem?_drop]
        simp
      have he45 : o[e]? = some 45 := by
        rw [he, hat, List.getElem?_append_right (by rw [Array.length_toList]; omega), Array.length_toList, Nat.sub_self]
        rfl
      have hsh : ∀ j c, p + 1 ≤ j → j < e → o[j]? = some c → SH.contains c = true := by
        intro j c' h1 h2 h3
        refine k2' c' ?_
        have := hat (j - (p + 1))
        rw [show p + 1 + (j - (p + 1)) = j by omega, h3, List.getElem?_append_left (by rw [Array.length_toList]; omega)] at this
        exact List.mem_of_getElem? this.symm
      have hsl : (o.toList.drop (p + 1)).take (e - (p + 1)) = (enc n).toList := by
        rw [gd, List.take_append_of_le_length (by rw [Array.length_toList]; omega), List.take_of_length_le (by rw [Array.length_toList]; omega)]
      have hse : (p : Int) ≠ se := fun q => hp (hst q.symm c hci)
      have ecast : (p : Int) + 1 = ((p + 1 : Nat) : Int) := rfl
      rw [ecast]
      k_dflt (refine' use (fun C => shift_behind_does C o (by omega) (p + 1) e (by omega) he45 hsh _ _) F5 N5 (by assumption) (by assumption) rfl (Nat.le_of_ble_eq_true rfl) (Nat.le_of_ble_eq_true rfl) ?_ (fun _ _ _ _ _ _ hf => hf.elim))
      rintro v6 h6 tk6 F6 N6 k6 ⟨t6, rfl⟩
      repeat' (
      (fail_if_success (with_reducible show wpAny _ _ (call (Value.ref 163) _ _) _ _ _))
      first | (k_unfold; (try dsimp only)) | walk1 | (dsimp only; walk1) | (leave1; (try dsimp only)) | fail "no step")
      · exfalso
        omega
      · exfalso
        omega
      rename Fr _ _ _ _ => F7
      rename News _ _ _ _ => N7
      rw [ecast]
      k_dflt (refine' use (fun C => shifted_text_does C o (by omega) (p + 1) e n hn7 (by omega) (by omega) hsl _ _ _) F7 N7 (by assumption) (by assumption) rfl (Nat.le_of_ble_eq_true rfl) (Nat.le_of_ble_eq_true rfl) ?_ (fun _ _ _ _ _ _ hf => hf.elim))
      rintro v8 h8 tk8 F8 N8 k8 ⟨t8, rfl⟩
      walk_at "mine steps"
      all_goals walk_at "mine tidy"
      rename Fr _ _ _ _ => F9
      rename News _ _ _ _ => N9
      show WNext _ _ _ _ _ _ _
      refine WNext.intro (i + n, e + 1, xs ++ [List.replicate n 233], ((e + 1 : Nat) : Int)) F9 N9 (by show _ - _ < _ - _; omega) ⟨rfl, rfl, ⟨_, rfl⟩, ⟨_, rfl⟩, ⟨_, _, rfl, ?_⟩, ⟨by show i + n ≤ _; omega, ?_, ?_, ?_, Int.le_refl _, by show e + 1 ≤ _; omega, by show (-1 : Int) ≤ ((e + 1 : Nat) : Int); omega⟩, fun _ => ?_⟩
      · rw [Array.toList_push, List.map_append]
        exact strsAre_app hS (.cons _ _ .nil)
      · show o.toList.drop (e + 1) = u7 (l.drop (i + n))
        have := congrArg (List.drop ((enc n).size + 1)) gd
        rw [List.drop_drop] at this
        rw [show e + 1 = p + 1 + ((enc n).size + 1) by omega, this, List.drop_append, Array.length_toList]
        rw [List.drop_of_length_le (by rw [Array.length_toList]; omega), show (enc n).size + 1 - (enc n).size = 1 by omega]
        rfl
      · show (xs ++ [List.replicate n 233]).flatten = l.take (i + n)
        rw [List.flatten_append, g3, ← htk, List.take_add]
        simp
      · show (xs ++ [List.replicate n 233]).length ≤ i + n
        rw [List.length_append, List.length_singleton]; omega
      · exact hstop
  · have hpe : p = o.size := by
      rw [List.drop_eq_nil_of_le hge, u7] at g2
      have := List.drop_eq_nil_iff.mp g2
      rw [Array.length_toList] at this
      omega
    walk_at "mine steps"
    all_goals walk_at "mine tidy"
    have hi : i = l.length := by omega
    refine join_list (News.isList N (.head _)) hS ?_ ?_
    · rw [sum_len_S, g3, List.length_take, List.length_map]
      show _ + _ * 0 ≤ _
      omega
    intro t' k'
    walk_at "mine tidy"
    rw [lit_empty, txt_join_S, jnw_nil, g3, hi, List.take_length]
    exact hR _ _ _ (keepsF F) ⟨_, rfl⟩
end
section
variable {prog : Program} {w : World} {A : Around} {s : Shared} {mean : ExcName → Option Value} {mg mb : PySem.Str → Option Value}
theorem check_ok (C : Cx w mean mg mb s.heap) (x : PySem.Str) (hx : x.length ≤ 900000) (hs : scan 0 0 x.cps.toList = none) (t : Tok) :
    Does prog w 3 198 [.str x t] s (fun v _ => v = .str x t) (fun _ _ => False) := by
  intro Q E hR hX
  have hx1 : x.length ≤ 1048576 := by omega
  walk_at "mine go"
  refine loop_upto (n := x.length) (ChkJ x t) rfl (by assumption) (by omega) (by assumption) (by assumption) ⟨rfl, ⟨0, _, rfl, rfl⟩, rfl⟩ ?turn ?done
  case turn =>
    intro i k m₁ news₁ h tk own hi ha ho hJ F N
    obtain ⟨h1, ⟨b, t', h2, h3⟩, h4⟩ := hJ
    subst h4
    have F := Mine.Fr.named F [(PySem.Str.ofString "text", _), (PySem.Str.ofString "begin", _)] (by intro p hp; simp only [List.mem_cons, List.not_mem_nil, or_false] at hp; rcases hp with rfl | rfl; exact h1; exact h2)
    obtain ⟨c, hc, e, hd⟩ := item_at hi
    have h5 := h3
    rw [hs, hd] at h5
    walk_at "mine steps"
    · exfalso
      have q1 : ((⟨#[c]⟩ : PySem.Str) == PySem.Str.ofString "/") = true := by first | with_reducible assumption | (rw [← e]; with_reducible assumption)
      have q2 : ((i : Int)) = (b : Int) := by with_reducible assumption
      rw [lit_slash, S_beq', decide_eq_true_eq] at q1
      rw [scan, if_pos q1, if_pos (by omega)] at h5
      cases h5
    · have q1 : ((⟨#[c]⟩ : PySem.Str) == PySem.Str.ofString "/") = true := by first | with_reducible assumption | (rw [← e]; with_reducible assumption)
      have q2 : ¬ ((i : Int)) = (b : Int) := by with_reducible assumption
      rw [lit_slash, S_beq', decide_eq_true_eq] at q1
      refine InvEndN.intro (by assumption) (by assumption) ⟨rfl, ⟨i + 1, _, rfl, ?_⟩, rfl⟩ rfl (fun _ hp => by cases hp) (fun _ hp => hp)
      rw [h3, hd, scan, if_pos q1, if_neg (by omega)]
    all_goals have q1 : ((⟨#[c]⟩ : PySem.Str) == PySem.Str.ofString "/") = false := by first | with_reducible assumption | (rw [← e]; with_reducible assumption)
    all_goals rw [lit_slash, S_beq', decide_eq_false_iff_not] at q1
    · exfalso
      rename_i q3'
      have q3 : barred (c : Int) = true := by first | exact q3' | (rw [e] at q3'; exact q3')
      rw [scan, if_neg q1, if_pos (.inr (.inr q3))] at h5
      cases h5
    · rename_i q3'
      have q2 : (Builtin.Str.occurrences (PySem.Str.ofString "%*") (⟨#[c]⟩ : PySem.Str) 0 (PySem.Str.ofString "%*").length 1).isEmpty = true := by first | with_reducible assumption | (rw [← e]; with_reducible assumption)
      have q3 : barred (c : Int) = false := by first | exact q3' | (rw [e] at q3'; exact q3')
      refine InvEndN.intro (by assumption) (by assumption) ⟨rfl, ⟨b, _, rfl, ?_⟩, rfl⟩ rfl (fun _ hp => by cases hp) (fun _ hp => hp)
      have q4 := wild_no q2
      rw [h3, hd, scan, if_neg q1, if_neg (by rw [q3]; simp; omega)]
    · exfalso
      have q2 : (Builtin.Str.occurrences (PySem.Str.ofString "%*") (⟨#[c]⟩ : PySem.Str) 0 (PySem.Str.ofString "%*").length 1).isEmpty = false := by first | with_reducible assumption | (rw [← e]; with_reducible assumption)
      have q4 := wild_yes q2
      rw [scan, if_neg q1, if_pos (by omega)] at h5
      cases h5
  case done =>
    intro m₁ news₁ h tk hJ F N
    obtain ⟨h1, ⟨b, t', h2, h3⟩, h4⟩ := hJ
    subst h4
    have F := Mine.Fr.named F [(PySem.Str.ofString "text", _), (PySem.Str.ofString "begin", _)] (by intro p hp; simp only [List.mem_cons, List.not_mem_nil, or_false] at hp; rcases hp with rfl | rfl; exact h1; exact h2)
    rw [hs, show x.cps.toList.drop x.length = [] by rw [← len_x, List.drop_length], scan] at h3
    walk_at "mine steps"
    all_goals walk_at "mine tidy"
    · exfalso
      have q : (b : Int) = (x.length : Int) := by with_reducible assumption
      rw [if_pos (by omega)] at h3
      cases h3
    · exact hR _ _ _ (keepsF F) rfl
theorem name_of_wire_does (C : Cx w mean mg mb s.heap) (o : Array UInt8) (ho : o.size ≤ 1000) (l : List Nat) (hl : o.toList = u7 l) (hll : l.length ≤ 100) (hc : ∀ (i c : Nat), l[i]? = some c → (plainC c = true ∧ c ≠ 38) ∨ c = 233) (hr : ∀ i, runLen (l.drop i) ≤ 7)
    (hs : scan 0 0 (nrm l) = none) (t : Tok) :
    Does prog w 5 205 [.bytes o t] s (fun v _ => ∃ t, v = .str (S (nrm l)) t) (fun _ _ => False) := by
  intro Q E hR hX
  walk_at "mine fill"
  walk_at "mine enter"
  repeat' (
    (fail_if_success (with_reducible show wpAny _ _ (call (Value.ref 170) _ _) _ _ _))
    first | (k_unfold; (try dsimp only)) | walk1 | (dsimp only; walk1) | (leave1; (try dsimp only)) | fail "no step")
  rename Fr _ _ _ _ => F5
  rename News _ _ _ _ => N5
  k_dflt (refine' use (fun C => utf7_text_does C o ho l hl hll hc hr _) F5 N5 (by assumption) (by assumption) rfl (Nat.le_of_ble_eq_true rfl) (Nat.le_of_ble_eq_true rfl) ?_ (fun _ _ _ _ _ _ hf => hf.elim))
  rintro v6 h6 tk6 F6 N6 k6 ⟨t6, rfl⟩
  have hl6 : (S l).length ≤ 1000000 := by rw [S_len]; omega
  repeat' (
    (fail_if_success (with_reducible show wpAny _ _ (call (Value.ref 198) _ _) _ _ _))
    first | (k_unfold; (try dsimp only)) | walk1 | (dsimp only; walk1) | (leave1; (try dsimp only)) | fail "no step")
  rename Fr _ _ _ _ => F7
  rename News _ _ _ _ => N7
  k_dflt (refine' use (fun C => check_ok C (S (nrm l)) (by rw [S_len, nrm_len]; omega) (by rw [S_toList]; exact hs) _) F7 N7 (by assumption) (by assumption) rfl (Nat.le_of_ble_eq_true rfl) (Nat.le_of_ble_eq_true rfl) ?_ (fun _ _ _ _ _ _ hf => hf.elim))
  rintro v8 h8 tk8 F8 N8 k8 rfl
  walk_at "mine tidy"
  exact hR _ _ _ (keepsF F8) ⟨_, rfl⟩
end
noncomputable def menuL : List (List Nat) := [[97], [47], [73, 110, 66, 111, 120], [98, 32, 99], [42], [73, 78, 66, 79, 88], [233], [37], [7], [55296], [47, 100], [105, 110, 98, 111, 120, 101, 115]]
theorem strs_of_menu : ∀ {ys : List Value}, (∀ y ∈ ys, ∃ x t, y = .str (S x) t ∧ x ∈ menuL) → ∃ xs : List (List Nat), StrsAre ys (xs.map S) ∧ xs.length = ys.length ∧ ∀ x ∈ xs, x ∈ menuL
  | [], _ => ⟨[], .nil, rfl, fun _ h => by cases h⟩
  | y :: ys, h => by
    obtain ⟨x, t, rfl, hx⟩ := h y (.head _)
    obtain ⟨xs, h1, h2, h3⟩ := strs_of_menu fun z hz => h z (.tail _ hz)
    refine ⟨x :: xs, .cons _ _ h1, by simp [h2], fun z hz => ?_⟩
    rcases List.mem_cons.mp hz with rfl | hz
    · exact hx
    · exact h3 z hz
theorem cut7 (r : Int) (n m : Nat) : min (min (1 + r % 8).toNat n - 1) m ≤ 7 :=
  Nat.le_trans (Nat.min_le_left _ _) (Nat.le_trans (Nat.sub_le_sub_right (Nat.min_le_left _ _) 1) (by omega))
theorem menu_len : ∀ x ∈ menuL, x.length ≤ 7 := by decide
theorem flat_len : ∀ {xs : List (List Nat)}, (∀ x ∈ xs, x.length ≤ 7) → xs.flatten.length ≤ 7 * xs.length
  | [], _ => by simp
  | x :: xs, h => by
    have h1 := h x (.head _)
    have := flat_len fun z hz => h z (.tail _ hz)
    rw [List.flatten_cons, List.length_append, List.length_cons]
    omega
section
variable {prog : Program} {w : World} {A : Around} {s : Shared} {mean : ExcName → Option Value} {mg mb : PySem.Str → Option Value}
structure LpJ (r : Addr) (tl : List (Addr × Obj)) (ms : List Int) (m : PySem.Str → Option Value) (news : List (Addr × Obj)) : Prop where
  ro : m (PySem.Str.ofString "row") = some (.ref r)
  nw : ∃ its k, news = (r, W.listOf its k) :: tl ∧ IntsAre its.toList ms
  le : ms.length ≤ 10
theorem law_pieces_does (C : Cx w mean mg mb s.heap) (a : Addr) (its : Array Value) (ks : List Int) (hl : s.heap.IsList a its) (hI : IntsAre its.toList ks) (hk : ks.length ≤ 63) :
    Does prog w 1 231 [.ref a] s (fun v _ => ∃ xs t, v = .str (S (List.flatten xs)) t ∧ xs.length ≤ 7 ∧ ∀ x ∈ xs, x ∈ menuL) (fun _ _ => False) := by
  intro Q E hR hX
  have hsz : its.size = ks.length := by rw [← hI.length, Array.length_toList]
  walk_at "mine goC"
  rename IntsAre _ (List.map _ _) => hI8
  rename_i o' hdo _ _ _ _ _ _ _ _ _ _ _ _ _ _ _ _ F8 N8 hne8
  have hms : (List.map (fun k' : Int => k') (List.take 10 ks)).length ≤ 10 := by rw [List.length_map, List.length_take]; omega
  generalize List.map (fun k' : Int => k') (List.take 10 ks) = ms at *
  refine while_by (LpJ _ [_, _]) (fun j => 10 - j.length) ms F8 N8 ⟨rfl, ⟨_, _, rfl, hI8⟩, hms⟩ ?_
  intro ns m₁ news₁ h tk hJ F N
  obtain ⟨h1, ⟨its2, k2, rfl, hI2⟩, hle⟩ := hJ
  have F := Mine.Fr.named F [(PySem.Str.ofString "row", _)] (by intro p hp; simp only [List.mem_cons, List.not_mem_nil, or_false] at hp; rcases hp with rfl; exact h1)
  have hsz2 : its2.size = ns.length := by rw [← hI2.length, Array.length_toList]
  walk_at "mine steps"
  all_goals walk_at "mine tidy"
  · rename_i F5 N5
    show WNext _ _ _ _ _ _ _
    refine WNext.intro (ns ++ [(ns.length : Int) * 7 + (List.take 3 ns).sum.fmod 10007]) F5 (fun p hp => N5 p (.tail _ hp)) (by show _ - _ < _ - _; rw [List.length_append, List.length_singleton]; omega) ⟨rfl, ⟨_, _, rfl, ?_⟩, by rw [List.length_append, List.length_singleton]; omega⟩
    rw [Array.toList_push]
    exact intsAre_app hI2 (.cons _ _ .nil)
  · rename News _ _ _ _ => N5
    rename Fr _ _ _ _ => F5
    rename IntsAre _ (List.take _ _) => hI5
    rename List.length (List.take _ _) = min _ _ => hC5
    rw [Int.fmod_eq_emod_of_nonneg _ (by decide)] at hI5 hC5
    obtain ⟨zs, hzs⟩ : ∃ zs, (List.take (min (1 + (ns.getD 0 0) % 8).toNat ns.length - 1) (List.drop 1 ns)) = zs := ⟨_, rfl⟩
    rw [hzs] at hI5 hC5
    have hz7 : zs.length ≤ 7 := by rw [hC5]; exact cut7 _ _ _
    have hzl := hI5.length
    refine compIter_list (fun i y => ∃ x t, y = .str (S x) t ∧ x ∈ menuL) rfl F5 N5 (.head _) (by rw [List.size_toArray, hzl, sizeLine_eq]; omega) ?_ ?_
    · intro i v I oI C oC D m₂ ys h tk E' hv hC hx F N off ne
      obtain ⟨z, tv, hz, rfl⟩ := intsAre_get hI5 (i := i) (v := v) (by simpa using hv)
      walk_at "mine steps"
      have hn12 : (z.fmod 12).toNat < 12 := by rw [Int.fmod_eq_emod_of_nonneg _ (by decide)]; omega
      refine CTurn.intro F N (fun _ hp => hp) ⟨menuL.getD (z.fmod 12).toNat [], _, congrArg (fun x => Value.str x _) ?_, ?_⟩
      · generalize (z.fmod 12).toNat = n at hn12 ⊢
        revert n
        decide +kernel
      · rw [List.getD_eq_getElem?_getD, List.getElem?_eq_getElem (show (z.fmod 12).toNat < menuL.length from hn12)]
        exact List.getElem_mem _
    · intro D ys h tk F N hl hy
      obtain ⟨xs, hS, hxl, hxm⟩ := strs_of_menu (ys := ys) fun y hy' => by
        obtain ⟨i, hi, e⟩ := List.mem_iff_getElem.mp hy'
        obtain ⟨y', e', g⟩ := hy i (by omega)
        rw [List.getElem?_eq_getElem hi, e] at e'
        cases e'
        exact g
      have hxs7 : xs.length ≤ 7 := by rw [hxl, hl, List.size_toArray, hzl]; exact hz7
      have hfl := flat_len fun x hx => menu_len x (hxm x hx)
      walk_at "mine steps"
      refine join_list (News.isList N (.head _)) hS ?_ ?_
      · rw [sum_len_S, List.length_map]
        show _ + _ * 0 ≤ _
        omega
      · intro t' k'
        walk_at "mine tidy"
        rw [lit_empty, txt_join_S, jnw_nil]
        exact hR _ _ _ (keepsF F) ⟨_, _, rfl, hxs7, hxm⟩
end
theorem slice_to_last {l : List Nat} (h : l ≠ []) : Txt.slice (S l) none (some (-1)) = S l.dropLast := by
  have hl : 0 < l.length := List.length_pos_iff.mpr h
  have := StrLaws.sliceText_to_neg (x := S l) (j := -1) (by decide) (by rw [S_len]; omega)
  show StrLaws.sliceText _ _ _ = _
  rw [this, S_toList, S_len, List.dropLast_eq_take]
  simp only [List.drop_zero]
  rw [show ((-1 : Int) + (l.length : Int) - 0).toNat = l.length - 1 by omega]
theorem slice_last {l : List Nat} (h : l ≠ []) : Txt.slice (S l) (some (-1)) none = S (l.drop (l.length - 1)) := by
  have hl : 0 < l.length := List.length_pos_iff.mpr h
  have := StrLaws.sliceText_from_neg (x := S l) (i := -1) (by decide) (by rw [S_len]; omega)
  show StrLaws.sliceText _ _ _ = _
  rw [this, S_toList, S_len]
  congr 2
  rw [show ((-1 : Int) + (l.length : Int)).toNat = l.length - 1 by omega, List.take_of_length_le (by rw [List.length_drop]; omega)]
theorem last_is {l : List Nat} (h : l ≠ []) : (Txt.slice (S l) (some (-1)) none == PySem.Str.ofString "/") = decide (l.getLast? = some 47) := by
  rw [slice_last h, lit_slash, show (⟨#[47]⟩ : PySem.Str) = S [47] from rfl]
  obtain ⟨c, i, rfl⟩ : ∃ c i, l = i ++ [c] := ⟨l.getLast h, l.dropLast, (List.dropLast_concat_getLast h).symm⟩
  have e : (i ++ [c]).drop ((i ++ [c]).length - 1) = [c] := by simp
  rw [e]
  have : (S [c] == S [47]) = decide ([c] = [47]) := by
    rw [Bool.eq_iff_iff, decide_eq_true_eq, beq_iff_eq]
    exact ⟨S_inj, fun e => by rw [e]⟩
  rw [this]
  simp
theorem last_nil : (Txt.slice (S []) (some (-1)) none == PySem.Str.ofString "/") = false := by decide +kernel
noncomputable def lo (c : Nat) : Nat := if 65 ≤ c ∧ c ≤ 90 then c + 32 else c
noncomputable def alpha : List Nat := menuL.flatten
theorem alpha_lo : ∀ c ∈ alpha, Unicode.lowerOf c = [lo c] ∧ c ≠ 931 := by decide +kernel
theorem flat_one : ∀ l : List Nat, (l.map (Array.toList ∘ fun c => #[lo c])).flatten = l.map lo
  | [] => rfl
  | c :: l => by rw [List.map_cons, List.flatten_cons, flat_one l]; rfl
theorem lower_S {l : List Nat} (h : ∀ c ∈ l, c ∈ alpha) : Txt.lower (S l) = S (l.map lo) := by
  unfold Txt.lower
  congr 1
  apply Array.ext'
  show ((l.toArray.mapIdx fun i _ => (Unicode.lowerAt l.toArray i).toArray).flatten).toList = (l.map lo).toArray.toList
  have : (l.toArray.mapIdx fun i _ => (Unicode.lowerAt l.toArray i).toArray) = (l.map fun c => #[lo c]).toArray := by
    apply Array.ext'
    rw [Array.toList_mapIdx]
    refine List.ext_getElem (by simp) fun i h1 h2 => ?_
    have hi : i < l.length := by simpa using h1
    have ha := alpha_lo l[i] (h _ (List.getElem_mem hi))
    have : Unicode.lowerAt l.toArray i = [lo l[i]] := by
      unfold Unicode.lowerAt
      rw [List.getElem?_toArray, List.getElem?_eq_getElem hi]
      dsimp only
      rw [if_neg (by simp [ha.2]), ha.1]
    simp [this]
  rw [this]
  simp [Array.flatten_toArray]
  exact flat_one l
noncomputable def lbp : List (List Nat) → List (List Nat)
  | [] => []
  | p :: q => if p.map lo = [105, 110, 98, 111, 120] then [73, 78, 66, 79, 88] :: q else p :: q
noncomputable def lb (l : List Nat) : List Nat := jn (lbp (spl (chop l)))
theorem lit_inbox_lo : PySem.Str.ofString "inbox" = S [105, 110, 98, 111, 120] := by decide +kernel
theorem lit_INBOX_up : PySem.Str.ofString "INBOX" = S [73, 78, 66, 79, 88] := by decide +kernel
theorem spl_mem : ∀ (l : List Nat) (p : List Nat), p ∈ spl l → (∀ c ∈ p, c ∈ l) ∧ p.length ≤ l.length
  | [], p, h => by simp [spl] at h; subst h; exact ⟨fun _ h => (by cases h), Nat.le_refl _⟩
  | c :: r, p, h => by
    obtain ⟨a, b, e⟩ := spl_ne r
    rw [spl] at h
    by_cases hc : c = 47
    · rw [if_pos hc] at h
      rcases List.mem_cons.mp h with rfl | h
      · exact ⟨fun _ h => (by cases h), Nat.zero_le _⟩
      · have := spl_mem r p h
        exact ⟨fun d hd => .tail _ (this.1 d hd), Nat.le_succ_of_le this.2⟩
    · rw [if_neg hc, e] at h
      rcases List.mem_cons.mp h with rfl | h
      · have := spl_mem r a (by rw [e]; exact .head _)
        refine ⟨fun d hd => ?_, by rw [List.length_cons, List.length_cons]; omega⟩
        rcases List.mem_cons.mp hd with rfl | hd
        · exact .head _
        · exact .tail _ (this.1 d hd)
      · have := spl_mem r p (by rw [e]; exact .tail _ h)
        exact ⟨fun d hd => .tail _ (this.1 d hd), Nat.le_succ_of_le this.2⟩
theorem jn_len : ∀ ps : List (List Nat), ps.flatten.length + ps.length ≤ (jn ps).length + 1
  | [] => by simp [jn]
  | [p] => by simp [jn]
  | p :: q :: r => by
    have := jn_len (q :: r)
    rw [jn, List.flatten_cons, List.length_append, List.length_append, List.length_cons, List.length_cons (a := 47)]
    simp only [List.length_cons] at *
    omega
theorem chop_len (l : List Nat) : (chop l).length ≤ l.length := by
  unfold chop
  split
  · rw [List.length_dropLast]; omega
  · exact Nat.le_refl _
section
variable {prog : Program} {w : World} {A : Around} {s : Shared} {mean : ExcName → Option Value} {mg mb : PySem.Str → Option Value}
theorem law_bare_does (C : Cx w mean mg mb s.heap) (l : List Nat) (hl : l.length ≤ 49) (ha : ∀ c ∈ l, c ∈ alpha) (t : Tok) :
    Does prog w 1 238 [.str (S l) t] s (fun v _ => ∃ t, v = .str (S (lb l)) t) (fun _ _ => False) := by
  intro Q E hR hX
  have hx1 : (S l).length ≤ 49 := by rw [S_len]; exact hl
  walk_at "mine go"
  all_goals rename List.map _ _ = Txt.split _ _ => hsp
  all_goals rename (List.map _ _)[_]? = some _ => hy
  all_goals rename (Txt.slice _ (some (-1)) none == _) = _ => hq
  · rename 0 < ((S l).length : Int) => hpos
    have hne : l ≠ [] := by rintro rfl; rw [S_len] at hpos; exact absurd hpos (by decide)
    rw [last_is hne, decide_eq_true_eq] at hq
    have hch : chop l = l.dropLast := by rw [chop, if_pos hq]
    rw [slice_to_last hne, lit_slash, split_S, ← hch] at hsp
    have hcm : ∀ c ∈ chop l, c ∈ alpha := fun c hc => ha c (by rw [hch] at hc; exact List.dropLast_subset _ hc)
    have hcl : (chop l).length ≤ 49 := Nat.le_trans (chop_len l) hl
    have hjl := jn_len (spl (chop l))
    rw [jn_spl] at hjl
    obtain ⟨p, q, e⟩ := spl_ne (chop l)
    have hpm := spl_mem (chop l) p (by rw [e]; exact .head _)
    rw [e] at hsp hjl
    rw [hsp] at hy
    simp only [Int.toNat_zero, List.map_cons, List.getElem?_cons_zero, Option.some.injEq] at hy
    subst hy
    have hpl : (S p).length ≤ 49 := by rw [S_len]; omega
    have hlow := lower_S (l := p) fun c hc => hcm c (hpm.1 c hc)
    have hlb : lb l = jn (lbp (p :: q)) := by rw [lb, e]
    rw [List.flatten_cons, List.length_append, List.length_cons] at hjl
    rename StrsAre (strValues _) _ => hSA
    walk_at "mine steps"
    · rename (Txt.lower _ == _) = _ => hlq
      rw [hlow, lit_inbox_lo, S_beq, decide_eq_true_eq] at hlq
      rename Fr _ _ _ _ => F5
      rename News _ _ _ _ => N5
      have hIL := News.isList N5 (.head _)
      rename List (PySem.Str × Tok) => vs
      rcases vs with _ | ⟨⟨y, ty⟩, vs⟩
      · cases hsp
      simp only [List.map_cons, List.cons.injEq] at hsp
      obtain ⟨rfl, hsp⟩ := hsp
      refine wpAny_setItem_list hIL (by decide) (by decide) (by simp [strValues]) ?_
      intro h6 hIL6 hsb
      have F6 := F5.change hsb (N5 _ (.head _)).2.1 (N5 _ (.head _)).2.2
      walk_at "mine steps"
      refine join_list (ys := ([73, 78, 66, 79, 88] :: q).map S) hIL6 ?_ ?_ ?_
      · cases hSA with
        | cons _ _ r =>
          rw [hsp] at r
          rw [List.map_cons, lit_INBOX_up]
          simpa [strValues] using StrsAre.cons (S [73, 78, 66, 79, 88]) _ r
      · rw [sum_len_S, List.flatten_cons, List.length_append, List.length_map]
        show _ + _ * 1 ≤ _
        simp only [List.length_cons, List.length_nil]
        omega
      · intro t' k'
        walk_at "mine tidy"
        rw [lit_slash, show (⟨#[47]⟩ : PySem.Str) = S [47] from rfl, txt_join_S, ← jn_w]
        rw [lbp, if_pos hlq] at hlb
        rw [← hlb]
        exact hR _ _ _ (keepsF F6) ⟨_, rfl⟩
    · rename (Txt.lower _ == _) = _ => hlq
      rw [hlow, lit_inbox_lo, S_beq, decide_eq_false_iff_not] at hlq
      rename Fr _ _ _ _ => F5
      rename News _ _ _ _ => N5
      have hIL := News.isList N5 (.head _)
      rw [hsp] at hSA
      refine join_list (ys := (p :: q).map S) hIL (by simpa using hSA) ?_ ?_
      · rw [sum_len_S, List.flatten_cons, List.length_append, List.length_map]
        show _ + _ * 1 ≤ _
        simp only [List.length_cons]
        omega
      · intro t' k'
        walk_at "mine tidy"
        rw [lit_slash, show (⟨#[47]⟩ : PySem.Str) = S [47] from rfl, txt_join_S, ← jn_w]
        rw [lbp, if_neg hlq] at hlb
        rw [← hlb]
        exact hR _ _ _ (keepsF F5) ⟨_, rfl⟩
  · exfalso
    rename ¬ 0 < ((S l).length : Int) => hpos
    have hne : l = [] := List.length_eq_zero_iff.mp (by rw [S_len] at hpos; omega)
    subst hne
    rw [last_nil] at hq
    cases hq
  · have hch : chop l = l := by
      rw [chop, if_neg]
      intro hx
      have hne : l ≠ [] := by rintro rfl; cases hx
      rw [last_is hne, decide_eq_false_iff_not] at hq
      exact hq hx
    rw [lit_slash, split_S, ← hch] at hsp
    have hcm : ∀ c ∈ chop l, c ∈ alpha := by rw [hch]; exact ha
    have hcl : (chop l).length ≤ 49 := Nat.le_trans (chop_len l) hl
    have hjl := jn_len (spl (chop l))
    rw [jn_spl] at hjl
    obtain ⟨p, q, e⟩ := spl_ne (chop l)
    have hpm := spl_mem (chop l) p (by rw [e]; exact .head _)
    rw [e] at hsp hjl
    rw [hsp] at hy
    simp only [Int.toNat_zero, List.map_cons, List.getElem?_cons_zero, Option.some.injEq] at hy
    subst hy
    have hpl : (S p).length ≤ 49 := by rw [S_len]; omega
    have hlow := lower_S (l := p) fun c hc => hcm c (hpm.1 c hc)
    have hlb : lb l = jn (lbp (p :: q)) := by rw [lb, e]
    rw [List.flatten_cons, List.length_append, List.length_cons] at hjl
    rename StrsAre (strValues _) _ => hSA
    walk_at "mine steps"
    · rename (Txt.lower _ == _) = _ => hlq
      rw [hlow, lit_inbox_lo, S_beq, decide_eq_true_eq] at hlq
      rename Fr _ _ _ _ => F5
      rename News _ _ _ _ => N5
      have hIL := News.isList N5 (.head _)
      rename List (PySem.Str × Tok) => vs
      rcases vs with _ | ⟨⟨y, ty⟩, vs⟩
      · cases hsp
      simp only [List.map_cons, List.cons.injEq] at hsp
      obtain ⟨rfl, hsp⟩ := hsp
      refine wpAny_setItem_list hIL (by decide) (by decide) (by simp [strValues]) ?_
      intro h6 hIL6 hsb
      have F6 := F5.change hsb (N5 _ (.head _)).2.1 (N5 _ (.head _)).2.2
      walk_at "mine steps"
      refine join_list (ys := ([73, 78, 66, 79, 88] :: q).map S) hIL6 ?_ ?_ ?_
      · cases hSA with
        | cons _ _ r =>
          rw [hsp] at r
          rw [List.map_cons, lit_INBOX_up]
          simpa [strValues] using StrsAre.cons (S [73, 78, 66, 79, 88]) _ r
      · rw [sum_len_S, List.flatten_cons, List.length_append, List.length_map]
        show _ + _ * 1 ≤ _
        simp only [List.length_cons, List.length_nil]
        omega
      · intro t' k'
        walk_at "mine tidy"
        rw [lit_slash, show (⟨#[47]⟩ : PySem.Str) = S [47] from rfl, txt_join_S, ← jn_w]
        rw [lbp, if_pos hlq] at hlb
        rw [← hlb]
        exact hR _ _ _ (keepsF F6) ⟨_, rfl⟩
    · rename (Txt.lower _ == _) = _ => hlq
      rw [hlow, lit_inbox_lo, S_beq, decide_eq_false_iff_not] at hlq
      rename Fr _ _ _ _ => F5
      rename News _ _ _ _ => N5
      have hIL := News.isList N5 (.head _)
      rw [hsp] at hSA
      refine join_list (ys := (p :: q).map S) hIL (by simpa using hSA) ?_ ?_
      · rw [sum_len_S, List.flatten_cons, List.length_append, List.length_map]
        show _ + _ * 1 ≤ _
        simp only [List.length_cons]
        omega
      · intro t' k'
        walk_at "mine tidy"
        rw [lit_slash, show (⟨#[47]⟩ : PySem.Str) = S [47] from rfl, txt_join_S, ← jn_w]
        rw [lbp, if_neg hlq] at hlb
        rw [← hlb]
        exact hR _ _ _ (keepsF F5) ⟨_, rfl⟩
end
noncomputable def bad (c : Nat) : Bool := decide (c = 42 ∨ c = 37 ∨ c < 32 ∨ (127 ≤ c ∧ c < 160) ∨ (55296 ≤ c ∧ c < 57344))
@[irreducible] noncomputable def pfn (a : Nat) (p : List Nat) (j : Nat) : List Nat := ((List.range j).filter fun i => bad (p.getD i 0)).map fun i => a + i
@[irreducible] noncomputable def pf (a : Nat) (p : List Nat) : List Nat := (if p = [] then [a] else []) ++ pfn a p p.length
@[irreducible] noncomputable def off (ps : List (List Nat)) : Nat := (ps.map fun p => p.length + 1).sum
noncomputable def lf : Nat → List (List Nat) → List Nat
  | _, [] => []
  | a, p :: r => pf a p ++ lf (a + p.length + 1) r
@[irreducible] noncomputable def lfw (a : Nat) (ps : List (List Nat)) : List Nat := lf a ps
theorem lfw_eq (a : Nat) (ps : List (List Nat)) : lfw a ps = lf a ps := by unfold lfw; rfl
theorem lfw_nil (a : Nat) : lfw a [] = [] := by rw [lfw_eq]; rfl
theorem off_nil : off [] = 0 := by unfold off; rfl
theorem off_app (xs ys : List (List Nat)) : off (xs ++ ys) = off xs + off ys := by unfold off; rw [List.map_append, List.sum_append]
theorem lf_app : ∀ (xs ys : List (List Nat)) (a : Nat), lf a (xs ++ ys) = lf a xs ++ lf (a + off xs) ys
  | [], ys, a => by simp [lf, off]
  | x :: xs, ys, a => by
    rw [List.cons_append, lf, lf, lf_app xs ys, List.append_assoc]
    congr 3
    show a + x.length + 1 + off xs = a + off (x :: xs)
    unfold off
    rw [List.map_cons, List.sum_cons]
    omega
theorem pfn_len (a : Nat) (p : List Nat) (j : Nat) : (pfn a p j).length ≤ j := by
  unfold pfn
  rw [List.length_map]
  exact Nat.le_trans (List.length_filter_le _ _) (by rw [List.length_range]; exact Nat.le_refl _)
theorem pfn_succ (a : Nat) (p : List Nat) (j : Nat) : pfn a p (j + 1) = pfn a p j ++ if bad (p.getD j 0) = true then [a + j] else [] := by
  unfold pfn
  rw [List.range_succ, List.filter_append, List.map_append]
  congr 1
  by_cases h : bad (p.getD j 0) = true
  · rw [if_pos h, List.filter_cons, if_pos h]; rfl
  · rw [if_neg h, List.filter_cons, if_neg h]; rfl
theorem pfn_zero (a : Nat) (p : List Nat) : pfn a p 0 = [] := by unfold pfn; rfl
theorem pf_len (a : Nat) (p : List Nat) : (pf a p).length ≤ p.length + 1 := by
  have := pfn_len a p p.length
  unfold pf
  rw [List.length_append]
  split
  · simp; omega
  · simp; omega
theorem lf_len : ∀ (ps : List (List Nat)) (a : Nat), (lf a ps).length ≤ off ps
  | [], a => Nat.zero_le _
  | p :: r, a => by
    have h1 := pf_len a p
    have h2 := lf_len r (a + p.length + 1)
    rw [lf, List.length_append]
    unfold off at *
    rw [List.map_cons, List.sum_cons]
    omega
theorem off_spl (l : List Nat) : off (spl l) = l.length + 1 := by
  have key : ∀ ps : List (List Nat), ps ≠ [] → off ps = (jn ps).length + 1 := by
    intro ps
    induction ps with
    | nil => intro h; exact absurd rfl h
    | cons p r ih =>
      intro _
      cases r with
      | nil => simp [off, jn]
      | cons q r =>
        have := ih (by simp)
        rw [jn, List.length_append, List.length_cons]
        unfold off at *
        rw [List.map_cons, List.sum_cons, this]
        omega
  obtain ⟨p, q, e⟩ := spl_ne l
  have := key (spl l) (by rw [e]; simp)
  rw [jn_spl] at this
  exact this
theorem off_take_le (ps : List (List Nat)) (i : Nat) : off (ps.take i) ≤ off ps := by
  have := off_app (ps.take i) (ps.drop i)
  rw [List.take_append_drop] at this
  omega
theorem wild2_mem (c : Nat) : (Builtin.Str.occurrences (PySem.Str.ofString "*%") (⟨#[c]⟩ : PySem.Str) 0 (PySem.Str.ofString "*%").length 1).isEmpty = !decide (c = 37 ∨ c = 42) := by
  have h := StrLaws.found_one (PySem.Str.ofString "*%") c
  have hl : (PySem.Str.ofString "*%").cps.toList = [42, 37] := by decide +kernel
  rw [hl] at h
  generalize (Builtin.Str.occurrences (PySem.Str.ofString "*%") (⟨#[c]⟩ : PySem.Str) 0 (PySem.Str.ofString "*%").length 1).isEmpty = z at *
  cases z <;> simp at h ⊢ <;> omega
@[irreducible] noncomputable def Hid (p : Prop) : Prop := p
theorem Hid.of {p : Prop} (h : p) : Hid p := by unfold Hid; exact h
theorem Hid.get {p : Prop} (h : Hid p) : p := by unfold Hid at h; exact h
theorem news_ne {h₀ h : Heap} {L a b : Addr} {oa ob : Obj} {rest : List (Addr × Obj)} (N : News h₀ L h ((a, oa) :: (b, ob) :: rest)) (hne : oa ≠ ob) : a ≠ b := fun e => hne (by
  have h1 := (N _ (.head _)).1
  have h2 := (N _ (.tail _ (.head _))).1
  dsimp only at h1 h2
  rw [e, h2] at h1
  cases h1
  rfl)
theorem lfw_succ {ps : List (List Nat)} {i : Nat} {p : List Nat} (h : ps[i]? = some p) : lfw 0 (ps.take (i + 1)) = lfw 0 (ps.take i) ++ pf (off (ps.take i)) p ∧ off (ps.take (i + 1)) = off (ps.take i) + p.length + 1 := by
  have e : ps.take (i + 1) = ps.take i ++ [p] := by rw [List.take_add_one, h]; rfl
  rw [e, lfw_eq, lfw_eq, lf_app, off_app]
  have h1 : off [p] = p.length + 1 := by unfold off; simp
  rw [h1]
  refine ⟨?_, by omega⟩
  congr 1
  rw [lf, lf, List.append_nil, Nat.zero_add]
/-- what the law says of faults -/
noncomputable def FaultIs (l : List Nat) (r : Int) : Prop := (lf 0 (spl l) = [] ∧ r = -1) ∨ ∃ k : Nat, k ∈ lf 0 (spl l) ∧ (∀ a ∈ lf 0 (spl l), k ≤ a) ∧ r = k
section
variable {prog : Program} {w : World} {A : Around} {s : Shared} {mean : ExcName → Option Value} {mg mb : PySem.Str → Option Value}
structure LiJ (base p : List Nat) (tp : Tok) (a : Nat) (f sp : Addr) (osp : Obj) (own : List (Addr × Obj)) (j : Nat) (m : PySem.Str → Option Value) (news : List (Addr × Obj)) : Prop where
  fa : m (PySem.Str.ofString "faults") = some (.ref f)
  at' : ∃ t, m (PySem.Str.ofString "at") = some (.int (a : Nat) t)
  pa : m (PySem.Str.ofString "part") = some (.str (S p) tp)
  nw : ∃ its k, news = (sp, osp) :: (f, W.listOf its k) :: own ∧ IntsAre its.toList ((base ++ pfn a p j).map Int.ofNat)
structure LfJ (ps : List (List Nat)) (f sp : Addr) (osp : Obj) (i : Nat) (m : PySem.Str → Option Value) (news : List (Addr × Obj)) : Prop where
  fa : m (PySem.Str.ofString "faults") = some (.ref f)
  at' : ∃ t, m (PySem.Str.ofString "at") = some (.int (off (ps.take i) : Nat) t)
  nw : ∃ its k, news = [(sp, osp), (f, W.listOf its k)] ∧ IntsAre its.toList ((lfw 0 (ps.take i)).map Int.ofNat)
theorem law_fault_does (C : Cx w mean mg mb s.heap) (l : List Nat) (hl : l.length ≤ 60) (t : Tok) :
    Does prog w 1 245 [.str (S l) t] s (fun v _ => ∃ r t, v = .int r t ∧ FaultIs l r) (fun _ _ => False) := by
  intro Q E hR hX
  have hx1 : (S l).length ≤ 60 := by rw [S_len]; exact hl
  walk_at "mine go"
  rename List.map _ _ = Txt.split _ _ => hsp
  rename List (PySem.Str × Tok) => vs
  rename Fr _ _ _ _ => F5
  rename News _ _ _ _ => N5
  rw [lit_slash, split_S] at hsp
  unfold FaultIs at hR
  have hpm := spl_mem l
  have hos := off_spl l
  have hne : spl l ≠ [] := by obtain ⟨p, q, e⟩ := spl_ne l; rw [e]; simp
  generalize spl l = ps at *
  have hvl : vs.length = ps.length := by have := congrArg List.length hsp; simpa using this
  have hspf := news_ne N5 (fun e => by
    have e1 := congrArg Obj.data e
    simp only [Data.seq.injEq] at e1
    have e2 := congrArg Array.size e1.1
    simp [strValues] at e2
    rw [e2] at hvl
    exact hne (List.length_eq_zero_iff.mp hvl.symm))
  refine loop_made (LfJ ps _ _ _) rfl (.head _) F5 N5 ⟨rfl, ⟨_, by rw [List.take_zero, off_nil]; rfl⟩, ⟨_, _, rfl, by rw [List.take_zero, lfw_nil]; exact .nil⟩⟩ (fun i m' nx hJ => by obtain ⟨_, _, its, k, rfl, _⟩ := hJ; exact .head _) ?_ ?_
  · intro i v m₁ news₁ h tk own hv ha' hoff hJ F N
    obtain ⟨h1, ⟨t2, h2⟩, its, k, rfl, hI⟩ := hJ
    obtain ⟨li⟩ := its
    obtain ⟨p, tp, hp, rfl⟩ : ∃ p tp, ps[i]? = some p ∧ v = .str (S p) tp := by
      have hv' : (strValues vs)[i]? = some v := by simpa using hv
      unfold strValues at hv'
      rw [List.getElem?_map] at hv'
      obtain ⟨⟨y, ty⟩, e1, rfl⟩ := Option.map_eq_some_iff.mp hv'
      have e2 := congrArg (fun z => z[i]?) hsp
      rw [List.getElem?_map, e1, List.getElem?_map] at e2
      obtain ⟨p, e3, e4⟩ := Option.map_eq_some_iff.mp e2.symm
      exact ⟨p, ty, e3, by rw [e4]⟩
    have F := Mine.Fr.named F [(PySem.Str.ofString "faults", _), (PySem.Str.ofString "at", _)] (by intro p hp; simp only [List.mem_cons, List.not_mem_nil, or_false] at hp; rcases hp with rfl | rfl; exact h1; exact h2)
    have hpl : (S p).length ≤ 60 := by rw [S_len]; exact Nat.le_trans (hpm p (List.mem_of_getElem? hp)).2 hl
    have hot := off_take_le ps i
    have hlf1 := lfw_succ hp
    obtain ⟨oi, hoi⟩ : ∃ oi, off (ps.take i) = oi := ⟨_, rfl⟩
    have hil : li.length ≤ 61 := by
      have a := hI.length
      have b := lf_len (ps.take i) 0
      rw [← lfw_eq] at b
      rw [List.length_map] at a
      show li.length ≤ 61
      rw [show li.length = (lfw 0 (ps.take i)).length from a]
      exact Nat.le_trans b (Nat.le_trans hot (by rw [hos]; exact Nat.succ_le_succ hl))
    have hoi61 : oi ≤ 61 := by rw [← hoi]; exact Nat.le_trans hot (by rw [hos]; exact Nat.succ_le_succ hl)
    rw [hoi] at F hlf1
    have hlfH := Hid.of hlf1
    clear hot hos hoi h2 hlf1
    repeat' (
    (fail_if_success (with_reducible show wpAny _ _ (pyIter _) _ _ _))
    (fail_if_success (with_reducible show wpAny _ _ (call (Value.builtin "list.append") _) _ _ _))
    first | (k_unfold; (try dsimp only)) | walk1 | (dsimp only; walk1) | (leave1; (try dsimp only)) | fail "no step")
    rotate_left
    · have hp0 : p ≠ [] := by
        rename (S p == _) = false => hq
        rintro rfl
        exact absurd hq (by decide +kernel)
      rename Fr _ _ _ _ => F7
      rename News _ _ _ _ => N7
      walk_at "mine tidy"
      refine loop_upto (n := (S p).length) (LiJ (lfw 0 (ps.take i) ++ []) p tp oi _ _ _ own) rfl (by assumption) (Nat.le_trans hpl (by decide)) F7 N7 ⟨rfl, ⟨_, rfl⟩, rfl, ⟨_, _, rfl, by rw [List.append_nil, pfn_zero, List.append_nil]; exact hI⟩⟩ ?_ ?_
      · intro j kj m₂ news₂ h2' tk2 own2 hj haj hoffj hJ F N
        obtain ⟨h1, ⟨t5, h2⟩, h3, its5, k5, rfl, hI5⟩ := hJ
        obtain ⟨li5⟩ := its5
        have F := Mine.Fr.named F [(PySem.Str.ofString "faults", _), (PySem.Str.ofString "at", _), (PySem.Str.ofString "part", _)] (by intro p hp; simp only [List.mem_cons, List.not_mem_nil, or_false] at hp; rcases hp with rfl | rfl | rfl; exact h1; exact h2; exact h3)
        obtain ⟨c, hcj, e, hdr⟩ := item_at hj
        have hli5 : li5.length ≤ 200 := by
          have a := hI5.length
          have a2 := hI.length
          rw [List.length_map, List.length_append, List.length_append] at a
          rw [List.length_map] at a2
          have b := pfn_len oi p j
          have a : li5.length = _ := a
          have a2 : li.length = _ := a2
          rw [a, ← a2]
          have bb : ([] : List Nat).length ≤ 1 := by simp
          omega
        have hpc : p.getD j 0 = c := by
          rw [S_toList] at hcj
          rw [List.getD_eq_getElem?_getD, hcj]; rfl
        have eg : (Txt.item (S p) (j : Int)).cps.getD 0 0 = c := by rw [e]; rfl
        have hpsu := pfn_succ oi p j
        rw [hpc] at hpsu
        have hpsuH := Hid.of hpsu
        clear hpsu
        repeat' (
        (fail_if_success (with_reducible show wpAny _ _ (pyIter _) _ _ _))
        (fail_if_success (with_reducible show wpAny _ _ (call (Value.builtin "list.append") _) _ _ _))
        first | (k_unfold; (try dsimp only)) | walk1 | (dsimp only; walk1) | (leave1; (try dsimp only)) | fail "no step")
        all_goals rename (Builtin.Str.occurrences _ _ _ _ _).isEmpty = _ => hw
        all_goals rw [e, wild2_mem] at hw
        all_goals have hpsu := hpsuH.get
        all_goals rename Fr _ _ _ _ => F9
        all_goals rename News _ _ _ _ => N9
        all_goals first
          | (have hb : ¬ bad c = true := by
               clear hpsu
               unfold bad
               rw [decide_eq_true_eq]
               simp only [Bool.not_eq_eq_eq_not, Bool.not_true, Bool.not_false, decide_eq_true_eq, decide_eq_false_iff_not] at hw
               omega
             rw [if_neg hb, List.append_nil] at hpsu
             refine InvEndN.intro (nx := (_, _) :: (_, W.listOf ⟨li5⟩ k5) :: own) F9 N9 ⟨rfl, ⟨_, rfl⟩, rfl, ⟨⟨li5⟩, k5, rfl, ?_⟩⟩ rfl (fun p' hp' => ?_) (fun p' hp' => ?_)
             · rw [hpsu]; exact hI5
             · exact List.mem_append_left _ hp'
             · exact List.mem_append_right _ hp')
          | (have hb : bad c = true := by
               clear hpsu
               unfold bad
               rw [decide_eq_true_eq]
               simp only [Bool.not_eq_eq_eq_not, Bool.not_true, Bool.not_false, decide_eq_true_eq, decide_eq_false_iff_not] at hw
               omega
             rw [if_pos hb] at hpsu
             refine PyProof.Rows.append_in (own := [(_, _)]) (ys := li5) F9 N9 ?_ ?_ ?_ (by rw [sizeLine_eq]; exact Nat.le_trans hli5 (by decide))
             · intro p' hp'
               rw [List.mem_singleton.mp hp']
               exact hspf
             · intro p' hp'
               rcases List.mem_append.mp hp' with hp' | hp'
               · exact hoff p' hp' _ (.tail _ (.head _))
               · exact hoffj p' hp' _ (.tail _ (.head _))
             intro h11 F11 N11
             obtain ⟨tq, htq⟩ : ∃ tq, tq = tk := ⟨_, rfl⟩
             rw [← htq] at N11
             walk_at "mine steps"
             refine InvEndN.intro (nx := (_, _) :: (_, W.listOf (li5 ++ [Value.int ((oi : Int) + (j : Int)) tq]).toArray (k5 + 1)) :: own) F11 N11 ⟨rfl, ⟨_, rfl⟩, rfl, ⟨(li5 ++ [Value.int ((oi : Int) + (j : Int)) tq]).toArray, k5 + 1, rfl, ?_⟩⟩ rfl (fun p' hp' => ?_) (fun p' hp' => ?_)
             · have e9 : ∀ b : List Nat, b ++ pfn oi p (j + 1) = (b ++ pfn oi p j) ++ [oi + j] := fun b => by rw [hpsu, List.append_assoc]
               rw [e9, List.map_append]
               exact intsAre_app hI5 (.cons _ _ .nil)
             · rcases List.mem_cons.mp hp' with rfl | hp'
               · exact .head _
               rcases List.mem_cons.mp hp' with rfl | hp'
               · exact .tail _ (.head _)
               · exact .tail _ (.tail _ (List.mem_append_left _ hp'))
             · exact .tail _ (.tail _ (List.mem_append_right _ hp')))
      · intro m₂ news₂ h2' tk2 hJ F N
        obtain ⟨h1, ⟨t5, h2⟩, h3, its5, k5, rfl, hI5⟩ := hJ
        have F := Mine.Fr.named F [(PySem.Str.ofString "faults", _), (PySem.Str.ofString "at", _), (PySem.Str.ofString "part", _)] (by intro p hp; simp only [List.mem_cons, List.not_mem_nil, or_false] at hp; rcases hp with rfl | rfl | rfl; exact h1; exact h2; exact h3)
        walk_at "mine steps"
        rename Fr _ _ _ _ => F9
        rename News _ _ _ _ => N9
        obtain ⟨hlf1, hof1⟩ := hlfH.get
        refine InvEndN.intro (nx := [(_, _), (_, W.listOf its5 k5)]) F9 N9 ⟨rfl, ⟨_, by rw [hof1]; rfl⟩, ⟨its5, k5, rfl, ?_⟩⟩ rfl (fun p' hp' => ?_) (fun p' hp' => ?_)
        · rw [hlf1, pf, if_neg hp0, ← List.append_assoc]
          rw [S_len] at hI5
          exact hI5
        · rcases List.mem_cons.mp hp' with rfl | hp'
          · exact .head _
          rw [List.mem_singleton.mp hp']
          exact .tail _ (.head _)
        · exact .tail _ (.tail _ hp')
    · have hp0 : p = [] := by
        rename (S p == _) = true => hq
        have hq2 := eq_of_beq hq
        rw [lit_empty] at hq2
        exact S_inj hq2
      rename Fr _ _ _ _ => F7
      rename News _ _ _ _ => N7
      refine PyProof.Rows.append_in (own := [(_, _)]) (ys := li) F7 N7 ?_ ?_ ?_ (by rw [sizeLine_eq]; exact Nat.le_trans hil (by decide))
      · intro p' hp'
        rw [List.mem_singleton.mp hp']
        exact hspf
      · intro p' hp'
        exact hoff p' hp' _ (.tail _ (.head _))
      intro h8 F8 N8
      repeat' (
      (fail_if_success (with_reducible show wpAny _ _ (pyIter _) _ _ _))
      (fail_if_success (with_reducible show wpAny _ _ (call (Value.builtin "list.append") _) _ _ _))
      first | (k_unfold; (try dsimp only)) | walk1 | (dsimp only; walk1) | (leave1; (try dsimp only)) | fail "no step")
      rename Fr _ _ _ _ => F7
      rename News _ _ _ _ => N7
      walk_at "mine tidy"
      refine loop_upto (n := (S p).length) (LiJ (lfw 0 (ps.take i) ++ [oi]) p tp oi _ _ _ own) rfl (by assumption) (Nat.le_trans hpl (by decide)) F7 N7 ⟨rfl, ⟨_, rfl⟩, rfl, ⟨_, _, rfl, by rw [pfn_zero, List.append_nil, List.map_append]; exact intsAre_app hI (.cons _ _ .nil)⟩⟩ ?_ ?_
      · intro j kj m₂ news₂ h2' tk2 own2 hj haj hoffj hJ F N
        exfalso
        rw [hp0, S_len] at hj
        exact absurd hj (Nat.not_lt_zero _)
      · intro m₂ news₂ h2' tk2 hJ F N
        obtain ⟨h1, ⟨t5, h2⟩, h3, its5, k5, rfl, hI5⟩ := hJ
        have F := Mine.Fr.named F [(PySem.Str.ofString "faults", _), (PySem.Str.ofString "at", _), (PySem.Str.ofString "part", _)] (by intro p hp; simp only [List.mem_cons, List.not_mem_nil, or_false] at hp; rcases hp with rfl | rfl | rfl; exact h1; exact h2; exact h3)
        walk_at "mine steps"
        rename Fr _ _ _ _ => F9
        rename News _ _ _ _ => N9
        obtain ⟨hlf1, hof1⟩ := hlfH.get
        refine InvEndN.intro (nx := [(_, _), (_, W.listOf its5 k5)]) F9 N9 ⟨rfl, ⟨_, by rw [hof1]; rfl⟩, ⟨its5, k5, rfl, ?_⟩⟩ rfl (fun p' hp' => ?_) (fun p' hp' => ?_)
        · rw [hlf1, pf, if_pos hp0, ← List.append_assoc]
          rw [S_len] at hI5
          exact hI5
        · rcases List.mem_cons.mp hp' with rfl | hp'
          · exact .head _
          rw [List.mem_singleton.mp hp']
          exact .tail _ (.head _)
        · exact .tail _ (.tail _ hp')
  · intro m₁ news₁ h tk hJ F N
    obtain ⟨h1, ⟨t2, h2⟩, its, k, rfl, hI⟩ := hJ
    have F := Mine.Fr.named F [(PySem.Str.ofString "faults", _)] (by intro p hp; simp only [List.mem_cons, List.not_mem_nil, or_false] at hp; rcases hp with rfl; exact h1)
    rw [List.take_of_length_le (by rw [List.size_toArray]; simp [strValues, hvl]), lfw_eq] at hI
    clear hos h2
    repeat' (
    (fail_if_success (with_reducible show wpAny _ _ (call (Value.builtin "min") _) _ _ _))
    first | (k_unfold; (try dsimp only)) | walk1 | (dsimp only; walk1) | (leave1; (try dsimp only)) | fail "no step")
    all_goals walk_at "mine tidy"
    · rename decide _ = true => hq
      rename Fr _ _ _ _ => F7
      refine hR _ _ _ (keepsF F7) ⟨_, _, rfl, .inl ⟨?_, rfl⟩⟩
      have := of_decide_eq_true hq
      exact List.map_eq_nil_iff.mp this
    · rename decide _ = false => hq
      rename Fr _ _ _ _ => F7
      rename News _ _ _ _ => N7
      have hq := of_decide_eq_false hq
      refine min_list_N (vs := its.toList) rfl F7 N7 ?_ hI (List.length_pos_iff.mpr hq) ?_
      · rw [Array.toArray_toList]
        exact ⟨_, (N7 _ (.tail _ (.tail _ (.head _)))).1, rfl, _, rfl⟩
      · intro h8 M tM tk8 F8 N8 hM1 hM2
        walk_at "mine tidy"
        obtain ⟨k1, hk1, rfl⟩ := List.mem_map.mp hM1
        refine hR _ _ _ (keepsF F8) ⟨_, _, rfl, .inr ⟨k1, hk1, fun a ha => ?_, rfl⟩⟩
        have := hM2 (Int.ofNat a) (List.mem_map.mpr ⟨a, ha, rfl⟩)
        exact Int.ofNat_le.mp this
end
structure LawFacts (l : List Nat) : Prop where
  len : l.length ≤ 49
  alph : ∀ c ∈ l, c ∈ alpha
  bare : lb l = brn l
  fault : ∀ r, FaultIs (brn l) r → (r = -1 ∧ scan 0 0 (brn l) = none) ∨ ∃ k : Nat, r = k ∧ scan 0 0 (brn l) = some k
  okc : ∀ c ∈ brn l, c < 1114112
  other : scan 0 0 (brn l) = none → ∀ o ∈ brn l :: (brn l ++ [47]) :: parL (brn l), (∀ c ∈ o, c < 1114112) ∧ o.length ≤ 60 ∧ scan 0 0 (brn o) = none ∧ brn o = if o ≠ brn l ∧ o.getLast? = some 47 then brn l else o
  codes : scan 0 0 (brn l) = none → ∀ (i c : Nat), (brn l)[i]? = some c → (plainC c = true ∧ c ≠ 38) ∨ c = 233
  runs : ∀ i, runLen ((brn l).drop i) ≤ 7
  nrmd : nrm (brn l) = brn l
  pars : parL (brn l) = (List.range ((spl (brn l)).length - 1)).map fun i => jn ((spl (brn l)).take (i + 1))
theorem brn_len (l : List Nat) : (brn l).length ≤ l.length := by
  have := chop_len (nrm l)
  rw [nrm_len] at this
  exact this
theorem strOk_S {l : List Nat} (h : ∀ c ∈ l, c < 1114112) : PyData.canLay0 (.str (S l)) = true := by
  show ((S l).cps.all (· < 0x110000)) = true
  rw [Array.all_eq_true]
  intro i hi
  have : (S l).cps[i] ∈ l := by
    have : i < l.length := by simpa using hi
    simp
  simpa using h _ this
section
open PySem.Spec
variable {prog : Program} {w : World} {A : Around} {E : Value → Shared → Prop} {s : Shared} {a b : Addr} {Q : Value → Shared → Prop}
theorem shaped_pair {x : PySem.Str} {n : Int} (hx : (PyData.str x).canLay0 = true) : SeqAt.shaped (PyData.tuple [PyData.str x, PyData.int n]) = true := by
  unfold SeqAt.shaped
  rw [Bool.and_eq_true]
  refine ⟨?_, rfl⟩
  show (PyData.canLay0 (.str x) && (PyData.canLay0 (.int n) && true)) = true
  rw [hx]; rfl
theorem eqv_pair (x y : PySem.Str) (n m : Int) : (PyData.tuple [PyData.str x, PyData.int n]).eqv (PyData.tuple [PyData.str y, PyData.int m]) = (x == y && decide (n = m)) := by
  simp only [PyData.eqv, PyData.eqvAll, Bool.and_true]
  rfl
theorem ne_pair {x y : PySem.Str} {n m : Int} {t1 t2 t3 t4 : Tok} (ha : s.heap.get? a = some (tupleOf #[.str x t1, .int n t2])) (hb : s.heap.get? b = some (tupleOf #[.str y t3, .int m t4]))
    (hx : (PyData.str x).canLay0 = true) (hy : (PyData.str y).canLay0 = true)
    (hu : A.units + 64 < cLine) (h : Q (.bool (!(x == y && decide (n = m)))) s) : wpAny (model prog w) A (compareOp .NotEq (.ref a) (.ref b)) Q E s := by
  refine ne_dataH (reads_tuple_at ha rfl rfl (.cons (.str _ _) (.cons (.int _ _) .nil))) (reads_tuple_at hb rfl rfl (.cons (.str _ _) (.cons (.int _ _) .nil))) (shaped_pair hx) (shaped_pair hy) hu ?_
  rw [eqv_pair]
  exact h
end
section
open PySem.Spec
variable {prog : Program} {w : World} {A : Around} {E : Value → Shared → Prop} {s : Shared} {a b : Addr} {Q : Value → Shared → Prop}
theorem reads_strs {h : Heap} : ∀ {vs : List Value} {xs : List PySem.Str}, StrsAre vs xs → ReadsAll h vs (xs.map PyData.str) []
  | _, _, .nil => .nil
  | _, _, .cons y t r => .cons (.str _ _) (reads_strs r)
theorem shaped_strs {xs : List PySem.Str} (hx : ∀ x ∈ xs, (PyData.str x).canLay0 = true) : SeqAt.shaped (PyData.list (xs.map PyData.str)) = true := by
  have h1 : ∀ xs : List PySem.Str, (∀ x ∈ xs, (PyData.str x).canLay0 = true) → PyData.canLayAll0 (xs.map PyData.str) = true := by
    intro xs
    induction xs with
    | nil => intro _; rfl
    | cons x r ih =>
      intro hx
      show (PyData.canLay0 (.str x) && PyData.canLayAll0 (r.map PyData.str)) = true
      rw [hx x (.head _), ih fun y hy => hx y (.tail _ hy)]; rfl
  have h2 : ∀ xs : List PySem.Str, PyData.depthAll (xs.map PyData.str) = 0 := by
    intro xs
    induction xs with
    | nil => rfl
    | cons x r ih => simp [PyData.depthAll, PyData.depth, ih]
  unfold SeqAt.shaped
  rw [Bool.and_eq_true]
  refine ⟨h1 xs hx, ?_⟩
  simp [PyData.depth, h2]
theorem eqv_strs_same : ∀ xs : List PySem.Str, PyData.eqvAll (xs.map PyData.str) (xs.map PyData.str) = true
  | [] => rfl
  | x :: r => by
    simp only [List.map_cons, PyData.eqvAll, PyData.eqv, eqv_strs_same r, Bool.and_true]
    simp
theorem eq_strs_same {its1 its2 : Array Value} {k1 k2 : Nat} {xs : List PySem.Str} (ha : s.heap.get? a = some (W.listOf its1 k1)) (hb : s.heap.get? b = some (W.listOf its2 k2))
    (h1 : StrsAre its1.toList xs) (h2 : StrsAre its2.toList xs) (hx : ∀ x ∈ xs, (PyData.str x).canLay0 = true)
    (hu : A.units + 64 < cLine) (h : Q (.bool true) s) : wpAny (model prog w) A (compareOp .Eq (.ref a) (.ref b)) Q E s := by
  refine eq_dataH (reads_list_at ha rfl rfl (reads_strs h1)) (reads_list_at hb rfl rfl (reads_strs h2)) (shaped_strs hx) (shaped_strs hx) hu ?_
  show Q (.bool (PyData.eqvAll (xs.map PyData.str) (xs.map PyData.str))) s
  rw [eqv_strs_same]
  exact h
end
section
variable {prog : Program} {w : World} {A : Around} {s : Shared} {E : Value → Shared → Prop} {mean : ExcName → Option Value} {mg mb : PySem.Str → Option Value}
  {name qual : PySem.Str} {params : Arguments} {body : List Stmt} {scope : Scope} {dV kV doc pm cdv ct oc : Value} {an od : Option Addr} {osl : Array (Option Value)} {f : Addr} {args : List Value} {binds : List (PySem.Str × Value)}
theorem codeD_call_function {R : Result → Shared → Prop} {a : Addr} {args : Args} {o : Obj} {fd : FuncData} {body : List Stmt} (hroom : A.depth < recursionLimit)
    (ho : s.heap.get? a = some o)
    (hd' : o.data = .func fd) (hco : fd.scope.isCoroutine = false) (hgen : fd.scope.isGenerator = false) (hbody : fd.body = .stmts body) (hcd : s.heap.CodeRec fd.code fd.qualname)
    (h : wpAny (model prog w) A.in1 (bindArgs fd args) (fun binds s₁ =>
      wpAny (model prog w) A.in1 (newFunctionEnv fd.scope fd.globals fd.closure binds (fd.qualname ++ ".<locals>.") (some a) fd.code none fd.builtins)
        (fun env s₂ => s₂.heap.NoLimit ∧ codeD (model prog w) A (.func body env) R s₂) (fun e s' => R (.error e) s') s₁) (fun e s' => R (.error e) s') s) :
    codeD (model prog w) A (.call (.ref a) args) R s := by
  refine codeD_of_tree ?_
  show wpD _ A.in1 (callAny (.ref a) args) _ _ s
  simp only [callAny]
  refine wpD_bindAny (wpAny_load ho ?_)
  obtain ⟨c, oc, vs, tq, hc, hoc, hdc, hq⟩ := hcd
  simp only [hd', callFunction, hco, hgen, hbody, hc]
  rw [hc] at h
  refine wpD_bindAny (m := field (.ref c) 1) (wpAny_field hoc hdc hq (wpD_bindAny (wpAny_pure ?_)))
  refine wpD_bindAny (wpAny_mono h (fun binds s₁ h₁ => ?_) fun _ _ h' => h')
  refine wpD_bindAny (wpAny_mono h₁ (fun env s₂ h₂ => wpD_bindAny (wpAny_enterFrame h₂.1 hroom (wpD_pure ⟨rfl, rfl, h₂.2⟩))) fun _ _ h' => h')
/-- a def with cells is entered at a clean place -/
theorem enterCD {Q : Value → Shared → Prop} (C : Cx w mean mg mb s.heap) (ho : (hd.heap_39 w.params).lookup f = some ⟨oc, od, .func (fnOf name qual params body scope dV kV doc pm an cdv ct), osl⟩) (hcd : codeIn (hd.heap_39 w.params) cdv qual = true)
    (hroom : A.depth < recursionLimit) (hbind : BindsTo s (fnOf name qual params body scope dV kV doc pm an cdv ct) ⟨args, []⟩ binds) (hkind : (binds.all fun y => scope.names.lookup y.1 == some .local || scope.names.lookup y.1 == some .cell) = true)
    (hnd : ((cellsFrom 0 scope.names []).map (·.1)).Nodup) (hco : scope.isCoroutine = false) (hgen : scope.isGenerator = false) (hk : scope.kind = .function)
    (h : ∀ L' h₁ tk cells, Fr s.heap L' h₁ (bindL (envOfC qual scope L' f cdv).kindOf binds fun _ => none) → News s.heap L' h₁ cells →
      CellsAre (bindC (envOfC qual scope L' f cdv).kindOf binds fun _ => none) (cellsFrom (L' + 1) scope.names []) cells → (hd.heap_39 w.params).In s.heap → Top hd.view_39 (looseW hd.view_39 [PySem.Str.ofString "PostError"]) mean mg mb s.heap →
      wpD (model prog w) (A.deeper (envOfC qual scope L' f cdv)) (execs body (envOfC qual scope L' f cdv))
        (fun fl s' => Q (match fl with | .ret v => v | _ => .none) s') Nope
        { s with heap := h₁, toks := tk }) :
    wpD (model prog w) A (call (.ref f) args) Q Nope s := by
  refine wpD_call (codeD_call_function hroom (C.X _ _ ho) rfl hco hgen rfl (codeRec_of C.X hcd) (hbind _ _ _ _ ?_))
  refine wpAny_newFunctionEnv_cells hk (kindsX hkind _) fun env' he s' x => ?_
  subst he
  refine ⟨C.T.nolimit.keeps x.toInCall.keep, codeD_func ?_⟩
  obtain ⟨h₁, tk, rfl, _⟩ := x.done
  have hk₁ := x.toInCall.keep
  obtain ⟨cells, NC, Y⟩ := Cl.news (h₀ := s.heap) (Nat.le_refl _) fun n c hm => ⟨x.cell n c (lookup_of_mem_nodup (cellsFrom_names scope.names 0 (s.heap.objs.size + 1) [] [] rfl ▸ hnd) hm), x.above n c hm⟩
  exact h s.heap.objs.size h₁ tk cells ⟨x.toInCall.ns, hk₁, Nat.le_refl _⟩ NC Y C.X C.T
end
section
local macro_rules | `(tactic| walk_at "eval ListComp") => `(tactic| (k_here; k_dflt (refine' listComp_anyM _ _ _ _ _ _ _ _; walk_at "mine comp")))
theorem strsAre_list : ∀ {ys : List Value} {ns : List PySem.Str}, ys.length = ns.length → (∀ i, i < ns.length → ∃ n t, ns[i]? = some n ∧ ys[i]? = some (.str n t)) → StrsAre ys ns
  | [], [], _, _ => .nil
  | [], _ :: _, h, _ => by cases h
  | _ :: _, [], h, _ => by cases h
  | y :: ys, n :: ns, h, hy => by
    obtain ⟨n', t, e, e'⟩ := hy 0 (by simp)
    simp only [List.getElem?_cons_zero, Option.some.injEq] at e e'
    subst e; subst e'
    refine .cons _ _ (strsAre_list (by simpa using h) fun i hi => ?_)
    obtain ⟨n', t, e, e'⟩ := hy (i + 1) (by simpa using hi)
    exact ⟨n', t, by simpa using e, by simpa using e'⟩
theorem strsAre_rng {ys : List Value} {g : Nat → PySem.Str} {n : Nat} (hl : ys.length = n) (hy : ∀ i, i < n → ∃ t, ys[i]? = some (.str (g i) t)) : StrsAre ys ((List.range n).map g) :=
  strsAre_list (by simp [hl]) fun i hi => by
    have hi' : i < n := by simpa using hi
    obtain ⟨t, e⟩ := hy i hi'
    exact ⟨g i, t, by simp [hi'], e⟩
theorem strsAre_get : ∀ {vs : List Value} {ks : List PySem.Str} {i : Nat} {v : Value}, StrsAre vs ks → vs[i]? = some v → ∃ k t, ks[i]? = some k ∧ v = .str k t
  | _, _, i, v, .nil, h => by cases h
  | _, _, 0, v, .cons k t _, h => by
    simp only [List.getElem?_cons_zero, Option.some.injEq] at h
    exact ⟨_, _, rfl, h.symm⟩
  | _, _, i + 1, v, .cons _ _ r, h => by
    simp only [List.getElem?_cons_succ] at h ⊢
    exact strsAre_get r h
section
variable {prog : Program} {w : World} {s : Shared} {mean : ExcName → Option Value} {mg mb : PySem.Str → Option Value}
theorem law_walk (C : Cx w mean mg mb s.heap) (a : Addr) (its : Array Value) (ks : List Int) (hl : s.heap.IsList a its) (hI : IntsAre its.toList ks) (hk : ks.length ≤ 63)
    (facts : ∀ xs : List (List Nat), xs.length ≤ 7 → (∀ x ∈ xs, x ∈ menuL) → LawFacts xs.flatten) {Q : Value → Shared → Prop}
    (hQ : ∀ L m h' tk', Fr s.heap L h' m → Q (.bool true) { s with heap := h', toks := tk' }) :
    wpD (model prog w) callerA (call (.ref 257) [.ref a]) Q Nope s := by
  walk_at "mine fill"
  k_dflt (refine' enterCD (by assumption) _ _ _ _ _ _ _ _ _ _)
  walk_at "mine inC"
  refine wpD_execs_any ?_
  repeat' (
    (fail_if_success (with_reducible show wpAny _ _ (call (Value.ref 231) _ _) _ _ _))
    first | (k_unfold; (try dsimp only)) | walk1 | (dsimp only; walk1) | (leave1; (try dsimp only)) | fail "no step")
  rename Fr _ _ _ _ => F1
  rename News _ _ _ _ => N1
  rename (hd.heap_39 w.params).In _ => X
  rename Top _ _ _ _ _ _ => T
  k_dflt (refine' use (fun C => law_pieces_does C a its ks (hl.at fun o e => F1.keep a o e) hI hk) F1 N1 X T rfl (Nat.le_of_ble_eq_true rfl) (Nat.le_of_ble_eq_true rfl) ?_ (fun _ _ _ _ _ _ hf => hf.elim))
  rintro v2 h2 tk2 F2 N2 k2 ⟨xs, t2, rfl, hx7, hxm⟩
  have fx := facts xs hx7 hxm
  clear facts
  generalize xs.flatten = l at fx
  obtain ⟨f1, f2, f3, f4, fok, f5, f6, f7, f8, f9⟩ := fx
  walk_at "mine steps"
  show wpD _ _ (execs _ _) _ _ _
  refine wpD_execs_any ?_
  repeat' (
    (fail_if_success (with_reducible show wpAny _ _ (call (Value.ref 238) _ _) _ _ _))
    first | (k_unfold; (try dsimp only)) | walk1 | (dsimp only; walk1) | (leave1; (try dsimp only)) | fail "no step")
  rename Fr _ _ _ _ => F3
  rename News _ _ _ _ => N3
  k_dflt (refine' use (fun C => law_bare_does C l f1 f2 _) F3 N3 X T rfl (Nat.le_of_ble_eq_true rfl) (Nat.le_of_ble_eq_true rfl) ?_ (fun _ _ _ _ _ _ hf => hf.elim))
  rintro v4 h4 tk4 F4 N4 k4 ⟨t4, rfl⟩
  rw [f3]
  walk_at "mine steps"
  show wpD _ _ (execs _ _) _ _ _
  refine wpD_execs_any ?_
  have hx1 : (S l).length ≤ 900000 := by rw [S_len]; omega
  walk_at "mine steps"
  · exfalso
    rename (S (brn l) != S (brn l)) = true => hbad
    simp at hbad
  have hbl := brn_len l
  have hb49 : (brn l).length ≤ 49 := Nat.le_trans hbl f1
  have hx60 : (S (brn l)).length ≤ 60 := by rw [S_len]; omega
  clear f2 f3
  show wpD _ _ (execs _ _) _ _ _
  refine wpD_execs_any ?_
  repeat' (
    (fail_if_success (with_reducible show wpAny _ _ (call (Value.ref 245) _ _) _ _ _))
    first | (k_unfold; (try dsimp only)) | walk1 | (dsimp only; walk1) | (leave1; (try dsimp only)) | fail "no step")
  rename Fr _ _ _ _ => F5
  rename News _ _ _ _ => N5
  k_dflt (refine' use (fun C => law_fault_does C (brn l) (by omega) _) F5 N5 X T rfl (Nat.le_of_ble_eq_true rfl) (Nat.le_of_ble_eq_true rfl) ?_ (fun _ _ _ _ _ _ hf => hf.elim))
  rintro v6 h6 tk6 F6 N6 k6 ⟨r, t6, rfl, hf⟩
  have f4' := f4 r hf
  clear f4 hf
  walk_at "mine steps"
  show wpD _ _ (execs _ _) _ _ _
  refine wpD_execs_any ?_
  repeat' (
    (fail_if_success (with_reducible show wpAny _ _ (call (Value.ref 252) _ _) _ _ _))
    first | (k_unfold; (try dsimp only)) | walk1 | (dsimp only; walk1) | (leave1; (try dsimp only)) | fail "no step")
  rename Fr _ _ _ _ => F7
  rename News _ _ _ _ => N7
  k_dflt (refine' made_use (S l) (by rw [S_len]; omega) _ F7 N7 ⟨X, T⟩ rfl (fun h => by cases h) rfl rfl (Nat.le_of_ble_eq_true rfl) (Nat.le_of_ble_eq_true rfl) ?_)
  intro a8 v1 v2 h8 tk8 F8 N8 hmr
  rw [MadeRes, S_toList] at hmr
  have hcase : (scan 0 0 (brn l) = none ∧ r = -1 ∧ ∃ t t2, v1 = Value.str (S (brn l)) t ∧ v2 = Value.int (-1) t2) ∨ ∃ (k : Nat) (t2 : Tok), scan 0 0 (brn l) = some k ∧ r = k ∧ v1 = Value.none ∧ v2 = Value.int (k : Int) t2 := by
    rcases hmr with ⟨q, t, t2, e1, e2⟩ | ⟨k, t2, q, e1, e2⟩
    · rcases f4' with ⟨e3, _⟩ | ⟨k', _, q'⟩
      · exact .inl ⟨q, e3, t, t2, e1, e2⟩
      · rw [q] at q'; cases q'
    · rcases f4' with ⟨_, q'⟩ | ⟨k', e3, q'⟩
      · rw [q] at q'; cases q'
      · rw [q] at q'; cases q'
        exact .inr ⟨k, t2, q, e3, e1, e2⟩
  clear hmr f4'
  rcases hcase with ⟨hsc, rfl, tA, tB, rfl, rfl⟩ | ⟨kf, tB, hsc, rfl, rfl, rfl⟩
  rotate_left
  · walk_at "mine steps"
    show wpD _ _ (execs _ _) _ _ _
    refine wpD_execs_any ?_
    walk_at "mine steps"
    all_goals rename Fr _ _ _ _ => F9
    · exact hQ _ _ _ _ F9
  walk_at "mine steps"
  rename Fr _ _ _ _ => F9
  rename News _ _ _ _ => N9
  refine ne_pair (News.get N9 (.tail _ (.head _))) (News.get N9 (.head _)) (strOk_S fok) (strOk_S fok) (Nat.le_of_ble_eq_true rfl) ?_
  rw [show (!(S (brn l) == S (brn l) && decide ((-1 : Int) = -1))) = false by simp]
  walk_at "mine steps"
  show wpD _ _ (execs _ _) _ _ _
  refine wpD_execs_any ?_
  walk_at "mine steps"
  rename Fr _ _ _ _ => F10
  rename News _ _ _ _ => N10
  show wpD _ _ (execs _ _) _ _ _
  refine wpD_execs_any ?_
  k_dflt (refine' For_invVF F10 ?k1 ?k2 ?_; (case k1 => exact rfl); (case k2 => exact rfl))
  have hx900 : (S (brn l)).length ≤ 900000 := by omega
  repeat' (
    (fail_if_success (with_reducible show wpAny _ _ (pyIter _) _ _ _))
    (fail_if_success (with_reducible show wpAny _ _ (call (Value.ref 212) _ _) _ _ _))
    first | (k_unfold; (try dsimp only)) | walk1 | (dsimp only; walk1) | (leave1; (try dsimp only)) | fail "no step")
  rename Fr _ _ _ _ => F11
  rename News _ _ _ _ => N11
  k_dflt (refine' useN2 (fun C => parents_does C (S (brn l)) hx900 _) F11 N11 X T rfl (Nat.le_of_ble_eq_true rfl) (Nat.le_of_ble_eq_true rfl) ?_ (fun _ _ _ _ _ _ hf => hf.elim))
  intro v12 nw12 h12 tk12 F12 N12 k12 r12
  obtain ⟨a12, its12, kk12, rfl, rfl, hS12⟩ := r12
  rw [S_toList] at hS12
  simp only [List.cons_append, List.nil_append] at N12
  repeat' (
    (fail_if_success (with_reducible show wpAny _ _ (pyIter _) _ _ _))
    first | (k_unfold; (try dsimp only)) | walk1 | (dsimp only; walk1) | (leave1; (try dsimp only)) | fail "no step")
  have hps60 : (parL (brn l)).length ≤ 60 := Nat.le_trans (prs_le (brn l) []) (by omega)
  have hi12 : its12.size ≤ 60 := by have := strsAre_len hS12; rw [Array.length_toList, List.length_map] at this; omega
  refine kmk_add_lit F12 N12 ⟨_, News.get N12 (.tail _ (.head _)), rfl, _, rfl⟩ ⟨_, News.get N12 (.head _), rfl, _, rfl⟩ rfl ?_ (by show 2 + its12.toList.length ≤ _; rw [Array.length_toList, sizeLine_eq]; omega)
  intro D13 h13 F13 N13 lt13
  obtain ⟨tS, zs, hzs, hN13⟩ : ∃ (tS : Tok) (zs : List Value), [Value.str (S (brn l)) t4, Value.str (S (brn l) ++ PySem.Str.ofString "/") tS] ++ its12.toList = zs ∧ News s.heap _ h13 ((D13, W.listOf zs.toArray 0) :: _) := ⟨_, _, rfl, N13⟩
  have hS13 : StrsAre zs ((brn l :: (brn l ++ [47]) :: parL (brn l)).map S) := by
    rw [← hzs]
    refine strsAre_app (xs := [S (brn l), S (brn l ++ [47])]) ?_ hS12
    rw [lit_slash, show (⟨#[47]⟩ : PySem.Str) = S [47] from rfl, S_app]
    exact .cons _ _ (.cons _ _ .nil)
  clear hzs N13 hS12 N12 k12 lt13
  obtain ⟨oc, dc, hN14⟩ : ∃ oc : Obj, oc.data = Data.cell (some (Value.str (S (brn l)) t4)) ∧ News s.heap _ h13 [(D13, W.listOf zs.toArray 0), (_, oc)] :=
    ⟨_, by assumption, fun p hp => by
      simp only [List.mem_cons, List.not_mem_nil, or_false] at hp
      rcases hp with rfl | rfl
      · exact hN13 _ (.head _)
      · exact hN13 _ (.tail _ (.tail _ (.tail _ (.tail _ (.tail _ (.head _))))))⟩
  clear hN13
  have f5' := f5 hsc
  refine loop_made (fun _ _ nx => nx = [(D13, W.listOf zs.toArray 0), (_, oc)]) rfl (.head _) F13 hN14 rfl (fun i m' nx hJ => by rw [hJ]; exact .head _) ?_ ?_
  · intro i v m₁ news₁ h tk own hv ha' hoff hJ F N
    subst hJ
    obtain ⟨o, to, ho, rfl⟩ : ∃ o to, o ∈ brn l :: (brn l ++ [47]) :: parL (brn l) ∧ v = .str (S o) to := by
      obtain ⟨y, ty, e1, e2⟩ := strsAre_get hS13 (i := i) (v := v) (by simpa using hv)
      obtain ⟨o, ho, e3⟩ := List.mem_map.mp (List.mem_of_getElem? e1)
      exact ⟨o, ty, ho, by rw [e2, ← e3]⟩
    obtain ⟨ok1, ol, osc, odue⟩ := f5' o ho
    have hxo : (S o).length ≤ 60 := by rw [S_len]; exact ol
    clear f5' f5 ho
    repeat' (
      (fail_if_success (with_reducible show wpAny _ _ (call (Value.ref 252) _ _) _ _ _))
      first | (k_unfold; (try dsimp only)) | walk1 | (dsimp only; walk1) | (leave1; (try dsimp only)) | fail "no step")
    · have hbr : brn o = brn l := by
        rename (S o != S (brn l)) = true => q1
        rename (Txt.slice (S o) (some (-1)) none == _) = true => q2
        have hne : o ≠ [] := by rintro rfl; rw [last_nil] at q2; cases q2
        rw [last_is hne, decide_eq_true_eq] at q2
        rw [odue, if_pos ⟨fun e => by rw [e] at q1; simp at q1, q2⟩]
      rename Fr _ _ _ _ => F21
      rename News _ _ _ _ => N21
      k_dflt (refine' made_use (S o) (by omega) _ F21 N21 ⟨X, T⟩ rfl (fun h => by cases h) rfl rfl (Nat.le_of_ble_eq_true rfl) (Nat.le_of_ble_eq_true rfl) ?_)
      intro a22 v1 v2 h22 tk22 F22 N22 hmr
      rw [MadeRes, S_toList] at hmr
      obtain ⟨tA2, tB2, rfl, rfl⟩ : ∃ tA tB, v1 = Value.str (S (brn l)) tA ∧ v2 = Value.int (-1) tB := by
        rcases hmr with ⟨_, t, t2, e1, e2⟩ | ⟨k, t2, q, _⟩
        · exact ⟨t, t2, by rw [e1, hbr], e2⟩
        · rw [osc] at q; cases q
      clear hmr
      walk_at "mine steps"
      rename Fr _ _ _ _ => F23
      rename News _ _ _ _ => N23
      refine ne_pair (News.get N23 (.tail _ (.head _))) (News.get N23 (.head _)) (strOk_S fok) (strOk_S fok) (Nat.le_of_ble_eq_true rfl) ?_
      rw [show (!(S (brn l) == S (brn l) && decide ((-1 : Int) = -1))) = false by simp]
      walk_at "mine steps"
      refine InvEndN.intro (nx := [(D13, _), (_, oc)]) F23 N23 rfl rfl (fun p hp => ?_) (fun p hp => ?_)
      · simp only [List.mem_cons, List.not_mem_nil, or_false] at hp
        rcases hp with rfl | rfl
        · exact .tail _ (.tail _ (.head _))
        · exact .tail _ (.tail _ (.tail _ (.head _)))
      · exact .tail _ (.tail _ (.tail _ (.tail _ hp)))
    · have hbr : brn o = o := by
        rename (Txt.slice (S o) (some (-1)) none == _) = false => q2
        rw [odue, if_neg]
        rintro ⟨_, q3⟩
        have hne : o ≠ [] := by rintro rfl; cases q3
        rw [last_is hne, decide_eq_false_iff_not] at q2
        exact q2 q3
      rename Fr _ _ _ _ => F21
      rename News _ _ _ _ => N21
      k_dflt (refine' made_use (S o) (by omega) _ F21 N21 ⟨X, T⟩ rfl (fun h => by cases h) rfl rfl (Nat.le_of_ble_eq_true rfl) (Nat.le_of_ble_eq_true rfl) ?_)
      intro a22 v1 v2 h22 tk22 F22 N22 hmr
      rw [MadeRes, S_toList] at hmr
      obtain ⟨tA2, tB2, rfl, rfl⟩ : ∃ tA tB, v1 = Value.str (S (o)) tA ∧ v2 = Value.int (-1) tB := by
        rcases hmr with ⟨_, t, t2, e1, e2⟩ | ⟨k, t2, q, _⟩
        · exact ⟨t, t2, by rw [e1, hbr], e2⟩
        · rw [osc] at q; cases q
      clear hmr
      walk_at "mine steps"
      rename Fr _ _ _ _ => F23
      rename News _ _ _ _ => N23
      refine ne_pair (News.get N23 (.tail _ (.head _))) (News.get N23 (.head _)) (strOk_S ok1) (strOk_S ok1) (Nat.le_of_ble_eq_true rfl) ?_
      rw [show (!(S (o) == S (o) && decide ((-1 : Int) = -1))) = false by simp]
      walk_at "mine steps"
      refine InvEndN.intro (nx := [(D13, _), (_, oc)]) F23 N23 rfl rfl (fun p hp => ?_) (fun p hp => ?_)
      · simp only [List.mem_cons, List.not_mem_nil, or_false] at hp
        rcases hp with rfl | rfl
        · exact .tail _ (.tail _ (.head _))
        · exact .tail _ (.tail _ (.tail _ (.head _)))
      · exact .tail _ (.tail _ (.tail _ (.tail _ hp)))
    · have hbr : brn o = o := by
        rename (S o != S (brn l)) = false => q1
        rw [odue, if_neg]
        rintro ⟨q3, _⟩
        have := S_inj (of_decide_eq_true (by simpa using q1) : S o = S (brn l))
        exact q3 this
      rename Fr _ _ _ _ => F21
      rename News _ _ _ _ => N21
      k_dflt (refine' made_use (S o) (by omega) _ F21 N21 ⟨X, T⟩ rfl (fun h => by cases h) rfl rfl (Nat.le_of_ble_eq_true rfl) (Nat.le_of_ble_eq_true rfl) ?_)
      intro a22 v1 v2 h22 tk22 F22 N22 hmr
      rw [MadeRes, S_toList] at hmr
      obtain ⟨tA2, tB2, rfl, rfl⟩ : ∃ tA tB, v1 = Value.str (S (o)) tA ∧ v2 = Value.int (-1) tB := by
        rcases hmr with ⟨_, t, t2, e1, e2⟩ | ⟨k, t2, q, _⟩
        · exact ⟨t, t2, by rw [e1, hbr], e2⟩
        · rw [osc] at q; cases q
      clear hmr
      walk_at "mine steps"
      rename Fr _ _ _ _ => F23
      rename News _ _ _ _ => N23
      refine ne_pair (News.get N23 (.tail _ (.head _))) (News.get N23 (.head _)) (strOk_S ok1) (strOk_S ok1) (Nat.le_of_ble_eq_true rfl) ?_
      rw [show (!(S (o) == S (o) && decide ((-1 : Int) = -1))) = false by simp]
      walk_at "mine steps"
      refine InvEndN.intro (nx := [(D13, _), (_, oc)]) F23 N23 rfl rfl (fun p hp => ?_) (fun p hp => ?_)
      · simp only [List.mem_cons, List.not_mem_nil, or_false] at hp
        rcases hp with rfl | rfl
        · exact .tail _ (.tail _ (.head _))
        · exact .tail _ (.tail _ (.tail _ (.head _)))
      · exact .tail _ (.tail _ (.tail _ (.tail _ hp)))
  · intro m₁ news₁ h tk hJ F N
    subst hJ
    have hx100 : (S (brn l)).length ≤ 100 := by omega
    show wpD _ _ (execs _ _) _ _ _
    refine wpD_execs_cons (wpD_Return (wpD_And ?_))
    refine wpD_Compare1 ?_
    refine wpD_Call_Name ?_
    walk_at "mine steps"
    have hco : ∀ (i c : Nat), (S (brn l)).cps.toList[i]? = some c → (plainC c = true ∧ c ≠ 38) ∨ c = 233 := by rw [S_toList]; exact f6 hsc
    have hru : ∀ i, runLen ((S (brn l)).cps.toList.drop i) ≤ 15 := by rw [S_toList]; exact fun i => Nat.le_trans (f7 i) (by decide)
    have hus : (u7 (brn l)).toArray.size ≤ 1000 := by
      rw [List.size_toArray]
      have := u7_len (brn l).length (brn l) (Nat.le_refl _)
      omega
    refine wpD_callWithK (P := (hd.heap_39 w.params).In) rfl (keeps_K rfl) (wpD_evalArgs (wpD_spliced_cons (wpD_Call_Name ?_)))
    walk_at "mine steps"
    refine wpD_callWithK (P := (hd.heap_39 w.params).In) rfl (keeps_K rfl) ?_
    refine wpD_evalArgsB ⟨_, _, rfl⟩ ?_
    walk_at "mine steps"
    show wpD _ _ (call _ _ _) _ _ _
    refine useD (fun C' => utf7_octets_does C' (S (brn l)) hx100 hco hru _) F N X T rfl (Nat.le_of_ble_eq_true rfl) (Nat.le_of_ble_eq_true rfl) ?_
    rintro _ h31 tk31 F31 N31 k31 ⟨t31, rfl⟩
    rw [S_toList]
    show wpD _ _ (spliced _) _ _ _
    refine wpD_of_any ?_
    walk_at "mine steps"
    show wpD _ _ (call _ _ _) _ _ _
    have hscn : scan 0 0 (nrm (brn l)) = none := by rw [f8]; exact hsc
    refine wpD_of_any (use (fun C' => name_of_wire_does C' (u7 (brn l)).toArray hus (brn l) rfl (by omega) (f6 hsc) f7 hscn _) F31 N31 X T rfl (Nat.le_of_ble_eq_true rfl) (Nat.le_of_ble_eq_true rfl) ?_ (fun _ _ _ _ _ _ hf => hf.elim))
    rintro _ h32 tk32 F32 N32 k32 ⟨t32, rfl⟩
    rw [f8]
    walk_at "mine steps"
    · simp
    have hx900' : (S (brn l)).length ≤ 900000 := by omega
    repeat' (
      (fail_if_success (with_reducible show wpAny _ _ (call (Value.ref 212) _ _) _ _ _))
      first | (k_unfold; (try dsimp only)) | walk1 | (dsimp only; walk1) | (leave1; (try dsimp only)) | fail "no step")
    rename Fr _ _ _ _ => F33
    rename News _ _ _ _ => N33
    k_dflt (refine' useN2 (fun C => parents_does C (S (brn l)) hx900' _) F33 N33 X T rfl (Nat.le_of_ble_eq_true rfl) (Nat.le_of_ble_eq_true rfl) ?_ (fun _ _ _ _ _ _ hf => hf.elim))
    intro v34 nw34 h34 tk34 F34 N34 k34 r34
    obtain ⟨a34, its34, kk34, rfl, rfl, hS34⟩ := r34
    rw [S_toList] at hS34
    simp only [List.cons_append, List.nil_append] at N34
    repeat' (
      (fail_if_success (with_reducible show wpAny _ _ (pyIter _) _ _ _))
      first | (k_unfold; (try dsimp only)) | walk1 | (dsimp only; walk1) | (leave1; (try dsimp only)) | fail "no step")
    rename Fr _ _ _ _ => F35
    rename News _ _ _ _ => N35
    rename List.map _ _ = Txt.split _ _ => hsp
    rename List (PySem.Str × Tok) => vs
    rw [lit_slash, split_S] at hsp
    have hvl : vs.length = (spl (brn l)).length := by have := congrArg List.length hsp; simpa using this
    have hspl : (spl (brn l)).length ≤ 60 := by
      have := jn_len (spl (brn l))
      rw [jn_spl] at this
      omega
    have hps : parL (brn l) = _ := f9
    rename IsRange _ _ _ _ _ _ _ _ => hRg
    rw [hvl] at hRg
    obtain ⟨n, hn⟩ : ∃ n, (spl (brn l)).length = n + 1 := by obtain ⟨p, q, e⟩ := spl_ne (brn l); rw [e]; exact ⟨q.length, rfl⟩
    have hr1 : Builtin.Range.rangeSize 1 ((spl (brn l)).length : Int) 1 = ((n : Nat) : Int) := by rw [rangeSize_one, hn]; split <;> omega
    refine compIter_rangeM (n := n) (fun i y own => ∃ t, y = .str (S (jn ((spl (brn l)).take (i + 1)))) t) rfl hRg (range_small (by omega) (by omega) (by omega) (by omega)) hr1 F35 N35 (by rw [sizeLine_eq]; omega) ?_ ?_
    · intro i kc I oI C5 oC D5 m₂ ys h5 tk5 own E' hi hC hx F N off ne
      repeat' (
        (fail_if_success (with_reducible show wpAny _ _ (call (Value.builtin "str.join") _) _ _ _))
        first | (k_unfold; (try dsimp only)) | walk1 | (dsimp only; walk1) | (leave1; (try dsimp only)) | fail "no step")
      rename List.map _ _ = Txt.split _ _ => hsp2
      rename StrsAre (strValues _) _ => hSA2
      rename Fr _ _ _ _ => F6
      rename News _ _ _ _ => N6
      rw [lit_slash, split_S] at hsp2
      rw [hsp2] at hSA2
      refine join_list (ys := ((spl (brn l)).take (i + 1)).map S) (News.isList N6 (.head _)) ?_ ?_ ?_
      · rw [show (1 + (i : Int) * 1) = ((i + 1 : Nat) : Int) by omega, slicePick_upto', List.map_take]
        exact StrsAre.take' hSA2 (i + 1)
      · have hj := jn_len (spl (brn l))
        rw [jn_spl] at hj
        rw [sum_len_S, List.length_map]
        have h1 : ((spl (brn l)).take (i + 1)).flatten.length ≤ (spl (brn l)).flatten.length := by
          conv => rhs; rw [← List.take_append_drop (i + 1) (spl (brn l)), List.flatten_append, List.length_append]
          omega
        have h2 : ((spl (brn l)).take (i + 1)).length ≤ (spl (brn l)).length := by rw [List.length_take]; omega
        show _ + _ * 1 ≤ _
        omega
      · intro t' k'
        walk_at "mine tidy"
        rw [lit_slash, show (⟨#[47]⟩ : PySem.Str) = S [47] from rfl, txt_join_S, ← jn_w]
        exact CTurnM.intro [] F6 N6 (fun _ hp => .tail _ (.tail _ hp)) (fun _ hp => by cases hp) trivial ⟨_, rfl⟩
    · intro D5 ys h5 tk5 own F N hl' hy
      repeat' (
        (fail_if_success (with_reducible show wpAny _ _ (compareOp _ _ _) _ _ _))
        first | (k_unfold; (try dsimp only)) | walk1 | (dsimp only; walk1) | (leave1; (try dsimp only)) | fail "no step")
      have hpn : (spl (brn l)).length - 1 = n := by omega
      rw [hpn] at f9
      refine eq_strs_same (its2 := ys.toArray) (xs := (parL (brn l)).map S) (News.get N (.tail _ (.tail _ (.head _)))) (News.get N (.head _)) hS34 ?_ ?_ (Nat.le_of_ble_eq_true rfl) ?_
      · rw [f9, List.map_map]
        exact strsAre_rng (g := S ∘ fun i => jn ((spl (brn l)).take (i + 1))) hl' fun i hi => by
          obtain ⟨y, o, e1, _, t, e2⟩ := hy i hi
          exact ⟨t, by rw [e1, e2]; rfl⟩
      · intro x hx
        obtain ⟨o, ho, rfl⟩ := List.mem_map.mp hx
        exact strOk_S (f5' o (.tail _ (.tail _ ho))).1
      · exact hQ _ _ _ _ F
end
end
theorem hdp_cons (c : Nat) (r : List Nat) : hdp (c :: r) = if c = 47 then [] else c :: hdp r := by
  unfold hdp
  rw [List.takeWhile_cons]
  by_cases h : c = 47
  · rw [if_neg (by simp [h]), if_pos h]
  · rw [if_pos (by simpa using h), if_neg h]
theorem tlp_cons (c : Nat) (r : List Nat) : tlp (c :: r) = if c = 47 then c :: r else tlp r := by
  unfold tlp
  rw [List.dropWhile_cons]
  by_cases h : c = 47
  · rw [if_neg (by simp [h]), if_pos h]
  · rw [if_pos (by simpa using h), if_neg h]
theorem chop_concat (i : List Nat) (c : Nat) : chop (i ++ [c]) = if c = 47 then i else i ++ [c] := by
  unfold chop
  by_cases h : c = 47
  · rw [if_pos (by simp [h]), if_pos h]; simp
  · rw [if_neg (by simpa using h), if_neg h]
theorem chop_nil : chop [] = [] := by decide
/-- the head stays, the tail is cut -/
theorem hdp_chop : ∀ l : List Nat, hdp (chop l) = hdp l := by
  intro l
  rcases List.eq_nil_or_concat l with rfl | ⟨i, c, rfl⟩
  · rfl
  · rw [List.concat_eq_append, chop_concat]
    by_cases h : c = 47
    · rw [if_pos h, h]
      induction i with
      | nil => rfl
      | cons d i ih => rw [List.cons_append, hdp_cons, hdp_cons, ih]
    · rw [if_neg h]
theorem no_end_free {l : List Nat} (h : 47 ∉ l) : chop l = l := by
  unfold chop
  rw [if_neg]
  intro e
  exact h (List.mem_of_getLast? e)
theorem hdp_free : ∀ l : List Nat, 47 ∉ hdp l
  | [] => by decide
  | c :: r => by
    rw [hdp_cons]
    by_cases h : c = 47
    · rw [if_pos h]; simp
    · rw [if_neg h]
      intro hm
      rcases List.mem_cons.mp hm with e | hm
      · exact h e.symm
      · exact hdp_free r hm
theorem chop_app {a b : List Nat} (hb : b ≠ []) : chop (a ++ b) = a ++ chop b := by
  rcases List.eq_nil_or_concat b with rfl | ⟨i, c, rfl⟩
  · exact absurd rfl hb
  · rw [List.concat_eq_append, ← List.append_assoc, chop_concat, chop_concat]
    split <;> simp
theorem tlp_chop (l : List Nat) : tlp (chop l) = chop (tlp l) := by
  by_cases h : tlp l = []
  · have e := hd_tl l
    rw [h, List.append_nil] at e
    have hf := hdp_free l
    rw [e] at hf
    rw [no_end_free hf, h]; rfl
  · have e := hd_tl l
    have e2 : chop l = hdp l ++ chop (tlp l) := by
      conv => lhs; rw [← e]
      exact chop_app h
    have e3 := hd_tl (chop l)
    rw [hdp_chop] at e3
    rw [e2] at e3
    have := List.append_cancel_left e3
    rw [← e2] at this
    exact this
theorem brn_nc (l : List Nat) : brn l = nrm (chop l) := by
  unfold brn nrm
  rw [hdp_chop]
  by_cases h : (hdp l).map upc = [73, 78, 66, 79, 88]
  · rw [if_pos h, if_pos h, tlp_chop]
    by_cases ht : tlp l = []
    · rw [ht]; decide
    · exact chop_app ht
  · rw [if_neg h, if_neg h]
theorem spl_hd (l : List Nat) : ∃ q, spl l = hdp l :: q ∧ ∀ x : List Nat, 47 ∉ x → jn (x :: q) = x ++ tlp l := by
  induction l with
  | nil => exact ⟨[], rfl, fun x _ => by simp [jn, tlp]⟩
  | cons c r ih =>
    obtain ⟨q, e, hq⟩ := ih
    rw [spl]
    by_cases h : c = 47
    · rw [if_pos h, hdp_cons, if_pos h, tlp_cons, if_pos h]
      refine ⟨spl r, rfl, fun x _ => ?_⟩
      rw [e]
      show x ++ 47 :: jn (hdp r :: q) = _
      rw [← e, jn_spl, h]
    · rw [if_neg h, hdp_cons, if_neg h, tlp_cons, if_neg h, e]
      exact ⟨q, rfl, hq⟩
theorem lo_up : ∀ c ∈ alpha, ∀ d ∈ ([(105, 73), (110, 78), (98, 66), (111, 79), (120, 88)] : List (Nat × Nat)), (lo c = d.1 ↔ upc c = d.2) := by decide
theorem map_lo_up : ∀ (p : List Nat) (ds : List (Nat × Nat)), (∀ c ∈ p, c ∈ alpha) → (∀ d ∈ ds, d ∈ ([(105, 73), (110, 78), (98, 66), (111, 79), (120, 88)] : List (Nat × Nat))) → (p.map lo = ds.map (·.1) ↔ p.map upc = ds.map (·.2))
  | [], [], _, _ => by simp
  | [], _ :: _, _, _ => by simp
  | _ :: _, [], _, _ => by simp
  | c :: p, d :: ds, hp, hd => by
    have h1 := lo_up c (hp c (.head _)) d (hd d (.head _))
    have h2 := map_lo_up p ds (fun x hx => hp x (.tail _ hx)) fun x hx => hd x (.tail _ hx)
    simp only [List.map_cons, List.cons.injEq]
    rw [h1, h2]
theorem lb_brn {l : List Nat} (h : ∀ c ∈ l, c ∈ alpha) : lb l = brn l := by
  rw [brn_nc, lb]
  have hc : ∀ c ∈ chop l, c ∈ alpha := by
    intro c hc
    refine h c ?_
    unfold chop at hc
    split at hc
    · exact List.dropLast_subset _ hc
    · exact hc
  generalize chop l = m at hc
  obtain ⟨q, e, hq⟩ := spl_hd m
  have hm := map_lo_up (hdp m) [(105, 73), (110, 78), (98, 66), (111, 79), (120, 88)] (fun c hx => hc c (List.takeWhile_subset _ hx)) fun d hd => hd
  simp only [List.map_cons, List.map_nil] at hm
  rw [e, lbp, nrm]
  by_cases hu : (hdp m).map upc = [73, 78, 66, 79, 88]
  · rw [if_pos hu, if_pos (hm.mpr hu)]
    exact hq _ (by decide)
  · rw [if_neg hu, if_neg (fun x => hu (hm.mp x)), ← e, jn_spl]
noncomputable def pfr : Nat → List Nat → List Nat
  | _, [] => []
  | a, c :: r => (if bad c = true then [a] else []) ++ pfr (a + 1) r
theorem pfn_pfr : ∀ (p : List Nat) (a : Nat), pfn a p p.length = pfr a p
  | [], a => by rw [List.length_nil, pfn_zero]; rfl
  | c :: r, a => by
    have ih := pfn_pfr r (a + 1)
    rw [pfr, ← ih]
    unfold pfn
    rw [List.length_cons, List.range_succ_eq_map, List.filter_cons, List.filter_map]
    have e1 : (fun i => bad ((c :: r).getD i 0)) ∘ Nat.succ = fun i => bad (r.getD i 0) := by funext i; simp
    rw [e1]
    have e2 : ((fun i => a + i) ∘ Nat.succ) = fun i => a + 1 + i := by funext i; show a + (i + 1) = a + 1 + i; omega
    by_cases h : bad c = true
    · rw [if_pos (by simpa using h), if_pos h, List.map_cons, List.map_map, e2]
      rfl
    · rw [if_neg (by simpa using h), if_neg h, List.map_map, e2]
      rfl
theorem pf_pfr (a : Nat) (p : List Nat) : pf a p = if p = [] then [a] else pfr a p := by
  unfold pf
  by_cases h : p = []
  · rw [if_pos h, if_pos h, h, List.length_nil, pfn_zero]; rfl
  · rw [if_neg h, if_neg h, pfn_pfr]; rfl
/-- a code that the two tests tell alike -/
noncomputable def tame (c : Nat) : Prop := c ≠ 8232 ∧ c ≠ 8233
theorem bad_is {c : Nat} (h : tame c) : (c = 37 ∨ c = 42 ∨ barred (c : Int) = true) ↔ bad c = true := by
  obtain ⟨h1, h2⟩ := h
  unfold bad barred
  simp only [decide_eq_true_eq]
  refine ⟨fun h => ?_, fun h => ?_⟩
  · rcases h with h | h | h | ⟨h, h'⟩ | h | h | ⟨h, h'⟩
    · exact .inr (.inl h)
    · exact .inl h
    · exact .inr (.inr (.inl (Int.ofNat_lt.mp h)))
    · exact .inr (.inr (.inr (.inl ⟨Int.ofNat_le.mp h, Nat.lt_succ_of_le (Int.ofNat_le.mp h')⟩)))
    · exact absurd (Int.ofNat.inj h) h1
    · exact absurd (Int.ofNat.inj h) h2
    · exact .inr (.inr (.inr (.inr ⟨Int.ofNat_le.mp h, Nat.lt_succ_of_le (Int.ofNat_le.mp h')⟩)))
  · rcases h with h | h | h | ⟨h, h'⟩ | ⟨h, h'⟩
    · exact .inr (.inl h)
    · exact .inl h
    · exact .inr (.inr (.inl (Int.ofNat_lt.mpr h)))
    · exact .inr (.inr (.inr (.inl ⟨Int.ofNat_le.mpr h, Int.ofNat_le.mpr (Nat.le_of_lt_succ h')⟩)))
    · exact .inr (.inr (.inr (.inr (.inr (.inr ⟨Int.ofNat_le.mpr h, Int.ofNat_le.mpr (Nat.le_of_lt_succ h')⟩)))))
theorem scan_part (b : Nat) : ∀ (q R : List Nat) (a : Nat), 47 ∉ q → (∀ c ∈ q, tame c) → scan b a (q ++ R) = match (pfr a q).head? with | some k => some k | none => scan b (a + q.length) R
  | [], R, a, _, _ => rfl
  | c :: q, R, a, h, ht => by
    have h47 : c ≠ 47 := fun e => h (by rw [e]; exact .head _)
    have hb := bad_is (ht c (.head _))
    rw [List.cons_append, scan, if_neg h47, pfr]
    by_cases hc : bad c = true
    · rw [if_pos (hb.mpr hc), if_pos hc]; rfl
    · rw [if_neg (fun x => hc (hb.mp x)), if_neg hc, List.nil_append, scan_part b q R (a + 1) (fun x => h (.tail _ x)) fun d hd => ht d (.tail _ hd), List.length_cons, show a + 1 + q.length = a + (q.length + 1) by omega]
theorem scan_lf : ∀ (ps : List (List Nat)) (a : Nat), ps ≠ [] → (∀ p ∈ ps, 47 ∉ p) → (∀ p ∈ ps, ∀ c ∈ p, tame c) → scan a a (jn ps) = (lf a ps).head?
  | [], _, h, _, _ => absurd rfl h
  | [p], a, _, h, ht => by
    have e := scan_part a p [] a (h p (.head _)) (ht p (.head _))
    rw [List.append_nil] at e
    rw [jn, e, lf, lf, List.append_nil, pf_pfr]
    by_cases hp : p = []
    · subst hp
      show scan a a [] = _
      rw [scan, if_pos rfl, if_pos rfl]; rfl
    · rw [if_neg hp]
      cases hh : (pfr a p).head? with
      | some k => rfl
      | none =>
        show scan a (a + p.length) [] = none
        have := List.length_pos_iff.mpr hp
        rw [scan, if_neg (by omega)]
  | p :: q :: r, a, _, h, ht => by
    have ih := scan_lf (q :: r) (a + p.length + 1) (by simp) (fun x hx => h x (.tail _ hx)) fun x hx => ht x (.tail _ hx)
    have e := scan_part a p (47 :: jn (q :: r)) a (h p (.head _)) (ht p (.head _))
    rw [jn, e, lf, pf_pfr]
    by_cases hp : p = []
    · subst hp
      show scan a a (47 :: jn (q :: r)) = _
      rw [scan, if_pos rfl, if_pos rfl, if_pos rfl]; rfl
    · rw [if_neg hp]
      cases hh : (pfr a p).head? with
      | some k => rw [List.head?_append, hh]; rfl
      | none =>
        show scan a (a + p.length) (47 :: jn (q :: r)) = _
        have := List.length_pos_iff.mpr hp
        rw [scan, if_pos rfl, if_neg (by omega), ih, List.head?_append, hh]; rfl
theorem pfr_in : ∀ (p : List Nat) (a k : Nat), k ∈ pfr a p → a ≤ k ∧ k < a + p.length
  | [], _, _, h => by cases h
  | c :: p, a, k, h => by
    rw [pfr] at h
    rw [List.length_cons]
    rcases List.mem_append.mp h with h | h
    · split at h
      · rw [List.mem_singleton.mp h]; omega
      · cases h
    · have := pfr_in p (a + 1) k h
      omega
theorem pfr_sorted : ∀ (p : List Nat) (a : Nat), (pfr a p).Pairwise (· ≤ ·)
  | [], _ => .nil
  | c :: p, a => by
    rw [pfr, List.pairwise_append]
    refine ⟨?_, pfr_sorted p (a + 1), fun x hx y hy => ?_⟩
    · split
      · exact List.pairwise_singleton _ _
      · exact .nil
    · have := pfr_in p (a + 1) y hy
      split at hx
      · rw [List.mem_singleton.mp hx]; omega
      · cases hx
theorem pf_in {p : List Nat} {a k : Nat} (h : k ∈ pf a p) : a ≤ k ∧ k ≤ a + p.length := by
  rw [pf_pfr] at h
  split at h
  · rw [List.mem_singleton.mp h]; omega
  · have := pfr_in p a k h
    omega
theorem lf_ge : ∀ (ps : List (List Nat)) (a k : Nat), k ∈ lf a ps → a ≤ k
  | [], _, _, h => by cases h
  | p :: ps, a, k, h => by
    rw [lf] at h
    rcases List.mem_append.mp h with h | h
    · exact (pf_in h).1
    · have := lf_ge ps _ k h
      omega
theorem lf_sorted : ∀ (ps : List (List Nat)) (a : Nat), (lf a ps).Pairwise (· ≤ ·)
  | [], _ => .nil
  | p :: ps, a => by
    rw [lf, List.pairwise_append]
    refine ⟨?_, lf_sorted ps _, fun x hx y hy => ?_⟩
    · rw [pf_pfr]
      split
      · exact List.pairwise_singleton _ _
      · exact pfr_sorted p a
    · have h1 := pf_in hx
      have h2 := lf_ge ps _ y hy
      omega
theorem fault_scan {l : List Nat} (ht : ∀ c ∈ l, tame c) {r : Int} (h : FaultIs l r) : (r = -1 ∧ scan 0 0 l = none) ∨ ∃ k : Nat, r = k ∧ scan 0 0 l = some k := by
  have hne : spl l ≠ [] := by obtain ⟨p, q, e⟩ := spl_ne l; rw [e]; simp
  have e := scan_lf (spl l) 0 hne (spl_free l) fun p hp c hc => ht c ((spl_mem l p hp).1 c hc)
  rw [jn_spl] at e
  have hs := lf_sorted (spl l) 0
  rcases h with ⟨h1, h2⟩ | ⟨k, hk, hmin, rfl⟩
  · exact .inl ⟨h2, by rw [e, h1]; rfl⟩
  · refine .inr ⟨k, rfl, ?_⟩
    rw [e]
    cases hl : lf 0 (spl l) with
    | nil => rw [hl] at hk; cases hk
    | cons x t =>
      rw [hl] at hk hmin hs
      have h1 := hmin x (.head _)
      have h2 : x ≤ k := by
        rcases List.mem_cons.mp hk with rfl | hk
        · exact Nat.le_refl _
        · exact (List.pairwise_cons.mp hs).1 k hk
      show some x = some k
      congr 1
      omega
theorem scan_end : ∀ (i : List Nat) (b a : Nat), scan b a (i ++ [47]) ≠ none
  | [], b, a => by
    rw [List.nil_append, scan, if_pos rfl]
    by_cases h : a = b
    · rw [if_pos h]; simp
    · rw [if_neg h, scan, if_pos rfl]; simp
  | c :: i, b, a => by
    rw [List.cons_append, scan]
    split
    · split
      · simp
      · exact scan_end i _ _
    · split
      · simp
      · exact scan_end i _ _
theorem scan_pre : ∀ (p r : List Nat) (b a : Nat), scan b a (p ++ 47 :: r) = none → scan b a p = none
  | [], r, b, a, h => by
    rw [List.nil_append, scan, if_pos rfl] at h
    rw [scan]
    split at h
    · cases h
    · rw [if_neg (by omega)]
  | c :: p, r, b, a, h => by
    rw [List.cons_append, scan] at h
    rw [scan]
    split at h
    · rename_i h47
      rw [if_pos h47]
      split at h
      · cases h
      · rename_i h2
        rw [if_neg h2]
        exact scan_pre p r _ _ h
    · rename_i h47
      rw [if_neg h47]
      split at h
      · cases h
      · rename_i h2
        rw [if_neg h2]
        exact scan_pre p r _ _ h
theorem scan_codes : ∀ (l : List Nat) (b a : Nat), scan b a l = none → ∀ c ∈ l, c = 47 ∨ ¬ (c = 37 ∨ c = 42 ∨ barred (c : Int) = true)
  | [], _, _, _, _, h => by cases h
  | d :: l, b, a, h, c, hc => by
    rw [scan] at h
    split at h
    · rename_i h47
      split at h
      · cases h
      · rcases List.mem_cons.mp hc with rfl | hc
        · exact .inl h47
        · exact scan_codes l _ _ h c hc
    · split at h
      · cases h
      · rename_i h2
        rcases List.mem_cons.mp hc with rfl | hc
        · exact .inr h2
        · exact scan_codes l _ _ h c hc
theorem scan_chop {l : List Nat} (h : scan 0 0 l = none) : chop l = l := by
  unfold chop
  rw [if_neg]
  intro e
  obtain ⟨i, rfl⟩ : ∃ i, l = i ++ [47] := by
    have hne : l ≠ [] := by rintro rfl; cases e
    refine ⟨l.dropLast, ?_⟩
    have := List.dropLast_concat_getLast hne
    rw [List.getLast?_eq_some_getLast hne] at e
    simp only [Option.some.injEq] at e
    rw [e] at this
    exact this.symm
  exact scan_end i 0 0 h
theorem scan_ne {l : List Nat} (h : scan 0 0 l = none) : l ≠ [] := by
  rintro rfl
  rw [scan, if_pos rfl] at h
  cases h
theorem nrm_nrm (m : List Nat) : nrm (nrm m) = nrm m := by
  by_cases h : (hdp m).map upc = [73, 78, 66, 79, 88]
  · have e : nrm m = [73, 78, 66, 79, 88] ++ tlp m := by rw [nrm, if_pos h]
    have ht : tlp m = [] ∨ ∃ r, tlp m = 47 :: r := by
      cases hm : tlp m with
      | nil => exact .inl rfl
      | cons c r =>
        refine .inr ⟨r, ?_⟩
        have := List.head_dropWhile_not (p := (· != 47)) (l := m) (w := by show tlp m ≠ []; rw [hm]; simp)
        have e2 : (tlp m).head (by rw [hm]; simp) = c := by simp [hm]
        unfold tlp at e2
        rw [e2] at this
        simp at this
        rw [this]
    have h1 : hdp (nrm m) = [73, 78, 66, 79, 88] ∧ tlp (nrm m) = tlp m := by
      rw [e]
      rcases ht with ht | ⟨r, ht⟩
      · rw [ht]; decide
      · rw [ht]
        constructor
        · rfl
        · rfl
    have h2 : nrm (nrm m) = [73, 78, 66, 79, 88] ++ tlp (nrm m) := by
      rw [nrm, if_pos]
      rw [h1.1]; decide
    rw [h2, h1.2, e]
  · have e : nrm m = m := by rw [nrm, if_neg h]
    rw [e, e]
theorem brn_nrm (l : List Nat) : nrm (brn l) = brn l := by rw [brn_nc, nrm_nrm]
theorem brn_brn {l : List Nat} (h : scan 0 0 (brn l) = none) : brn (brn l) = brn l := by
  rw [brn_nc (brn l), scan_chop h, brn_nrm]
theorem prs_mem : ∀ (l a o : List Nat), o ∈ prs a l → ∃ r, a ++ l = o ++ 47 :: r
  | [], a, o, h => by cases h
  | c :: l, a, o, h => by
    rw [prs] at h
    split at h
    · rename_i h47
      rcases List.mem_cons.mp h with rfl | h
      · exact ⟨l, by rw [h47]⟩
      · obtain ⟨r, e⟩ := prs_mem l _ o h
        exact ⟨r, by rw [← e]; simp⟩
    · obtain ⟨r, e⟩ := prs_mem l _ o h
      exact ⟨r, by rw [← e]; simp⟩
theorem hdp_pre (p r : List Nat) : hdp (p ++ 47 :: r) = hdp p := by
  induction p with
  | nil => rfl
  | cons c p ih => rw [List.cons_append, hdp_cons, hdp_cons, ih]
theorem tlp_pre (p r : List Nat) : tlp (p ++ 47 :: r) = tlp p ++ 47 :: r := by
  induction p with
  | nil => rfl
  | cons c p ih =>
    rw [List.cons_append, tlp_cons, tlp_cons, ih]
    split
    · rfl
    · rfl
theorem nrm_pre {p r : List Nat} (h : nrm (p ++ 47 :: r) = p ++ 47 :: r) : nrm p = p := by
  rw [nrm, hdp_pre, tlp_pre] at h
  rw [nrm]
  by_cases q : (hdp p).map upc = [73, 78, 66, 79, 88]
  · rw [if_pos q] at h
    rw [if_pos q]
    rw [← List.append_assoc] at h
    exact List.append_cancel_right h
  · rw [if_neg q]
theorem nrm_mem {m : List Nat} {c : Nat} (h : c ∈ nrm m) : c ∈ m ∨ c ∈ ([73, 78, 66, 79, 88] : List Nat) := by
  unfold nrm at h
  split at h
  · rcases List.mem_append.mp h with h | h
    · exact .inr h
    · exact .inl (List.dropWhile_subset _ h)
  · exact .inl h
theorem chop_mem {m : List Nat} {c : Nat} (h : c ∈ chop m) : c ∈ m := by
  unfold chop at h
  split at h
  · exact List.dropLast_subset _ h
  · exact h
theorem box_alpha : ∀ c ∈ ([73, 78, 66, 79, 88] : List Nat), c ∈ alpha := by decide
theorem brn_alpha {l : List Nat} (h : ∀ c ∈ l, c ∈ alpha) : ∀ c ∈ brn l, c ∈ alpha := by
  intro c hc
  rcases nrm_mem (chop_mem (m := nrm l) hc) with hc | hc
  · exact h c hc
  · exact box_alpha c hc
theorem alpha_small : ∀ c ∈ alpha, c < 1114112 ∧ tame c := by
  have : ∀ c ∈ alpha, c < 1114112 ∧ c ≠ 8232 ∧ c ≠ 8233 := by decide
  exact this
theorem alpha_codes : ∀ c ∈ alpha, (c = 47 ∨ ¬ (c = 37 ∨ c = 42 ∨ barred (c : Int) = true)) → (plainC c = true ∧ c ≠ 38) ∨ c = 233 := by decide
noncomputable def np (l : List Nat) : Nat := (l.filter fun c => !plainC c).length
theorem np_app (a b : List Nat) : np (a ++ b) = np a + np b := by unfold np; rw [List.filter_append, List.length_append]
theorem np_sub {a b : List Nat} (h : a.Sublist b) : np a ≤ np b := (h.filter _).length_le
theorem run_np : ∀ l : List Nat, runLen l ≤ np l
  | [] => Nat.le_refl _
  | c :: l => by
    have ih := run_np l
    unfold runLen np at *
    rw [List.takeWhile_cons, List.filter_cons]
    split
    · simp only [List.length_cons]; omega
    · exact Nat.zero_le _
theorem np_menu : ∀ x ∈ menuL, np x ≤ 1 := by decide
theorem np_flat : ∀ {xs : List (List Nat)}, (∀ x ∈ xs, x ∈ menuL) → np xs.flatten ≤ xs.length
  | [], _ => Nat.le_refl _
  | x :: xs, h => by
    have h1 := np_menu x (h x (.head _))
    have := np_flat fun z hz => h z (.tail _ hz)
    rw [List.flatten_cons, np_app, List.length_cons]
    omega
theorem np_brn (l : List Nat) : np (brn l) ≤ np l := by
  have h1 : np (brn l) ≤ np (nrm l) := by
    unfold brn chop
    split
    · exact np_sub (List.dropLast_sublist _)
    · exact Nat.le_refl _
  have h2 : np (nrm l) ≤ np l := by
    unfold nrm
    split
    · rw [np_app]
      have := np_sub (List.dropWhile_sublist (l := l) (p := (· != 47)))
      have e : np [73, 78, 66, 79, 88] = 0 := by decide
      unfold tlp
      omega
    · exact Nat.le_refl _
  omega
theorem prs_spl : ∀ (l a : List Nat), prs a l = (List.range ((spl l).length - 1)).map fun i => a ++ jn ((spl l).take (i + 1))
  | [], a => rfl
  | c :: r, a => by
    obtain ⟨p, q, e⟩ := spl_ne r
    rw [prs, spl]
    by_cases h : c = 47
    · rw [if_pos h, if_pos h, prs_spl r, List.length_cons, Nat.add_sub_cancel]
      have hl : (spl r).length = ((spl r).length - 1) + 1 := by rw [e]; rfl
      conv => rhs; rw [hl, List.range_succ_eq_map]
      rw [List.map_cons, List.map_map]
      congr 1
      · simp [jn]
      · refine List.map_congr_left fun i _ => ?_
        show _ = a ++ jn (([] : List Nat) :: (spl r).take (i + 1))
        rw [e, List.take_succ_cons]
        rw [jn, h]
        simp
    · rw [if_neg h, if_neg h, prs_spl r, e]
      simp only [List.length_cons]
      refine List.map_congr_left fun i _ => ?_
      rw [List.take_succ_cons, List.take_succ_cons]
      cases hq : q.take i with
      | nil => simp [jn]
      | cons y t => simp [jn]
theorem the_facts : ∀ xs : List (List Nat), xs.length ≤ 7 → (∀ x ∈ xs, x ∈ menuL) → LawFacts xs.flatten := by
  intro xs h7 hm
  have hlen : xs.flatten.length ≤ 49 := by
    have := flat_len fun x hx => menu_len x (hm x hx)
    omega
  have hal : ∀ c ∈ xs.flatten, c ∈ alpha := by
    intro c hc
    obtain ⟨x, hx, hcx⟩ := List.mem_flatten.mp hc
    exact List.mem_flatten.mpr ⟨x, hm x hx, hcx⟩
  have hnp := np_flat hm
  generalize xs.flatten = l at *
  have hab := brn_alpha hal
  have hbl := brn_len l
  refine ⟨hlen, hal, lb_brn hal, fun r hr => fault_scan (fun c hc => (alpha_small c (hab c hc)).2) hr, fun c hc => (alpha_small c (hab c hc)).1, ?_, ?_, ?_, brn_nrm l, ?_⟩
  · intro hs o ho
    have hbb := brn_brn hs
    have hn := brn_nrm l
    rcases List.mem_cons.mp ho with rfl | ho
    · refine ⟨fun c hc => (alpha_small c (hab c hc)).1, by omega, by rw [hbb]; exact hs, ?_⟩
      rw [hbb, if_neg (fun x => x.1 rfl)]
    rcases List.mem_cons.mp ho with rfl | ho
    · have e : brn (brn l ++ [47]) = brn l := by rw [brn_nc, chop_concat, if_pos rfl, hn]
      refine ⟨fun c hc => ?_, by rw [List.length_append, List.length_singleton]; omega, by rw [e]; exact hs, ?_⟩
      · rcases List.mem_append.mp hc with hc | hc
        · exact (alpha_small c (hab c hc)).1
        · rw [List.mem_singleton.mp hc]; decide
      · rw [e, if_pos]
        refine ⟨fun x => ?_, by simp⟩
        have := congrArg List.length x
        simp at this
    · obtain ⟨r, e⟩ := prs_mem (brn l) [] o ho
      rw [List.nil_append] at e
      have hso : scan 0 0 o = none := scan_pre o r 0 0 (by rw [← e]; exact hs)
      have hno : nrm o = o := nrm_pre (r := r) (by rw [← e]; exact hn)
      have hco := scan_chop hso
      have hbo : brn o = o := by rw [brn_nc, hco, hno]
      have hle : o.length ≤ (brn l).length := by rw [e, List.length_append]; omega
      refine ⟨fun c hc => (alpha_small c (hab c (by rw [e]; exact List.mem_append_left _ hc))).1, by omega, by rw [hbo]; exact hso, ?_⟩
      rw [hbo, if_neg]
      rintro ⟨_, h47⟩
      rw [chop, if_pos h47] at hco
      have := congrArg List.length hco
      rw [List.length_dropLast] at this
      have := List.length_pos_iff.mpr (scan_ne hso)
      omega
  · intro hs i c hc
    have hm := List.mem_of_getElem? hc
    exact alpha_codes c (hab c hm) (scan_codes _ 0 0 hs c hm)
  · intro i
    have h1 := run_np ((brn l).drop i)
    have h2 := np_sub (List.drop_sublist i (brn l))
    have h3 := np_brn l
    omega
  · have := prs_spl (brn l) []
    unfold parL
    rw [this]
    simp
theorem law_holds : PySem.Challenge.rw_or0051_01.Holds := by
  refine holds_law said fun said => ?_
  refine Mine.PySem.W.holds_open (r := PySem.Challenge.rw_or0051_01.row) (q := hd.view_39) (loose := [PySem.Str.ofString "PostError"]) (Xt := fun s => xlAt hd.view_39 [] s && recOk (RowW.records (OpenRow.toRowW PySem.Challenge.rw_or0051_01.row)) s) (XP := XL hd.view_39 [])
    (Yf := Hook.obs (kHook hd.heap_39 hd.adr (fun _ => by kernel_rfl))) (Ya := Hook.val (kHook hd.heap_39 hd.adr (fun _ => by kernel_rfl))) (YP := Hook.says (kHook hd.heap_39 hd.adr (fun _ => by kernel_rfl))) (N := 3456) left_once (Hook.of (kHook hd.heap_39 hd.adr (fun _ => by kernel_rfl))) (Hook.keeps (kHook hd.heap_39 hd.adr (fun _ => by kernel_rfl)))
    (fun s e => xl_of s (Bool.and_eq_true_iff.mp e).1) XL.keeps (by rfl) (by rfl) (by rfl) (fun s e => recFacts_of (Bool.and_eq_true_iff.mp e).2) (by rfl) (by first | assumption | decide +kernel) (by decide +kernel) ⟨rfl, rfl, rfl, rfl, rfl, by decide +kernel⟩ ?hw ?hc
  case hw => w_witness2
  case hc =>
    walk_at "mine fill"
    intro w s₀ s₁ mg mb G Y fa o pm cd doc dV kV ho hdd hcd hD hmg hg args vals as hpre hlay hrd hwl hlo
    have KX := kIn_of Y
    refine Ground.open G ?_
    intro T B D TE TW
    have h257 : mg (PySem.Str.ofString "law") = some (.ref 257) := mg_of KX T.g (by k_is)
    have hfa : fa = 257 := by
      have : mg (PySem.Str.ofString "law") = some (.ref fa) := hmg
      rw [h257] at this
      cases this
      rfl
    subst hfa
    clear hmg ho hdd hcd hD
    wrow_args hpre hlay hrd hwl hlo
    rename Heap.IsList _ _ _ => hL
    rename IntsAre _ _ => hI
    refine wpD_weak (law_walk ⟨KX, T⟩ _ _ _ hL (by simpa using hI) (by omega) the_facts ?_)
    intro L m h' tk' F
    exact GoodW.toG (goodW_bool F hg (raisesW_false (by wrow_none_raised)) (by wrow_post))
end Mine
theorem PySem.Challenge.cw_or0051_01_holds : PySem.Challenge.rw_or0051_01.Holds :=
  Mine.law_holds
